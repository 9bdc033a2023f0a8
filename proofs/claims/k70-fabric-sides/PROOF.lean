import PyProof.Rows.All
import Wide.All
import OpenK.AllK
import Wide.FinOn
import HandS.ForMost
import HandS.Flow
import HandS.Zip
import HandS.TupAny
import HandS.WideBits
import HandS.Defaults
import HandS.IsInst
import KE.KeyNested
import KE.KDictKeyed
import HandS.Wide
import HandS.Style
import HandS.TupMul
import PyProof.NeKinds
import HandS.TupLen
import HandS.SetKeys
import HandS.SortRule
import HandS.SortInts
import KE.KSortTup
import HandS.Call
import HandS.Ends
import HandS.Codes
import HandS.Head0
import HandS.Head1
import HandS.Head2
import HandS.HeadEnd
import HandS.HeadHook1
import HandS.HeadHook2
import HandS.EndBits
import PySem.Challenge.RW_beatfabric_k70_fabric_sides
set_option Elab.async false
set_option linter.all false
set_option maxRecDepth 100000
set_option maxHeartbeats 0
/-! BD0: values as trees, heaps of what changes, and how they lie in HandS's heaps. -/
namespace BD
open PySem PySem.Spec PyProof.Rows L2

/-- a value: what never changes is a tree; what changes is told by its address -/
inductive Dv where
  | non
  | bl (b : Bool)
  | int (i : Int)
  | str (x : Str)
  | tup (l : List Dv)
  | ref (a : Addr)

namespace Dv
mutual
def beq : Dv → Dv → Bool
  | .non, .non => true
  | .bl a, .bl b => a == b
  | .int a, .int b => decide (a = b)
  | .str a, .str b => decide (a = b)
  | .tup a, .tup b => beqs a b
  | .ref a, .ref b => decide (a = b)
  | .non, .bl _ | .non, .int _ | .non, .str _ | .non, .tup _ | .non, .ref _ => false
  | .bl _, .non | .bl _, .int _ | .bl _, .str _ | .bl _, .tup _ | .bl _, .ref _ => false
  | .int _, .non | .int _, .bl _ | .int _, .str _ | .int _, .tup _ | .int _, .ref _ => false
  | .str _, .non | .str _, .bl _ | .str _, .int _ | .str _, .tup _ | .str _, .ref _ => false
  | .tup _, .non | .tup _, .bl _ | .tup _, .int _ | .tup _, .str _ | .tup _, .ref _ => false
  | .ref _, .non | .ref _, .bl _ | .ref _, .int _ | .ref _, .str _ | .ref _, .tup _ => false
def beqs : List Dv → List Dv → Bool
  | [], [] => true
  | a :: as, b :: bs => beq a b && beqs as bs
  | [], _ :: _ => false
  | _ :: _, [] => false
end
mutual
theorem beq_self : ∀ a : Dv, beq a a = true
  | .non => rfl
  | .bl a => by simp [beq]
  | .int a => by simp [beq]
  | .str a => by simp [beq]
  | .tup a => by rw [beq]; exact beqs_self a
  | .ref a => by simp [beq]
theorem beqs_self : ∀ a : List Dv, beqs a a = true
  | [] => rfl
  | a :: as => by rw [beqs, beq_self a, beqs_self as]; rfl
end
mutual
theorem eq_of_beq : ∀ a b : Dv, beq a b = true → a = b
  | .non, b, h => by cases b <;> first | rfl | simp [beq] at h
  | .bl a, b, h => by cases b <;> first | (simp only [beq, beq_iff_eq] at h; rw [h]) | simp [beq] at h
  | .int a, b, h => by cases b <;> first | (simp only [beq, decide_eq_true_eq] at h; rw [h]) | simp [beq] at h
  | .str a, b, h => by cases b <;> first | (simp only [beq, decide_eq_true_eq] at h; rw [h]) | simp [beq] at h
  | .tup a, .tup b, h => by rw [beq] at h; rw [eq_of_beqs a b h]
  | .tup a, .non, h => by simp [beq] at h
  | .tup a, .bl _, h => by simp [beq] at h
  | .tup a, .int _, h => by simp [beq] at h
  | .tup a, .str _, h => by simp [beq] at h
  | .tup a, .ref _, h => by simp [beq] at h
  | .ref a, b, h => by cases b <;> first | (simp only [beq, decide_eq_true_eq] at h; rw [h]) | simp [beq] at h
theorem eq_of_beqs : ∀ a b : List Dv, beqs a b = true → a = b
  | [], [], _ => rfl
  | a :: as, b :: bs, h => by
    rw [beqs, Bool.and_eq_true] at h
    rw [eq_of_beq a b h.1, eq_of_beqs as bs h.2]
  | [], _ :: _, h => by simp [beqs] at h
  | _ :: _, [], h => by simp [beqs] at h
end
instance : DecidableEq Dv := fun a b => if h : beq a b = true then Decidable.isTrue (eq_of_beq a b h) else Decidable.isFalse fun e => h (e ▸ beq_self a)
instance : Inhabited Dv := ⟨.non⟩

mutual
/-- the tree as a key of the library's -/
def key : Dv → NestedKey
  | .non => .none
  | .bl b => .num (if b = true then 1 else 0)
  | .int i => .num i
  | .str x => .text x
  | .tup l => .tup (keys l)
  | .ref _ => .none
def keys : List Dv → List NestedKey
  | [] => []
  | d :: r => key d :: keys r
end
mutual
/-- no bool, no address within -/
def pure : Dv → Bool
  | .non => true
  | .bl _ => false
  | .int _ => true
  | .str _ => true
  | .tup l => pures l
  | .ref _ => false
def pures : List Dv → Bool
  | [] => true
  | d :: r => pure d && pures r
end
mutual
/-- no address within -/
def tree : Dv → Bool
  | .non => true
  | .bl _ => true
  | .int _ => true
  | .str _ => true
  | .tup l => trees l
  | .ref _ => false
def trees : List Dv → Bool
  | [] => true
  | d :: r => tree d && trees r
end
mutual
theorem pure_tree : ∀ a : Dv, pure a = true → tree a = true
  | .non, _ => rfl
  | .bl _, h => by simp [pure] at h
  | .int _, _ => rfl
  | .str _, _ => rfl
  | .tup l, h => by rw [pure] at h; rw [tree]; exact pures_trees l h
  | .ref _, h => by simp [pure] at h
theorem pures_trees : ∀ a : List Dv, pures a = true → trees a = true
  | [], _ => rfl
  | a :: as, h => by
    rw [pures, Bool.and_eq_true] at h
    rw [trees, pure_tree a h.1, pures_trees as h.2]; rfl
end
mutual
theorem key_inj : ∀ a b : Dv, pure a = true → pure b = true → key a = key b → a = b
  | .non, b, _, hb, h => by cases b <;> simp_all [key, pure]
  | .int a, b, _, hb, h => by cases b <;> simp_all [key, pure]
  | .str a, b, _, hb, h => by cases b <;> simp_all [key, pure]
  | .tup a, .tup b, ha, hb, h => by
    rw [pure] at ha hb
    rw [key, key] at h
    injection h with h
    rw [keys_inj a b ha hb h]
  | .tup a, .non, _, hb, h => by simp [key] at h
  | .tup a, .bl _, _, hb, h => by simp [pure] at hb
  | .tup a, .int _, _, hb, h => by simp [key] at h
  | .tup a, .str _, _, hb, h => by simp [key] at h
  | .tup a, .ref _, _, hb, h => by simp [pure] at hb
  | .bl _, _, ha, _, _ => by simp [pure] at ha
  | .ref _, _, ha, _, _ => by simp [pure] at ha
theorem keys_inj : ∀ a b : List Dv, pures a = true → pures b = true → keys a = keys b → a = b
  | [], [], _, _, _ => rfl
  | a :: as, b :: bs, ha, hb, h => by
    rw [pures, Bool.and_eq_true] at ha hb
    rw [keys, keys] at h
    injection h with h1 h2
    rw [key_inj a b ha.1 hb.1 h1, keys_inj as bs ha.2 hb.2 h2]
  | [], _ :: _, _, _, h => by simp [keys] at h
  | _ :: _, [], _, _, h => by simp [keys] at h
end
theorem key_beq {a b : Dv} (ha : pure a = true) (hb : pure b = true) : NestedKey.beq a.key b.key = decide (a = b) := by
  rw [← NestedKey.decide_eq]
  by_cases e : a = b
  · subst e; simp
  · have : ¬ a.key = b.key := fun h => e (key_inj a b ha hb h)
    simp [e, this]
/-- how deep the tree is -/
abbrev dep (d : Dv) : Nat := d.key.depth
end Dv

abbrev Raw := Array DictEntry × Nat
/-- what stands at an address -/
inductive Do where
  | lst (l : List Dv)
  /-- a list that is only read -/
  | fls (l : List Dv)
  | dic (r : Raw) (l : List (Dv × Dv))
  | ins (C : Addr) (fs : List (Str × Dv))
abbrev Dh := Addr → Option Do
def updG (G : Dh) (a : Addr) (o : Do) : Dh := fun b => if b = a then some o else G b
theorem updG_same {G : Dh} {a : Addr} {o : Do} : updG G a o a = some o := by unfold updG; rw [if_pos rfl]
theorem updG_ne {G : Dh} {a b : Addr} {o : Do} (h : b ≠ a) : updG G a o b = G b := by unfold updG; rw [if_neg h]
theorem updG_updG {G : Dh} {a : Addr} {o u : Do} : updG (updG G a o) a u = updG G a u := by
  funext b; unfold updG; split <;> rfl

/-- what stays the same of a heap -/
structure Bs where
  K : PySem.W.Frag
  P : Program
  w : World

section
variable (B : Bs)
mutual
/-- the value v is the tree d -/
def RepV (H : Hp) : Dv → V → Prop
  | .non, v => v = .non
  | .bl b, v => v = .bl b
  | .int i, v => v = .int i
  | .str x, v => v = .str x
  | .ref a, v => v = .ref a
  | .tup l, v => ∃ a vs, v = .ref a ∧ SqT B.K H a vs ∧ RepL H l vs
def RepL (H : Hp) : List Dv → List V → Prop
  | [], vs => vs = []
  | d :: ds, vs => ∃ v r, vs = v :: r ∧ RepV H d v ∧ RepL H ds r
end

/-- a key carried by value -/
def leafOf : Dv → Option Leaf
  | .non => some .none
  | .int i => some (.num i)
  | .str x => some (.text x)
  | _ => none
def exD (a : Addr) (r : Raw) : HO := .ext fun h => h.DictRaw a r.1 r.2
/-- a value of the model is the tree d -/
def RepU (H : Hp) (d : Dv) (u : Value) : Prop := ∃ v, RepV B H d v ∧ RelV v u
/-- a dict's entries: keys carried by value .. -/
def RepDL (H : Hp) (r : Raw) (kvs : List (Dv × Dv)) : Prop := ∃ lvs : List (Leaf × Value), KeysOf (leafKind B.P B.w) r.1 ∧ Pairs (leafKind B.P B.w) r.1.toList lvs ∧ (lvs.map (·.1)).Nodup ∧
  Paired (fun (p : Dv × Dv) (q : Leaf × Value) => leafOf p.1 = some q.1 ∧ RepU B H p.2 q.2) kvs lvs
/-- .. or tuples -/
def RepDT (H : Hp) (r : Raw) (kvs : List (Dv × Dv)) : Prop := ∃ xs : List (NestedKey × Addr × Value), r.1.toList = xs.map (entryOfKey (nestedKind B.P B.w)) ∧ (xs.map (·.1)).Nodup ∧
  Paired (fun (p : Dv × Dv) (q : NestedKey × Addr × Value) => (∃ l, p.1 = .tup l) ∧ p.1.pure = true ∧ p.1.dep ≤ 8 ∧ p.1.key = q.1 ∧ RepV B H p.1 (.ref q.2.1) ∧ RepU B H p.2 q.2.2) kvs xs
def RepO (H : Hp) (a : Addr) : Do → Prop
  | .lst l => ∃ vs, H a = some (.lst vs) ∧ RepL B H l vs
  | .fls l => ∃ vs, Rd H a (.lst vs) ∧ RepL B H l vs
  | .dic r l => H a = some (exD a r) ∧ (a == sysModules) = false ∧ l.length ≤ sizeLine ∧ (RepDL B H r l ∨ RepDT B H r l)
  | .ins C fs => ∃ dx vs, H a = some (.ins C dx vs) ∧ Paired (fun (p : Str × Dv) (q : Str × V) => p.1 = q.1 ∧ RepV B H p.2 q.2) fs vs
def RepG (H : Hp) (G : Dh) : Prop := ∀ a o, G a = some o → RepO B H a o
abbrev DSt := List (Option Dv)
def RepS (H : Hp) (ds : DSt) (σ : L2.St) : Prop := σ.length = ds.length ∧ ∀ (i : Nat) (d : Dv), ds[i]? = some (some d) → ∃ v, σ[i]? = some (some v) ∧ RepV B H d v
end

/-- tuples and locked things stay -/
structure KeepT (H H' : Hp) : Prop where
  t : ∀ b xs, H b = some (.tup xs) → H' b = some (.tup xs)
  f : ∀ b o u, H b = some (.frz o u) → H' b = some (.frz o u)
theorem KeepT.refl {H : Hp} : KeepT H H := ⟨fun _ _ h => h, fun _ _ _ h => h⟩
theorem KeepT.trans {H H1 H2 : Hp} (a : KeepT H H1) (b : KeepT H1 H2) : KeepT H H2 := ⟨fun c xs h => b.t c xs (a.t c xs h), fun c o u h => b.f c o u (a.f c o u h)⟩
theorem KeepT.new {H : Hp} {p : Addr} {o : HO} (h : H p = none) : KeepT H (upd H p o) :=
  ⟨fun b xs e => by rw [upd_ne (ne_of_none e h)]; exact e, fun b u x e => by rw [upd_ne (ne_of_none e h)]; exact e⟩
theorem KeepT.mut {H : Hp} {p : Addr} {o : HO} (h : Mut (H p)) : KeepT H (upd H p o) :=
  ⟨fun b xs e => by
    have : b ≠ p := fun z => by subst z; rw [e] at h; exact h
    rw [upd_ne this]; exact e, fun b u x e => by
    have : b ≠ p := fun z => by subst z; rw [e] at h; exact h
    rw [upd_ne this]; exact e⟩

section
variable {B : Bs} {H H' : Hp}
theorem sqT_keep {a : Addr} {xs : List V} (h : SqT B.K H a xs) (k : KeepT H H') : SqT B.K H' a xs := by
  rcases h with (h | ⟨o, h⟩) | h
  · exact .inl (.inl (k.t _ _ h))
  · exact .inl (.inr ⟨o, k.f _ _ _ h⟩)
  · exact .inr h
mutual
theorem RepV.keep (k : KeepT H H') : ∀ {d : Dv} {v : V}, RepV B H d v → RepV B H' d v
  | .non, _, h => by rw [RepV] at h ⊢; exact h
  | .bl _, _, h => by rw [RepV] at h ⊢; exact h
  | .int _, _, h => by rw [RepV] at h ⊢; exact h
  | .str _, _, h => by rw [RepV] at h ⊢; exact h
  | .ref _, _, h => by rw [RepV] at h ⊢; exact h
  | .tup l, v, h => by
    rw [RepV] at h ⊢
    obtain ⟨a, vs, e, hs, hl⟩ := h
    exact ⟨a, vs, e, sqT_keep hs k, RepL.keep k hl⟩
theorem RepL.keep (k : KeepT H H') : ∀ {l : List Dv} {vs : List V}, RepL B H l vs → RepL B H' l vs
  | [], _, h => by rw [RepL] at h ⊢; exact h
  | d :: ds, vs, h => by
    rw [RepL] at h ⊢
    obtain ⟨v, r, e, h1, h2⟩ := h
    exact ⟨v, r, e, RepV.keep k h1, RepL.keep k h2⟩
end
theorem RepU.keep {d : Dv} {u : Value} (k : KeepT H H') (h : RepU B H d u) : RepU B H' d u := let ⟨v, a, b⟩ := h; ⟨v, a.keep k, b⟩
theorem RepDL.keep {r : Raw} {l : List (Dv × Dv)} (k : KeepT H H') (h : RepDL B H r l) : RepDL B H' r l := by
  obtain ⟨lvs, a, b, c, d⟩ := h
  exact ⟨lvs, a, b, c, Paired.mapP d fun p q z => ⟨z.1, z.2.keep k⟩⟩
theorem RepDT.keep {r : Raw} {l : List (Dv × Dv)} (k : KeepT H H') (h : RepDT B H r l) : RepDT B H' r l := by
  obtain ⟨xs, a, b, d⟩ := h
  exact ⟨xs, a, b, Paired.mapP d fun p q z => ⟨z.1, z.2.1, z.2.2.1, z.2.2.2.1, z.2.2.2.2.1.keep k, z.2.2.2.2.2.keep k⟩⟩
/-- the object at a is told still, where what stands there stays -/
theorem RepO.keep {a : Addr} {o : Do} (k : KeepT H H') (e : H' a = H a) (h : RepO B H a o) : RepO B H' a o := by
  cases o with
  | lst l => obtain ⟨vs, h1, h2⟩ := h; exact ⟨vs, e.trans h1, h2.keep k⟩
  | fls l =>
    obtain ⟨vs, h1, h2⟩ := h
    refine ⟨vs, ?_, h2.keep k⟩
    rcases h1 with h1 | ⟨o, h1⟩
    · exact .inl (e.trans h1)
    · exact .inr ⟨o, e.trans h1⟩
  | dic r l =>
    obtain ⟨h1, h2, h3, h4⟩ := h
    exact ⟨e.trans h1, h2, h3, h4.imp (fun z => z.keep k) fun z => z.keep k⟩
  | ins C fs =>
    obtain ⟨dx, vs, h1, h2⟩ := h
    exact ⟨dx, vs, e.trans h1, Paired.mapP h2 fun p q z => ⟨z.1, z.2.keep k⟩⟩
theorem RepO.some {a : Addr} {o : Do} (h : RepO B H a o) : ∃ x, H a = some x := by
  cases o with
  | lst l => obtain ⟨vs, h1, h2⟩ := h; exact ⟨_, h1⟩
  | fls l =>
    obtain ⟨vs, h1, h2⟩ := h
    rcases h1 with h1 | ⟨o, h1⟩
    · exact ⟨_, h1⟩
    · exact ⟨_, h1⟩
  | dic r l => exact ⟨_, h.1⟩
  | ins C fs => obtain ⟨dx, vs, h1, h2⟩ := h; exact ⟨_, h1⟩
theorem RepG.fresh {G : Dh} (h : RepG B H G) {p : Addr} (e : H p = none) : G p = none := by
  cases q : G p with
  | none => rfl
  | some o => obtain ⟨x, hx⟩ := (h p o q).some; rw [e] at hx; cases hx
/-- a new object that D does not see (a tuple), or forgets -/
theorem RepG.new {G : Dh} (h : RepG B H G) {p : Addr} {o : HO} (e : H p = none) : RepG B (upd H p o) G := fun a x q => by
  obtain ⟨y, hy⟩ := (h a x q).some
  exact (h a x q).keep (.new e) (upd_ne (ne_of_none hy e))
/-- a new object that D sees -/
theorem RepG.newD {G : Dh} (h : RepG B H G) {p : Addr} {o : HO} {d : Do} (e : H p = none) (hd : RepO B (upd H p o) p d) : RepG B (upd H p o) (updG G p d) := fun a x q => by
  by_cases ha : a = p
  · subst ha
    rw [updG_same] at q
    cases q
    exact hd
  · rw [updG_ne ha] at q
    exact h.new e a x q
/-- an object is changed -/
theorem RepG.write {G : Dh} (h : RepG B H G) {p : Addr} {o : HO} {d : Do} (m : Mut (H p)) (hd : RepO B (upd H p o) p d) : RepG B (upd H p o) (updG G p d) := fun a x q => by
  by_cases ha : a = p
  · subst ha
    rw [updG_same] at q
    cases q
    exact hd
  · rw [updG_ne ha] at q
    exact (h a x q).keep (.mut m) (upd_ne ha)
/-- D forgets -/
def Sub (G G' : Dh) : Prop := ∀ a o, G a = some o → G' a = some o
theorem Sub.refl {G : Dh} : Sub G G := fun _ _ h => h
theorem Sub.trans {G G1 G2 : Dh} (a : Sub G G1) (b : Sub G1 G2) : Sub G G2 := fun c o h => b c o (a c o h)
theorem Sub.new {G : Dh} {p : Addr} {o : Do} (h : G p = none) : Sub G (updG G p o) := fun a x q => by
  have : a ≠ p := fun z => by subst z; rw [h] at q; cases q
  rw [updG_ne this]; exact q
theorem RepG.sub {G G' : Dh} (h : RepG B H G') (s : Sub G G') : RepG B H G := fun a o q => h a o (s a o q)
theorem RepS.keep {ds : DSt} {σ : L2.St} (k : KeepT H H') (h : RepS B H ds σ) : RepS B H' ds σ := ⟨h.1, fun i d e => let ⟨v, a, b⟩ := h.2 i d e; ⟨v, a, b.keep k⟩⟩
theorem RepS.set {ds : DSt} {σ : L2.St} {i : Nat} {d : Dv} {v : V} (h : RepS B H ds σ) (r : RepV B H d v) : RepS B H (ds.set i (some d)) (σ.set i (some v)) := by
  refine ⟨by simpa using h.1, fun j x e => ?_⟩
  by_cases hj : i = j
  · subst hj
    have hi : i < ds.length := by
      by_cases hi : i < ds.length
      · exact hi
      · rw [List.getElem?_eq_none (by simpa using hi)] at e; cases e
    rw [List.getElem?_set_self hi] at e
    cases e
    exact ⟨v, List.getElem?_set_self (by rw [h.1]; exact hi), r⟩
  · rw [List.getElem?_set_ne hj] at e ⊢
    exact h.2 j x e
theorem RepL.get {l : List Dv} {vs : List V} (h : RepL B H l vs) : ∀ {i : Nat} {d : Dv}, l[i]? = some d → ∃ v, vs[i]? = some v ∧ RepV B H d v := by
  induction l generalizing vs with
  | nil => intro i d e; simp at e
  | cons a r ih =>
    intro i d e
    rw [RepL] at h
    obtain ⟨v, t, rfl, h1, h2⟩ := h
    cases i with
    | zero => simp at e; subst e; exact ⟨v, rfl, h1⟩
    | succ i => exact ih h2 (i := i) (by simpa using e)
theorem RepL.length {l : List Dv} {vs : List V} (h : RepL B H l vs) : vs.length = l.length := by
  induction l generalizing vs with
  | nil => rw [RepL] at h; subst h; rfl
  | cons a r ih =>
    rw [RepL] at h
    obtain ⟨v, t, rfl, h1, h2⟩ := h
    simp [ih h2]
theorem RepL.append {l m : List Dv} {vs ws : List V} (h : RepL B H l vs) (h' : RepL B H m ws) : RepL B H (l ++ m) (vs ++ ws) := by
  induction l generalizing vs with
  | nil => rw [RepL] at h; subst h; exact h'
  | cons a r ih =>
    rw [RepL] at h
    obtain ⟨v, t, rfl, h1, h2⟩ := h
    rw [List.cons_append, RepL]
    exact ⟨v, t ++ ws, rfl, h1, ih h2⟩
theorem RepL.nil : RepL B H [] [] := by rw [RepL]
theorem RepL.cons {d : Dv} {ds : List Dv} {v : V} {vs : List V} (h : RepV B H d v) (hr : RepL B H ds vs) : RepL B H (d :: ds) (v :: vs) := by rw [RepL]; exact ⟨v, vs, rfl, h, hr⟩
theorem RepL.one {d : Dv} {v : V} (h : RepV B H d v) : RepL B H [d] [v] := .cons h .nil
theorem RepL.of_get {l : List Dv} : ∀ {vs : List V}, vs.length = l.length → (∀ (i : Nat) (d : Dv) (v : V), l[i]? = some d → vs[i]? = some v → RepV B H d v) → RepL B H l vs := by
  induction l with
  | nil => intro vs e _; have : vs = [] := by simpa using e
           subst this; exact .nil
  | cons a r ih =>
    intro vs e h
    cases vs with
    | nil => simp at e
    | cons v t =>
      exact .cons (h 0 a v rfl rfl) (ih (by simpa using e) fun i d x h1 h2 => h (i + 1) d x (by simpa using h1) (by simpa using h2))
theorem RepL.drop {l : List Dv} {vs : List V} (h : RepL B H l vs) (n : Nat) : RepL B H (l.drop n) (vs.drop n) := by
  refine .of_get (by simp [h.length]) fun i d v h1 h2 => ?_
  rw [List.getElem?_drop] at h1 h2
  obtain ⟨w, e, r⟩ := h.get h1
  rw [h2] at e; cases e; exact r
theorem RepL.take {l : List Dv} {vs : List V} (h : RepL B H l vs) (n : Nat) : RepL B H (l.take n) (vs.take n) := by
  refine .of_get (by simp [h.length]) fun i d v h1 h2 => ?_
  rw [List.getElem?_take] at h1 h2
  split at h1
  · rename_i hi
    rw [if_pos hi] at h2
    obtain ⟨w, e, r⟩ := h.get h1
    rw [h2] at e; cases e; exact r
  · cases h1
theorem RepL.set {l : List Dv} {vs : List V} (h : RepL B H l vs) {i : Nat} {d : Dv} {v : V} (r : RepV B H d v) : RepL B H (l.set i d) (vs.set i v) := by
  refine .of_get (by simp [h.length]) fun j x y h1 h2 => ?_
  by_cases e : i = j
  · subst e
    have hi : i < l.length := by
      by_cases hi : i < l.length
      · exact hi
      · rw [List.getElem?_eq_none (by simpa using hi)] at h1; cases h1
    rw [List.getElem?_set_self hi] at h1
    rw [List.getElem?_set_self (by rw [h.length]; exact hi)] at h2
    cases h1; cases h2; exact r
  · rw [List.getElem?_set_ne e] at h1 h2
    obtain ⟨w, e, r⟩ := h.get h1
    rw [h2] at e; cases e; exact r
theorem RepL.eraseIdx {l : List Dv} {vs : List V} (h : RepL B H l vs) (n : Nat) : RepL B H (l.eraseIdx n) (vs.eraseIdx n) := by
  rw [List.eraseIdx_eq_take_drop_succ, List.eraseIdx_eq_take_drop_succ]
  exact (h.take n).append (h.drop (n + 1))
end

/-! ### trees in the model's heap -/
section
variable {X : Cx} {pins : List (Addr × Obj)} {σ : L2.St} {H : Hp} {s : Shared}
abbrev bs (X : Cx) : Bs := ⟨X.K, X.prog, X.w⟩
mutual
theorem RepV.nested (I : Inv X pins σ H s) : ∀ {d : Dv} {v : V} {u : Value}, RepV (bs X) H d v → d.tree = true → RelV v u → NestedIs s.heap d.key u
  | .non, _, _, h, _, r => by rw [RepV] at h; subst h; cases r; exact .none
  | .bl b, _, _, h, _, r => by rw [RepV] at h; subst h; cases r; exact .bool rfl
  | .int _, _, _, h, _, r => by rw [RepV] at h; subst h; obtain ⟨t, rfl⟩ := r; exact .int _ t
  | .str _, _, _, h, _, r => by rw [RepV] at h; subst h; obtain ⟨t, rfl⟩ := r; exact .text _ t
  | .ref _, _, _, _, ht, _ => by simp [Dv.tree] at ht
  | .tup l, v, u, h, ht, r => by
    rw [RepV] at h
    rw [Dv.tree] at ht
    obtain ⟨a, vs, rfl, hs, hl⟩ := h
    cases r
    obtain ⟨its, rv, ⟨o, e, c, n, d⟩, _⟩ := I.tuple hs
    rw [Dv.key]
    exact .tup e c d (RepL.nested I hl ht (by simpa using rv))
theorem RepL.nested (I : Inv X pins σ H s) : ∀ {l : List Dv} {vs : List V} {us : List Value}, RepL (bs X) H l vs → Dv.trees l = true → Vals vs us → NestedAll s.heap (Dv.keys l) us
  | [], _, _, h, _, r => by rw [RepL] at h; subst h; cases r; exact .nil
  | d :: ds, vs, us, h, ht, r => by
    rw [RepL] at h
    rw [Dv.trees, Bool.and_eq_true] at ht
    obtain ⟨v, t, rfl, h1, h2⟩ := h
    cases r with
    | cons r1 r2 =>
      rw [Dv.keys]
      exact .cons (RepV.nested I h1 ht.1 r1) (RepL.nested I h2 ht.2 r2)
end
end
end BD

/-! BD1: a small language, what must hold for a text of it to end well (wp). -/
namespace BD
open PySem PySem.Spec PyProof.Rows L2

abbrev DK := Dv → Dh → Prop
abbrev DTE := DSt → Dh → DK → Prop
abbrev DTA := DSt → Dh → (List Dv → Dh → Prop) → Prop
abbrev DTT := DSt → Dh → (Bool → Dh → Prop) → Prop
/-- a def's promise -/
abbrev DSp := List Dv → Dh → DK → Prop
structure DEnds where
  nx : DSt → Dh → Prop
  rt : DK
  bk : DSt → Dh → Prop
  ct : DSt → Dh → Prop
abbrev DTS := DEnds → DSt → Dh → Prop

/-- targets -/
inductive Tg where
  | nm (i : Nat)
  | tp (l : List Tg)
mutual
def asgT : Tg → Dv → DSt → Option DSt
  | .nm i, d, σ => some (σ.set i (some d))
  | .tp l, .tup ds, σ => asgTs l ds σ
  | .tp _, _, _ => none
def asgTs : List Tg → List Dv → DSt → Option DSt
  | [], [], σ => some σ
  | t :: ts, d :: ds, σ => match asgT t d σ with
    | some σ' => asgTs ts ds σ'
    | none => none
  | [], _ :: _, _ => none
  | _ :: _, [], _ => none
end
/-- built-in functions and types -/
inductive Bi where
  | len | int1 | abs | tupleOf | listOf | isInt | isBool | isTuple | isStr | isList | all | any | sum | sorted | min1 | max1 | min2 | max2 | divmod | enum | zip2 | rev
  deriving DecidableEq
/-- methods of built-in types -/
inductive Mt where
  | append | extend | pop | insert | remove | index | get | setdefault | bitLength | split | reverse | items | values
  deriving DecidableEq
mutual
inductive Ex where
  | var (i : Nat)
  | glob (x : Str) (d : Dv)
  | cint (i : Int)
  | cbl (b : Bool)
  | cnon
  | cstr (x : Str)
  | bin (op : Operator) (a b : Ex)
  | neg (a : Ex)
  | cmp (op : CmpOp) (a b : Ex)
  | chn (op op' : CmpOp) (a b c : Ex)
  | one (a : Ex)
  | and (a b : Ex)
  | or (a b : Ex)
  | not (a : Ex)
  | ife (c a b : Ex)
  | tup (as : Ar)
  | lst (as : Ar)
  | emp
  | ix (a i : Ex)
  | sl (a : Ex) (lo hi : Op)
  | call (f : Str) (sp : DSp) (as : Ar)
  | bcl (b : Bi) (as : Ar)
  | mth (m : Mt) (o : Ex) (as : Ar)
  | lc (own : List (Str × Nat)) (tg : Tg) (it : Ib) (c : Op) (e : Ex)
  | lc2 (own : List (Str × Nat)) (tg : Tg) (it : Ib) (tg2 : Tg) (it2 : Ib) (e : Ex)
inductive Ar where
  | nil
  | cons (e : Ex) (r : Ar)
inductive Op where
  | no
  | yes (e : Ex)
/-- what a loop walks -/
inductive Ib where
  | seq (e : Ex)
  | rng1 (a : Ex)
  | rng2 (a b : Ex)
  | enum (a : Ex)
  | zip (a b : Ex)
  | items (a : Ex)
  | vals (a : Ex)
  | rev (a : Ex)
end
mutual
inductive Sm where
  | pass
  | brk
  | cnt
  | retn
  | expr (e : Ex)
  | ret (e : Ex)
  | set (i : Nat) (e : Ex)
  | tset (tg : Tg) (e : Ex)
  | par2 (i j : Nat) (a b : Ex)
  | par3 (i j k : Nat) (a b c : Ex)
  | sub (o i v : Ex)
  | aug (i : Nat) (op : Operator) (e : Ex)
  | augs (o i : Ex) (op : Operator) (e : Ex)
  | ifs (c : Ex) (a b : Bl)
  | for (tg : Tg) (it : Ib) (b : Bl)
  | whl (c : Ex) (b : Bl)
inductive Bl where
  | nil
  | cons (s : Sm) (r : Bl)
end

/-! ### operations by values -/
def newL (l : List Dv) (G : Dh) (Q : DK) : Prop := l.length ≤ sizeLine ∧ ∀ p, G p = none → Q (.ref p) (updG G p (.lst l))
def isTup : Dv → Bool
  | .tup _ => true
  | _ => false
mutual
/-- before, by value: ints, tuples item by item -/
def ltD : Dv → Dv → Bool
  | .int i, .int j => decide (i < j)
  | .tup l, .tup m => ltDs l m
  | _, _ => false
def ltDs : List Dv → List Dv → Bool
  | [], [] => false
  | [], _ :: _ => true
  | _ :: _, [] => false
  | x :: r, y :: t => if x = y then ltDs r t else ltD x y
end
def intsOf : List Dv → Option (List Int)
  | [] => some []
  | .int i :: r => (intsOf r).map (i :: ·)
  | _ => none
/-- tuples of ints, none empty; or ints -/
def sortOk (l : List Dv) : Bool := l.all (fun d => match d with | .tup (x :: r) => (intsOf (x :: r)).isSome | _ => false) || (intsOf l).isSome
/-- the items of a list or a tuple -/
def seqD (G : Dh) : Dv → Option (List Dv)
  | .tup l => some l
  | .ref a => match G a with
    | some (.lst l) => some l
    | some (.fls l) => some l
    | _ => none
  | _ => none
def lstD (G : Dh) : Dv → Option (List Dv)
  | .ref a => match G a with
    | some (.lst l) => some l
    | some (.fls l) => some l
    | _ => none
  | _ => none
def dAdd : Dv → Dv → Dh → DK → Prop
  | .int i, .int j, G, Q => Q (.int (i + j)) G
  | .str x, .str y, G, Q => x.length + y.length ≤ sizeLine ∧ Q (.str (x ++ y)) G
  | .tup l, .tup m, G, Q => l.length + m.length ≤ sizeLine ∧ Q (.tup (l ++ m)) G
  | .ref a, .ref b, G, Q => match G a, G b with
    | some (.lst l), some (.lst m) => newL (l ++ m) G Q
    | _, _ => False
  | _, _, _, _ => False
def dSub : Dv → Dv → Dh → DK → Prop
  | .int i, .int j, G, Q => Q (.int (i - j)) G
  | _, _, _, _ => False
def repD (l : List Dv) (k : Int) : List Dv := (List.replicate k.toNat l).flatten
def dMul : Dv → Dv → Dh → DK → Prop
  | .int i, .int j, G, Q => IntMulOk i j ∧ Q (.int (i * j)) G
  | .ref a, .int k, G, Q => match G a with
    | some (.lst l) => (0 ≤ k ∧ k < 2 ^ 63 ∧ l.length * k.toNat ≤ sizeLine) ∧ newL (repD l k) G Q
    | _ => False
  | .tup l, .int k, G, Q => (l ≠ [] ∧ 2 ≤ k ∧ k ≤ 1000 ∧ l.length ≤ 1000) ∧ Q (.tup (repD l k)) G
  | _, _, _, _ => False
def dFdiv : Dv → Dv → Dh → DK → Prop
  | .int i, .int j, G, Q => CDivW i j ∧ Q (.int (i / j)) G
  | _, _, _, _ => False
def dMod : Dv → Dv → Dh → DK → Prop
  | .int i, .int j, G, Q => 0 < j ∧ Q (.int (i % j)) G
  | _, _, _, _ => False
def dPow : Dv → Dv → Dh → DK → Prop
  | .int i, .int j, G, Q => CPow i j ∧ Q (.int (i ^ j.toNat)) G
  | _, _, _, _ => False
def dShl : Dv → Dv → Dh → DK → Prop
  | .int i, .int j, G, Q => CShl i j ∧ Q (.int (i * 2 ^ j.toNat)) G
  | _, _, _, _ => False
def dShr : Dv → Dv → Dh → DK → Prop
  | .int i, .int j, G, Q => 0 ≤ j ∧ Q (.int (i / 2 ^ j.toNat)) G
  | _, _, _, _ => False
def dAnd : Dv → Dv → Dh → DK → Prop
  | .int i, .int j, G, Q => Q (.int (Builtin.bitAnd i j)) G
  | _, _, _, _ => False
def dOr : Dv → Dv → Dh → DK → Prop
  | .int i, .int j, G, Q => Q (.int (Builtin.bitOr i j)) G
  | _, _, _, _ => False
def dXor : Dv → Dv → Dh → DK → Prop
  | .int i, .int j, G, Q => Q (.int (Builtin.bitXor i j)) G
  | _, _, _, _ => False
def dBin : Operator → Dv → Dv → Dh → DK → Prop
  | .Add => dAdd
  | .Sub => dSub
  | .Mult => dMul
  | .FloorDiv => dFdiv
  | .Mod => dMod
  | .Pow => dPow
  | .LShift => dShl
  | .RShift => dShr
  | .BitAnd => dAnd
  | .BitOr => dOr
  | .BitXor => dXor
  | _ => fun _ _ _ _ => False
/-- == , where it is served: bools; trees without bools; lists of such; both told apart by their kinds -/
def eqD (G : Dh) : Dv → Dv → Option Bool
  | .bl a, .bl b => some (a == b)
  | .ref a, .ref b => match G a, G b with
    | some (.lst l), some (.lst m) => if Dv.pures l = true ∧ Dv.pures m = true ∧ (Dv.tup l).dep ≤ 8 ∧ (Dv.tup m).dep ≤ 8 then some (decide (l = m)) else none
    | _, _ => none
  | x, y => if x.pure = true ∧ y.pure = true ∧ x.dep ≤ 8 ∧ y.dep ≤ 8 then some (decide (x = y)) else none
def dEq (x y : Dv) (G : Dh) (Q : DK) : Prop := match eqD G x y with
  | some b => Q (.bl b) G
  | none => False
def dNe (x y : Dv) (G : Dh) (Q : DK) : Prop := match eqD G x y with
  | some b => Q (.bl (!b)) G
  | none => False
def dLt : Dv → Dv → Dh → DK → Prop
  | .int i, .int j, G, Q => Q (.bl (decide (i < j))) G
  | _, _, _, _ => False
def dLe : Dv → Dv → Dh → DK → Prop
  | .int i, .int j, G, Q => Q (.bl (decide (i ≤ j))) G
  | _, _, _, _ => False
def dGt : Dv → Dv → Dh → DK → Prop
  | .int i, .int j, G, Q => Q (.bl (decide (j < i))) G
  | _, _, _, _ => False
def dGe : Dv → Dv → Dh → DK → Prop
  | .int i, .int j, G, Q => Q (.bl (decide (j ≤ i))) G
  | _, _, _, _ => False
def isD : Dv → Dv → Option Bool
  | x, .non => some (decide (x = .non))
  | .bl a, .bl b => some (decide (a = b))
  | _, _ => none
def dIs (x y : Dv) (G : Dh) (Q : DK) : Prop := match isD x y with
  | some b => Q (.bl b) G
  | none => False
def dIsNot (x y : Dv) (G : Dh) (Q : DK) : Prop := match isD x y with
  | some b => Q (.bl (!b)) G
  | none => False
def flat1 (l : List (Dv × Dv)) (k : Dv) : Bool := l.any fun p => decide (p.1 = k)
def getK (l : List (Dv × Dv)) (k : Dv) : Option Dv := (l.find? fun p => decide (p.1 = k)).map (·.2)
def putK (l : List (Dv × Dv)) (k v : Dv) : List (Dv × Dv) := if flat1 l k = true then l.map (fun p => if p.1 = k then (p.1, v) else p) else l ++ [(k, v)]
def delK (l : List (Dv × Dv)) (k : Dv) : List (Dv × Dv) := l.filter fun p => decide (p.1 ≠ k)
def isLeaf (k : Dv) : Bool := (leafOf k).isSome
def isTupK : Dv → Bool
  | .tup l => Dv.pures l && decide ((Dv.tup l).dep ≤ 8)
  | _ => false
/-- the key fits to a dict's keys -/
def fitK (l : List (Dv × Dv)) (k : Dv) : Bool := (isLeaf k && l.all fun p => isLeaf p.1) || (isTupK k && l.all fun p => isTupK p.1)
def inD (G : Dh) (x : Dv) : Dv → Option Bool
  | .tup l => if x.pure = true ∧ Dv.pures l = true ∧ x.dep ≤ 8 ∧ (Dv.tup l).dep ≤ 8 then some (decide (x ∈ l)) else none
  | .ref a => match G a with
    | some (.lst l) => if x.pure = true ∧ Dv.pures l = true ∧ x.dep ≤ 8 ∧ (Dv.tup l).dep ≤ 8 then some (decide (x ∈ l)) else none
    | some (.dic _ l) => if fitK l x = true then some (flat1 l x) else none
    | _ => none
  | _ => none
def dIn (x y : Dv) (G : Dh) (Q : DK) : Prop := match inD G x y with
  | some b => Q (.bl b) G
  | none => False
def dNotIn (x y : Dv) (G : Dh) (Q : DK) : Prop := match inD G x y with
  | some b => Q (.bl (!b)) G
  | none => False
def dCmp : CmpOp → Dv → Dv → Dh → DK → Prop
  | .Eq => dEq
  | .NotEq => dNe
  | .Lt => dLt
  | .LtE => dLe
  | .Gt => dGt
  | .GtE => dGe
  | .Is => dIs
  | .IsNot => dIsNot
  | .In => dIn
  | .NotIn => dNotIn
def truD (G : Dh) : Dv → Option Bool
  | .non => some false
  | .bl b => some b
  | .int i => some (decide (i ≠ 0))
  | .tup l => some (!l.isEmpty)
  | .ref a => match G a with
    | some (.lst l) => some (!l.isEmpty)
    | _ => none
  | _ => none
def dIx : Dv → Dv → Dh → DK → Prop
  | .tup l, .int i, G, Q => match atI l i with
    | some d => Q d G
    | none => False
  | .ref a, k, G, Q => match G a with
    | some (.lst l) => match k with
      | .int i => match atI l i with
        | some d => Q d G
        | none => False
      | _ => False
    | some (.fls l) => match k with
      | .int i => match atI l i with
        | some d => Q d G
        | none => False
      | _ => False
    | some (.dic _ l) => fitK l k = true ∧ match getK l k with
      | some d => Q d G
      | none => False
    | _ => False
  | _, _, _, _ => False
def cutD (l : List Dv) (lo hi : Option Int) : List Dv := (l.drop (HT.sIx l.length 0 lo)).take (HT.sIx l.length l.length hi - HT.sIx l.length 0 lo)
def dSl : Dv → Option Int → Option Int → Dh → DK → Prop
  | .tup l, lo, hi, G, Q => Q (.tup (cutD l lo hi)) G
  | .ref a, lo, hi, G, Q => match G a with
    | some (.lst l) => newL (cutD l lo hi) G Q
    | _ => False
  | _, _, _, _, _ => False
/-- o[i] of what may be stored to -/
def dGet : Dv → Dv → Dh → DK → Prop
  | .ref a, k, G, Q => match G a with
    | some (.lst l) => match k with
      | .int i => match atI l i with
        | some d => Q d G
        | none => False
      | _ => False
    | some (.dic _ l) => fitK l k = true ∧ match getK l k with
      | some d => Q d G
      | none => False
    | _ => False
  | _, _, _, _ => False
/-- o[i] = v -/
def dSet : Dv → Dv → Dv → Dh → (Dh → Prop) → Prop
  | .ref a, k, v, G, Q => match G a with
    | some (.lst l) => match k with
      | .int i => match ixN l.length i with
        | some j => Q (updG G a (.lst (l.set j v)))
        | none => False
      | _ => False
    | some (.dic _ l) => fitK l k = true ∧ l.length < sizeLine ∧ ∀ r', Q (updG G a (.dic r' (putK l k v)))
    | _ => False
  | _, _, _, _, _ => False
def intsD : List Dv → Option (List Int)
  | [] => some []
  | .int i :: r => (intsD r).map (i :: ·)
  | _ :: _ => none
def blsD : List Dv → Option (List Bool)
  | [] => some []
  | .bl b :: r => (blsD r).map (b :: ·)
  | _ :: _ => none
def lenD (G : Dh) : Dv → Option Nat
  | .tup l => some l.length
  | .ref a => match G a with
    | some (.lst l) => some l.length
    | some (.fls l) => some l.length
    | some (.dic _ l) => some l.length
    | _ => none
  | _ => none
/-- the kinds that isinstance asks -/
inductive Kd where
  | int | bool | str | non | tup | lst | dic | ins
  deriving DecidableEq
def kdD (G : Dh) : Dv → Option Kd
  | .non => some .non
  | .bl _ => some .bool
  | .int _ => some .int
  | .str _ => some .str
  | .tup _ => some .tup
  | .ref a => match G a with
    | some (.lst _) => some .lst
    | some (.dic _ _) => some .dic
    | _ => none
/-- .. and how it names them -/
def kdI (G : Dh) : Dv → Option Kd
  | .non => some .non
  | .bl _ => some .bool
  | .int _ => some .int
  | .str _ => some .str
  | .tup _ => some .tup
  | .ref a => match G a with
    | some (.lst _) => some .lst
    | _ => none
def dIsi (f : Kd → Bool) (x : Dv) (G : Dh) (Q : DK) : Prop := match kdI G x with
  | some k => Q (.bl (f k)) G
  | none => False
def dBi : Bi → List Dv → Dh → DK → Prop
  | .len, [x], G, Q => match lenD G x with
    | some n => Q (.int n) G
    | none => False
  | .int1, [x], G, Q => match x with
    | .int i => Q (.int i) G
    | .bl b => Q (.int (if b = true then 1 else 0)) G
    | _ => False
  | .abs, [.int i], G, Q => Q (.int (if i < 0 then -i else i)) G
  | .tupleOf, [x], G, Q => match x with
    | .tup l => Q (.tup l) G
    | .ref a => match G a with
      | some (.lst l) => Q (.tup l) G
      | some (.fls l) => Q (.tup l) G
      | _ => False
    | _ => False
  | .listOf, [x], G, Q => match seqD G x with
    | some l => newL l G Q
    | none => False
  | .isInt, [x], G, Q => dIsi (fun k => k == .int || k == .bool) x G Q
  | .isBool, [x], G, Q => dIsi (fun k => k == .bool) x G Q
  | .isTuple, [x], G, Q => dIsi (fun k => k == .tup) x G Q
  | .isStr, [x], G, Q => dIsi (fun k => k == .str) x G Q
  | .isList, [x], G, Q => dIsi (fun k => k == .lst) x G Q
  | .all, [x], G, Q => match (lstD G x).bind blsD with
    | some bs => Q (.bl (bs.all id)) G
    | none => False
  | .any, [x], G, Q => match (lstD G x).bind blsD with
    | some bs => Q (.bl (bs.any id)) G
    | none => False
  | .sorted, [x], G, Q => match lstD G x with
    | some l => sortOk l = true ∧ ∀ m : List Dv, m.Perm l → m.Pairwise (fun x y => ltD y x = false) → newL m G Q
    | none => False
  | .min2, [.int i, .int j], G, Q => Q (.int (if j < i then j else i)) G
  | .max2, [.int i, .int j], G, Q => Q (.int (if j > i then j else i)) G
  | _, _, _, _ => False
def dMt : Mt → Dv → List Dv → Dh → DK → Prop
  | .append, .ref a, [x], G, Q => match G a with
    | some (.lst l) => l.length < sizeLine ∧ Q .non (updG G a (.lst (l ++ [x])))
    | _ => False
  | .extend, .ref a, [.ref b], G, Q => match G a, G b with
    | some (.lst l), some (.lst m) => l.length + m.length ≤ sizeLine ∧ Q .non (updG G a (.lst (l ++ m)))
    | _, _ => False
  | .pop, .ref a, [], G, Q => match G a with
    | some (.lst l) => match l[l.length - 1]? with
      | some x => Q x (updG G a (.lst l.dropLast))
      | none => False
    | _ => False
  | .pop, .ref a, [k], G, Q => match G a with
    | some (.lst l) => match k with
      | .int i => match ixN l.length i with
        | some j => match l[j]? with
          | some x => Q x (updG G a (.lst (l.eraseIdx j)))
          | none => False
        | none => False
      | _ => False
    | _ => False
  | _, _, _, _, _ => False
/-- the methods that are served, by the receiver's kind -/
def mtOk : Mt → Kd → Bool
  | .append, .lst => true
  | .extend, .lst => true
  | .pop, .lst => true
  | _, _ => false

/-! ### wp -/
def rngD (lo hi : Int) : List Dv := (List.range (hi - lo).toNat).map fun k => .int (lo + (k : Nat))
/-- items, and what must stay while they are walked -/
abbrev DTI := DSt → Dh → (List Dv → (Dh → Prop) → Dh → Prop) → Prop
def seqI (d : Dv) (G : Dh) (R : List Dv → (Dh → Prop) → Dh → Prop) : Prop := match d with
  | .tup l => R l (fun _ => True) G
  | .ref a => match G a with
    | some (.lst l) => R l (fun G' => G' a = some (.lst l)) G
    | some (.fls l) => R l (fun G' => G' a = some (.fls l)) G
    | some (.dic r l) => (l.all fun p => isTup p.1) = true ∧ R (l.map (·.1)) (fun G' => G' a = some (.dic r l)) G
    | _ => False
  | _ => False
def small62 (i : Int) : Prop := -(2 ^ 62) ≤ i ∧ i < 2 ^ 62
def forW (tg : Tg) (stay : Dh → Prop) (body : DTS) (K : DEnds) : List Dv → DSt → Dh → Prop
  | [], σ, G => stay G ∧ K.nx σ G
  | d :: r, σ, G => stay G ∧ match asgT tg d σ with
    | some σ' => body { nx := forW tg stay body K r, rt := K.rt, bk := K.nx, ct := forW tg stay body K r } σ' G
    | none => False
def whlW (test : DTT) (body : DTS) (K : DEnds) : Nat → DSt → Dh → Prop
  | 0, _, _ => False
  | n + 1, σ, G => test σ G fun b G' => if b = true then body { nx := whlW test body K n, rt := K.rt, bk := K.nx, ct := whlW test body K n } σ G' else K.nx σ G'
def dwipe (σ : DSt) : List Nat → DSt
  | [] => σ
  | v :: vs => (dwipe σ vs).set v none
def lcW (tg : Tg) (stay : Dh → Prop) (cond : DTT) (elt : DTE) (Q : List Dv → Dh → Prop) : List Dv → List Dv → DSt → Dh → Prop
  | [], acc, σ, G => stay G ∧ Q acc G
  | d :: r, acc, σ, G => stay G ∧ match asgT tg d σ with
    | some σ' => cond σ' G fun b G1 => if b = true then elt σ' G1 fun v G2 => acc.length < sizeLine ∧ lcW tg stay cond elt Q r (acc ++ [v]) σ G2 else lcW tg stay cond elt Q r acc σ G1
    | none => False
/-- a value's truth -/
def tT (t : DTE) : DTT := fun σ G Q => t σ G fun x G1 => match truD G1 x with
  | some b => Q b G1
  | none => False
-- the slots that a target stores to
mutual
def tgS : Tg → List Nat
  | .nm i => [i]
  | .tp l => tgsS l
def tgsS : List Tg → List Nat
  | [] => []
  | t :: r => tgS t ++ tgsS r
end
def yesC : DTT := fun _ G Q => Q true G
def lc2W (tg : Tg) (stay : Dh → Prop) (it2 : DTI) (tg2 : Tg) (elt : DTE) (Q : List Dv → Dh → Prop) : List Dv → List Dv → DSt → Dh → Prop
  | [], acc, σ, G => stay G ∧ Q acc G
  | d :: r, acc, σ, G => stay G ∧ match asgT tg d σ with
    | some σ' => it2 σ' G fun items stay2 G1 => lcW tg2 stay2 yesC elt (fun acc' G2 => lc2W tg stay it2 tg2 elt Q r acc' σ G2) items acc (dwipe σ' (tgS tg2)) G1
    | none => False
mutual
def wpE : Ex → DTE
  | .var i => fun σ G Q => match σ[i]? with
    | some (some d) => Q d G
    | _ => False
  | .glob _ d => fun _ G Q => Q d G
  | .cint i => fun _ G Q => Q (.int i) G
  | .cbl b => fun _ G Q => Q (.bl b) G
  | .cnon => fun _ G Q => Q .non G
  | .cstr x => fun _ G Q => Q (.str x) G
  | .bin op a b => fun σ G Q => wpE a σ G fun x G1 => wpE b σ G1 fun y G2 => dBin op x y G2 Q
  | .neg a => fun σ G Q => wpE a σ G fun x G1 => match x with
    | .int i => Q (.int (-i)) G1
    | _ => False
  | .cmp op a b => fun σ G Q => wpE a σ G fun x G1 => wpE b σ G1 fun y G2 => dCmp op x y G2 Q
  | .chn op op' a b c => fun σ G Q => wpE a σ G fun x G1 => wpE b σ G1 fun y G2 => dCmp op x y G2 fun t G3 => match t with
    | .bl u => if u = true then wpE c σ G3 fun z G4 => dCmp op' y z G4 Q else Q (.bl false) G3
    | _ => False
  | .one a => wpE a
  | .and a b => fun σ G Q => wpE a σ G fun x G1 => match truD G1 x with
    | some t => if t = true then wpE b σ G1 Q else Q x G1
    | none => False
  | .or a b => fun σ G Q => wpE a σ G fun x G1 => match truD G1 x with
    | some t => if t = true then Q x G1 else wpE b σ G1 Q
    | none => False
  | .not a => fun σ G Q => wpE a σ G fun x G1 => match truD G1 x with
    | some b => Q (.bl (!b)) G1
    | none => False
  | .ife c a b => fun σ G Q => tT (wpE c) σ G fun t G1 => if t = true then wpE a σ G1 Q else wpE b σ G1 Q
  | .tup as => fun σ G Q => wpA as σ G fun l G1 => l.length ≤ sizeLine ∧ Q (.tup l) G1
  | .lst as => fun σ G Q => wpA as σ G fun l G1 => newL l G1 Q
  | .emp => fun _ G Q => ∀ p r, G p = none → Q (.ref p) (updG G p (.dic r []))
  | .ix a i => fun σ G Q => wpE a σ G fun x G1 => wpE i σ G1 fun y G2 => dIx x y G2 Q
  | .sl a lo hi => fun σ G Q => wpE a σ G fun x G1 => wpO lo σ G1 fun l G2 => wpO hi σ G2 fun h G3 => dSl x l h G3 Q
  | .call _ sp as => fun σ G Q => wpA as σ G fun l G1 => sp l G1 Q
  | .bcl b as => fun σ G Q => wpA as σ G fun l G1 => dBi b l G1 Q
  | .mth m o as => fun σ G Q => wpE o σ G fun x G1 => ∃ k, kdD G1 x = some k ∧ mtOk m k = true ∧ wpA as σ G1 fun l G2 => kdD G2 x = some k ∧ dMt m x l G2 Q
  | .lc own tg it c e => fun σ G Q => wpI it σ G fun items stay G1 => lcW tg stay (wpC c) (wpE e) (fun l G2 => ∀ p, G2 p = none → Q (.ref p) (updG G2 p (.lst l))) items [] (dwipe σ (own.map (·.2))) G1
  | .lc2 own tg it tg2 it2 e => fun σ G Q => wpI it σ G fun items stay G1 => lc2W tg stay (wpI it2) tg2 (wpE e) (fun l G2 => ∀ p, G2 p = none → Q (.ref p) (updG G2 p (.lst l))) items [] (dwipe σ (own.map (·.2))) G1
def wpA : Ar → DTA
  | .nil => fun _ G Q => Q [] G
  | .cons e r => fun σ G Q => wpE e σ G fun x G1 => wpA r σ G1 fun l G2 => Q (x :: l) G2
def wpO : Op → DSt → Dh → (Option Int → Dh → Prop) → Prop
  | .no => fun _ G Q => Q none G
  | .yes e => fun σ G Q => wpE e σ G fun x G1 => match x with
    | .int i => Q (some i) G1
    | _ => False
def wpC : Op → DTT
  | .no => yesC
  | .yes e => tT (wpE e)
def wpI : Ib → DTI
  | .seq e => fun σ G R => wpE e σ G fun x G1 => seqI x G1 R
  | .rng1 a => fun σ G R => wpE a σ G fun x G1 => match x with
    | .int i => small62 i ∧ R (rngD 0 i) (fun _ => True) G1
    | _ => False
  | .rng2 a b => fun σ G R => wpE a σ G fun x G1 => wpE b σ G1 fun y G2 => match x, y with
    | .int i, .int j => small62 i ∧ small62 j ∧ R (rngD i j) (fun _ => True) G2
    | _, _ => False
  | _ => fun _ _ _ => False
end
mutual
def wpS : Sm → DTS
  | .pass => fun D σ G => D.nx σ G
  | .brk => fun D σ G => D.bk σ G
  | .cnt => fun D σ G => D.ct σ G
  | .retn => fun D σ G => D.rt .non G
  | .expr e => fun D σ G => wpE e σ G fun _ G1 => D.nx σ G1
  | .ret e => fun D σ G => wpE e σ G D.rt
  | .set i e => fun D σ G => wpE e σ G fun x G1 => D.nx (σ.set i (some x)) G1
  | .tset tg e => fun D σ G => wpE e σ G fun x G1 => match asgT tg x σ with
    | some σ' => D.nx σ' G1
    | none => False
  | .par2 i j a b => fun D σ G => wpE a σ G fun x G1 => wpE b σ G1 fun y G2 => D.nx ((σ.set i (some x)).set j (some y)) G2
  | .par3 i j k a b c => fun D σ G => wpE a σ G fun x G1 => wpE b σ G1 fun y G2 => wpE c σ G2 fun z G3 => D.nx (((σ.set i (some x)).set j (some y)).set k (some z)) G3
  | .sub o i v => fun D σ G => wpE v σ G fun z G1 => wpE o σ G1 fun x G2 => wpE i σ G2 fun y G3 => dSet x y z G3 fun G4 => D.nx σ G4
  | .aug i op e => fun D σ G => match σ[i]? with
    | some (some x) => wpE e σ G fun y G1 => match x, y with
      | .int _, .int _ => dBin op x y G1 fun z G2 => D.nx (σ.set i (some z)) G2
      | _, _ => False
    | _ => False
  | .augs o i op e => fun D σ G => wpE o σ G fun x G1 => wpE i σ G1 fun y G2 => dGet x y G2 fun old G3 => wpE e σ G3 fun z G4 => match old, z with
      | .int _, .int _ => dBin op old z G4 fun new G5 => dSet x y new G5 fun G6 => D.nx σ G6
      | _, _ => False
  | .ifs c a b => fun D σ G => tT (wpE c) σ G fun t G1 => if t = true then wpB a D σ G1 else wpB b D σ G1
  | .for tg it b => fun D σ G => wpI it σ G fun items stay G1 => forW tg stay (wpB b) D items σ G1
  | .whl c b => fun D σ G => ∃ n, whlW (tT (wpE c)) (wpB b) D n σ G
def wpB : Bl → DTS
  | .nil => fun D σ G => D.nx σ G
  | .cons s r => fun D σ G => wpS s { D with nx := wpB r D } σ G
end
/-- what a text asks of the module -/
inductive Need where
  | fn (f : Str) (sp : DSp)
  | gl (x : Str) (d : Dv)
  | nb (x : Str)
def biName : Bi → Str
  | .len => "len" | .int1 => "int" | .abs => "abs" | .tupleOf => "tuple" | .listOf => "list" | .isInt => "isinstance" | .isBool => "isinstance" | .isTuple => "isinstance" | .isStr => "isinstance" | .isList => "isinstance"
  | .all => "all" | .any => "any" | .sum => "sum" | .sorted => "sorted" | .min1 => "min" | .max1 => "max" | .min2 => "min" | .max2 => "max" | .divmod => "divmod" | .enum => "enumerate" | .zip2 => "zip" | .rev => "reversed"
def biTy : Bi → Option Str
  | .isInt => some "int" | .isBool => some "bool" | .isTuple => some "tuple" | .isStr => some "str" | .isList => some "list"
  | _ => none
mutual
def Ex.need (P : Need → Prop) : Ex → Prop
  | .glob x d => P (.gl x d)
  | .bin _ a b => a.need P ∧ b.need P
  | .neg a => a.need P
  | .cmp _ a b => a.need P ∧ b.need P
  | .chn _ _ a b c => a.need P ∧ b.need P ∧ c.need P
  | .one a => a.need P
  | .and a b => a.need P ∧ b.need P
  | .or a b => a.need P ∧ b.need P
  | .not a => a.need P
  | .ife c a b => c.need P ∧ a.need P ∧ b.need P
  | .tup as => as.need P
  | .lst as => as.need P
  | .ix a i => a.need P ∧ i.need P
  | .sl a lo hi => a.need P ∧ lo.need P ∧ hi.need P
  | .call f sp as => P (.fn f sp) ∧ as.need P
  | .bcl b as => P (.nb (biName b)) ∧ (match biTy b with | some x => P (.nb x) | none => True) ∧ as.need P
  | .mth _ o as => o.need P ∧ as.need P
  | .lc _ _ it c e => it.need P ∧ c.need P ∧ e.need P
  | .lc2 _ _ it _ it2 e => it.need P ∧ it2.need P ∧ e.need P
  | _ => True
def Ar.need (P : Need → Prop) : Ar → Prop
  | .nil => True
  | .cons e r => e.need P ∧ r.need P
def Op.need (P : Need → Prop) : Op → Prop
  | .no => True
  | .yes e => e.need P
def Ib.need (P : Need → Prop) : Ib → Prop
  | .seq e => e.need P
  | .rng1 a => P (.nb "range") ∧ a.need P
  | .rng2 a b => P (.nb "range") ∧ a.need P ∧ b.need P
  | .enum a => P (.nb "enumerate") ∧ a.need P
  | .zip a b => P (.nb "zip") ∧ a.need P ∧ b.need P
  | .items a => a.need P
  | .vals a => a.need P
  | .rev a => P (.nb "reversed") ∧ a.need P
end
mutual
def Sm.need (P : Need → Prop) : Sm → Prop
  | .expr e => e.need P
  | .ret e => e.need P
  | .set _ e => e.need P
  | .tset _ e => e.need P
  | .par2 _ _ a b => a.need P ∧ b.need P
  | .par3 _ _ _ a b c => a.need P ∧ b.need P ∧ c.need P
  | .sub o i v => o.need P ∧ i.need P ∧ v.need P
  | .aug _ _ e => e.need P
  | .augs o i _ e => o.need P ∧ i.need P ∧ e.need P
  | .ifs c a b => c.need P ∧ a.need P ∧ b.need P
  | .for _ it b => it.need P ∧ b.need P
  | .whl c b => c.need P ∧ b.need P
  | _ => True
def Bl.need (P : Need → Prop) : Bl → Prop
  | .nil => True
  | .cons s r => s.need P ∧ r.need P
end
theorem wp_test : wpE (.and (.var 0) (.not (.var 1))) [some (.bl true), some (.bl false)] (fun _ => none) (fun d _ => d = .bl true) := rfl
end BD

/-! BD2: how wp lies over HandS's readings; operations by values. -/
namespace BD
open PySem PySem.Spec PyProof.Rows L2

/-- from one state to a later one: tuples and locked things stay, and so does all that D does not see -/
structure Frm (G : Dh) (H : Hp) (G' : Dh) (H' : Hp) : Prop where
  kt : KeepT H H'
  fr : ∀ b o, H b = some o → G b = none → H' b = some o ∧ G' b = none
theorem Frm.refl {G : Dh} {H : Hp} : Frm G H G H := ⟨.refl, fun _ _ h e => ⟨h, e⟩⟩
theorem Frm.trans {G G1 G2 : Dh} {H H1 H2 : Hp} (a : Frm G H G1 H1) (b : Frm G1 H1 G2 H2) : Frm G H G2 H2 :=
  ⟨a.kt.trans b.kt, fun c o h e => let ⟨h1, e1⟩ := a.fr c o h e; b.fr c o h1 e1⟩
theorem Frm.new {G : Dh} {H : Hp} {p : Addr} {o : HO} (h : H p = none) : Frm G H G (upd H p o) :=
  ⟨.new h, fun b x e g => ⟨by rw [upd_ne (ne_of_none e h)]; exact e, g⟩⟩
theorem Frm.newD {G : Dh} {H : Hp} {p : Addr} {o : HO} {d : Do} (h : H p = none) : Frm G H (updG G p d) (upd H p o) :=
  ⟨.new h, fun b x e g => ⟨by rw [upd_ne (ne_of_none e h)]; exact e, by rw [updG_ne (ne_of_none e h)]; exact g⟩⟩
theorem Frm.write {G : Dh} {H : Hp} {p : Addr} {o : HO} {d u : Do} (h : G p = some u) (m : Mut (H p)) : Frm G H (updG G p d) (upd H p o) :=
  ⟨.mut m, fun b x e g => by
    have : b ≠ p := fun z => by subst z; rw [h] at g; cases g
    exact ⟨by rw [upd_ne this]; exact e, by rw [updG_ne this]; exact g⟩⟩

section
variable (B : Bs)
/-- a D-wish for a value, as a wish of HandS's -/
def Wish (G : Dh) (H : Hp) (Qd : DK) (Q : VK) : Prop := ∀ d v G' H', Frm G H G' H' → RepG B H' G' → RepV B H' d v → Qd d G' → Q v H'
def liftE (t : DTE) : TE := fun σ H Q => ∃ ds G Qd, RepS B H ds σ ∧ RepG B H G ∧ t ds G Qd ∧ Wish B G H Qd Q
def liftA (t : DTA) : TA := fun σ H Q => ∃ ds G Qd, RepS B H ds σ ∧ RepG B H G ∧ t ds G Qd ∧ ∀ l vs G' H', Frm G H G' H' → RepG B H' G' → RepL B H' l vs → Qd l G' → Q vs H'
def liftT (t : DTT) : TT := fun σ H Q => ∃ ds G Qd, RepS B H ds σ ∧ RepG B H G ∧ t ds G Qd ∧ ∀ b G' H', Frm G H G' H' → RepG B H' G' → Qd b G' → Q b H'
def lift2 (t : Dv → Dv → Dh → DK → Prop) : R2 := fun x y H Q => ∃ dx dy G Qd, RepV B H dx x ∧ RepV B H dy y ∧ RepG B H G ∧ t dx dy G Qd ∧ Wish B G H Qd Q
def lift1 (t : Dv → Dh → DK → Prop) : V → Hp → VK → Prop := fun x H Q => ∃ dx G Qd, RepV B H dx x ∧ RepG B H G ∧ t dx G Qd ∧ Wish B G H Qd Q
def liftC (t : List Dv → Dh → DK → Prop) : List V → Hp → VK → Prop := fun xs H Q => ∃ l G Qd, RepL B H l xs ∧ RepG B H G ∧ t l G Qd ∧ Wish B G H Qd Q
def liftM (t : Dv → List Dv → Dh → DK → Prop) : V → List V → Hp → VK → Prop := fun x xs H Q => ∃ d l G Qd, RepV B H d x ∧ RepL B H l xs ∧ RepG B H G ∧ t d l G Qd ∧ Wish B G H Qd Q
end
section
variable {B : Bs} {G G' : Dh} {H H' : Hp} {Qd : DK} {Q : VK}
/-- a value that needs no new object -/
theorem Wish.here (w : Wish B G H Qd Q) (hG : RepG B H G) {d : Dv} {v : V} (r : RepV B H d v) (q : Qd d G) : Q v H := w d v G H .refl hG r q
theorem Wish.int (w : Wish B G H Qd Q) (hG : RepG B H G) {i : Int} (q : Qd (.int i) G) : Q (.int i) H := w.here hG (by rw [RepV]) q
theorem Wish.bl (w : Wish B G H Qd Q) (hG : RepG B H G) {i : Bool} (q : Qd (.bl i) G) : Q (.bl i) H := w.here hG (by rw [RepV]) q
theorem Wish.str (w : Wish B G H Qd Q) (hG : RepG B H G) {i : Str} (q : Qd (.str i) G) : Q (.str i) H := w.here hG (by rw [RepV]) q
theorem Wish.non (w : Wish B G H Qd Q) (hG : RepG B H G) (q : Qd .non G) : Q .non H := w.here hG (by rw [RepV]) q
/-- a new tuple -/
theorem Wish.tup (w : Wish B G H Qd Q) (hG : RepG B H G) {l : List Dv} {vs : List V} (r : RepL B H l vs) (q : Qd (.tup l) G) {p : Addr} (hp : H p = none) : Q (.ref p) (upd H p (.tup vs)) :=
  w _ _ _ _ (.new hp) (hG.new hp) (by rw [RepV]; exact ⟨p, vs, rfl, .inl (.inl upd_same), r.keep (.new hp)⟩) q
/-- a new list -/
theorem Wish.lst (w : Wish B G H Qd Q) (hG : RepG B H G) {l : List Dv} {vs : List V} (r : RepL B H l vs) {p : Addr} (q : Qd (.ref p) (updG G p (.lst l))) (hp : H p = none) : Q (.ref p) (upd H p (.lst vs)) :=
  w _ _ _ _ (.newD hp) (hG.newD (d := .lst l) hp ⟨vs, upd_same, r.keep (.new hp)⟩) (by rw [RepV]) q
theorem Wish.newL (w : Wish B G H Qd Q) (hG : RepG B H G) {l : List Dv} {vs : List V} (r : RepL B H l vs) (q : newL l G Qd) {p : Addr} (hp : H p = none) : Q (.ref p) (upd H p (.lst vs)) :=
  w.lst hG r (q.2 p (hG.fresh hp)) hp
/-- a list changed -/
theorem Wish.wlst (w : Wish B G H Qd Q) (hG : RepG B H G) {a : Addr} {l m : List Dv} {vs ws : List V} (ha : G a = some (.lst l)) (hv : H a = some (.lst vs)) (r : RepL B H m ws) {d : Dv} {v : V} (rd : RepV B H d v) (q : Qd d (updG G a (.lst m))) : Q v (upd H a (.lst ws)) := by
  have hm : Mut (H a) := by rw [hv]; trivial
  exact w _ _ _ _ (.write ha hm) (hG.write (d := .lst m) hm ⟨ws, upd_same, r.keep (.mut hm)⟩) (rd.keep (.mut hm)) q
end

/-! ### == of trees -/
section
open SeqAt
theorem rc_key (x y : NestedKey) (A : Around) (s : Shared) (a b : Value) (ra : NestedIs s.heap x a) (rb : NestedIs s.heap y b) (hu : A.units + min x.depth y.depth < cLine) : RcAt A s a b (NestedKey.beq x y) := by
  have cast : ∀ {u v : Value} {c d : Bool}, RcAt A s u v c → c = d → RcAt A s u v d := fun h e => e ▸ h
  cases ra with
  | none =>
    cases rb with
    | none => exact RcAt.none_none
    | bool e => exact RcAt.none_bool _
    | int y u => exact RcAt.none_int y u
    | text y u => exact RcAt.none_str y u
    | tup k1 k2 k3 k4 => exact RcAt.none_tuple ⟨_, k1, k2, _, k3⟩ (room_here hu)
  | int i t =>
    cases rb with
    | none => exact RcAt.int_none i t
    | bool e => exact cast (RcAt.int_bool i t _) (by subst e; rfl)
    | int y u => exact cast (RcAt.int_int i t y u) rfl
    | text y u => exact RcAt.int_str i t y u
    | tup k1 k2 k3 k4 => exact RcAt.int_tuple i t ⟨_, k1, k2, _, k3⟩ (room_here hu)
  | @bool c _ e =>
    cases rb with
    | none => exact RcAt.bool_none c
    | @bool d _ e' => exact cast (RcAt.bool_bool c d) (by subst e e'; cases c <;> cases d <;> rfl)
    | int y u => exact cast (RcAt.bool_int c y u) (by subst e; rfl)
    | text y u => exact RcAt.bool_str c y u
    | tup k1 k2 k3 k4 => exact RcAt.bool_tuple c ⟨_, k1, k2, _, k3⟩ (room_here hu)
  | text x t =>
    cases rb with
    | none => exact RcAt.str_none x t
    | @bool d _ e => exact RcAt.str_bool x t d
    | int y u => exact RcAt.str_int x t y u
    | text y u => exact cast (RcAt.str_str x t y u) rfl
    | tup k1 k2 k3 k4 => exact RcAt.str_tuple x t ⟨_, k1, k2, _, k3⟩ (room_here hu)
  | @tup l o vs n xs h1 h2 h3 h4 =>
    have hl : s.heap.IsTuple l vs := ⟨_, h1, h2, _, h3⟩
    cases rb with
    | none => exact RcAt.tuple_none hl (room_here hu)
    | @bool d _ e => exact RcAt.tuple_bool d hl (room_here hu)
    | int y u => exact RcAt.tuple_int y u hl (room_here hu)
    | text y u => exact RcAt.tuple_str y u hl (room_here hu)
    | @tup l' o' vs' n' ys k1 k2 k3 k4 =>
      have hl' : s.heap.IsTuple l' vs' := ⟨_, k1, k2, _, k3⟩
      have n1 : vs.size = xs.length := by simpa using NestedAll.length _ _ h4
      have n2 : vs'.size = ys.length := by simpa using NestedAll.length _ _ k4
      show RcAt A s (.ref l) (.ref l') (NestedKey.beqAll xs ys)
      rw [← beqAll_eq xs ys, ← n1, ← n2]
      refine RcAt.tuples hl hl' (room_here hu) fun j j1 j2 => ?_
      have := eqAt_keys xs ys A.in1 s vs.toList vs'.toList h4 k4 (room_in hu) j (by simpa using j1) (by simpa using j2)
      simpa using this
theorem rcne_key (x y : NestedKey) (A : Around) (s : Shared) (a b : Value) (ra : NestedIs s.heap x a) (rb : NestedIs s.heap y b) (hu : A.units + min x.depth y.depth < cLine) : RcNeAt A s a b (!NestedKey.beq x y) := by
  have cast : ∀ {u v : Value} {c d : Bool}, RcNeAt A s u v c → c = d → RcNeAt A s u v d := fun h e => e ▸ h
  cases ra with
  | none =>
    cases rb with
    | none => exact RcNeAt.none_none
    | bool e => exact RcNeAt.none_bool _
    | int y u => exact RcNeAt.none_int y u
    | text y u => exact RcNeAt.none_str y u
    | tup k1 k2 k3 k4 => exact RcNeAt.none_tuple ⟨_, k1, k2, _, k3⟩ (room_here hu)
  | int i t =>
    cases rb with
    | none => exact RcNeAt.int_none i t
    | bool e => exact cast (RcNeAt.int_bool i t _) (by subst e; rfl)
    | int y u => exact cast (RcNeAt.int_int i t y u) rfl
    | text y u => exact RcNeAt.int_str i t y u
    | tup k1 k2 k3 k4 => exact RcNeAt.int_tuple i t ⟨_, k1, k2, _, k3⟩ (room_here hu)
  | @bool c _ e =>
    cases rb with
    | none => exact RcNeAt.bool_none c
    | @bool d _ e' => exact cast (RcNeAt.bool_bool c d) (by subst e e'; cases c <;> cases d <;> rfl)
    | int y u => exact cast (RcNeAt.bool_int c y u) (by subst e; rfl)
    | text y u => exact RcNeAt.bool_str c y u
    | tup k1 k2 k3 k4 => exact RcNeAt.bool_tuple c ⟨_, k1, k2, _, k3⟩ (room_here hu)
  | text x t =>
    cases rb with
    | none => exact RcNeAt.str_none x t
    | @bool d _ e => exact RcNeAt.str_bool x t d
    | int y u => exact RcNeAt.str_int x t y u
    | text y u => exact cast (RcNeAt.str_str x t y u) rfl
    | tup k1 k2 k3 k4 => exact RcNeAt.str_tuple x t ⟨_, k1, k2, _, k3⟩ (room_here hu)
  | @tup l o vs n xs h1 h2 h3 h4 =>
    have hl : s.heap.IsTuple l vs := ⟨_, h1, h2, _, h3⟩
    cases rb with
    | none => exact RcNeAt.tuple_none hl (room_here hu)
    | @bool d _ e => exact RcNeAt.tuple_bool d hl (room_here hu)
    | int y u => exact RcNeAt.tuple_int y u hl (room_here hu)
    | text y u => exact RcNeAt.tuple_str y u hl (room_here hu)
    | @tup l' o' vs' n' ys k1 k2 k3 k4 =>
      have hl' : s.heap.IsTuple l' vs' := ⟨_, k1, k2, _, k3⟩
      have n1 : vs.size = xs.length := by simpa using NestedAll.length _ _ h4
      have n2 : vs'.size = ys.length := by simpa using NestedAll.length _ _ k4
      show RcNeAt A s (.ref l) (.ref l') (!NestedKey.beqAll xs ys)
      rw [← beqAll_eq xs ys, ← n1, ← n2]
      refine RcNeAt.tuples hl hl' (room_here hu) fun j j1 j2 => ?_
      have := eqAt_keys xs ys A.in1 s vs.toList vs'.toList h4 k4 (room_in hu) j (by simpa using j1) (by simpa using j2)
      simpa using this
/-- two lists of trees -/
theorem rc_lists {A : Around} {s : Shared} {l b : Addr} {xs ys : List NestedKey} {its its2 : List Value} (h : s.heap.IsList l its.toArray) (h' : s.heap.IsList b its2.toArray) (hx : NestedAll s.heap xs its) (hy : NestedAll s.heap ys its2)
    (hu : A.units + min (NestedKey.tup xs).depth (NestedKey.tup ys).depth < cLine) : RcAt A s (.ref l) (.ref b) (NestedKey.beqAll xs ys) ∧ RcNeAt A s (.ref l) (.ref b) (!NestedKey.beqAll xs ys) := by
  have n1 : its.length = xs.length := NestedAll.length _ _ hx
  have n2 : its2.length = ys.length := NestedAll.length _ _ hy
  have hu0 : A.units < cLine := room_here hu
  by_cases e : its.length = its2.length
  · have he : ∀ j (j1 : j < its.toArray.size) (j2 : j < its2.toArray.size), EqAt A.in1 s its.toArray[j] its2.toArray[j] (keyEqAt xs ys j) := fun j j1 j2 => by
      have := eqAt_keys xs ys A.in1 s its its2 hx hy (room_in hu) j (by simpa using j1) (by simpa using j2)
      simpa using this
    have hb : NestedKey.beqAll xs ys = (List.range its.toArray.size).all (keyEqAt xs ys) := by
      rw [← beqAll_eq xs ys, ← n1, ← n2, e]
      simp [e]
    rw [hb]
    exact ⟨RcAt.lists h h' (by simpa using e) hu0 he, RcNeAt.lists h h' (by simpa using e) hu0 he⟩
  · have hb : NestedKey.beqAll xs ys = false := by
      rw [← beqAll_eq xs ys, ← n1, ← n2]
      simp [e]
    rw [hb]
    exact ⟨RcAt.lists_lengths h h' (by simpa using e) hu0, RcNeAt.lists_lengths h h' (by simpa using e) hu0⟩
end
end BD

/-! BD3: operators by values. -/
namespace BD
open PySem PySem.Spec PyProof.Rows L2
section
variable {X : Cx}
theorem rInt {B : Bs} {H : Hp} {i : Int} {v : V} (h : RepV B H (.int i) v) : v = .int i := by rw [RepV] at h; exact h
theorem rStr {B : Bs} {H : Hp} {i : Str} {v : V} (h : RepV B H (.str i) v) : v = .str i := by rw [RepV] at h; exact h
theorem rBl {B : Bs} {H : Hp} {i : Bool} {v : V} (h : RepV B H (.bl i) v) : v = .bl i := by rw [RepV] at h; exact h
theorem rNon {B : Bs} {H : Hp} {v : V} (h : RepV B H .non v) : v = .non := by rw [RepV] at h; exact h
theorem rRef {B : Bs} {H : Hp} {a : Addr} {v : V} (h : RepV B H (.ref a) v) : v = .ref a := by rw [RepV] at h; exact h
theorem rTup {B : Bs} {H : Hp} {l : List Dv} {v : V} (h : RepV B H (.tup l) v) : ∃ a vs, v = .ref a ∧ SqT B.K H a vs ∧ RepL B H l vs := by rw [RepV] at h; exact h

theorem RepG.lst {B : Bs} {H : Hp} {G : Dh} (h : RepG B H G) {a : Addr} {l : List Dv} (e : G a = some (.lst l)) : ∃ vs, H a = some (.lst vs) ∧ RepL B H l vs := h a _ e
theorem RepG.fls {B : Bs} {H : Hp} {G : Dh} (h : RepG B H G) {a : Addr} {l : List Dv} (e : G a = some (.fls l)) : ∃ vs, Rd H a (.lst vs) ∧ RepL B H l vs := h a _ e

/-! ### arithmetic -/
theorem do_add : OpR X (binaryOp .Add) (lift2 (bs X) dAdd) := by
  intro pins s σ H x y v u Q I rx ry ⟨dx, dy, G, Qd, hx, hy, hG, h, w⟩
  cases dx with
  | int i =>
    cases dy with
    | int j =>
      obtain rfl := rInt hx; obtain rfl := rInt hy
      exact op_add pins s σ H _ _ v u Q I rx ry ⟨i, j, rfl, rfl, w.int hG h⟩
    | _ => exact h.elim
  | str i =>
    cases dy with
    | str j =>
      obtain rfl := rStr hx; obtain rfl := rStr hy
      exact op_add_str pins s σ H _ _ v u Q I rx ry ⟨i, j, rfl, rfl, h.1, w.str hG h.2⟩
    | _ => exact h.elim
  | tup l =>
    cases dy with
    | tup m =>
      obtain ⟨a, vs, rfl, h1, r1⟩ := rTup hx
      obtain ⟨b, ws, rfl, h2, r2⟩ := rTup hy
      refine op_catA pins s σ H _ _ v u Q I rx ry ⟨a, b, vs, ws, rfl, rfl, h1, h2, by rw [r1.length, r2.length]; exact h.1, fun e => ?_, fun e e2 => ?_, fun _ _ p hp => w.tup hG (r1.append r2) h.2 hp⟩
      · have e3 : l = [] := List.length_eq_zero_iff.mp (by rw [← r1.length, e]; rfl)
        refine w.here hG (d := .tup m) (by rw [RepV]; exact ⟨b, ws, rfl, h2, r2⟩) ?_
        have := h.2
        rw [e3] at this
        exact this
      · have e3 : m = [] := List.length_eq_zero_iff.mp (by rw [← r2.length, e2]; rfl)
        refine w.here hG (d := .tup l) (by rw [RepV]; exact ⟨a, vs, rfl, h1, r1⟩) ?_
        have := h.2
        rw [e3, List.append_nil] at this
        exact this
    | _ => exact h.elim
  | ref a =>
    cases dy with
    | ref b =>
      obtain rfl := rRef hx; obtain rfl := rRef hy
      have h : (match G a, G b with | some (.lst l), some (.lst m) => newL (l ++ m) G Qd | _, _ => False) := h
      split at h
      · rename_i l m e1 e2
        obtain ⟨vs, h1, r1⟩ := hG.lst e1
        obtain ⟨ws, h2, r2⟩ := hG.lst e2
        exact op_cat pins s σ H _ _ v u Q I rx ry ⟨a, b, vs, ws, rfl, rfl, h1, h2, by rw [r1.length, r2.length, ← List.length_append]; exact h.1, fun p hp => w.newL hG (r1.append r2) h hp⟩
      · exact h.elim
    | _ => exact h.elim
  | _ => exact h.elim
theorem do_int {f : Value → Value → Sem Value} {C : Int → Int → Prop} {g : Int → Int → V} {gd : Int → Int → Dv} {t : Dv → Dv → Dh → DK → Prop} (ho : OpR X f (rI C g)) (hg : ∀ i j (H : Hp), RepV (bs X) H (gd i j) (g i j))
    (ht : ∀ x y G Q, t x y G Q → ∃ i j, x = .int i ∧ y = .int j ∧ C i j ∧ Q (gd i j) G) : OpR X f (lift2 (bs X) t) := by
  intro pins s σ H x y v u Q I rx ry ⟨dx, dy, G, Qd, hx, hy, hG, h, w⟩
  obtain ⟨i, j, rfl, rfl, hc, q⟩ := ht _ _ _ _ h
  obtain rfl := rInt hx; obtain rfl := rInt hy
  exact ho pins s σ H _ _ v u Q I rx ry ⟨i, j, rfl, rfl, hc, w.here hG (hg i j H) q⟩
theorem do_int0 {f : Value → Value → Sem Value} {g : Int → Int → V} {gd : Int → Int → Dv} {t : Dv → Dv → Dh → DK → Prop} (ho : OpR X f (rI0 g)) (hg : ∀ i j (H : Hp), RepV (bs X) H (gd i j) (g i j))
    (ht : ∀ x y G Q, t x y G Q → ∃ i j, x = .int i ∧ y = .int j ∧ Q (gd i j) G) : OpR X f (lift2 (bs X) t) := by
  intro pins s σ H x y v u Q I rx ry ⟨dx, dy, G, Qd, hx, hy, hG, h, w⟩
  obtain ⟨i, j, rfl, rfl, q⟩ := ht _ _ _ _ h
  obtain rfl := rInt hx; obtain rfl := rInt hy
  exact ho pins s σ H _ _ v u Q I rx ry ⟨i, j, rfl, rfl, w.here hG (hg i j H) q⟩
theorem do_sub : OpR X (binaryOp .Sub) (lift2 (bs X) dSub) := do_int0 op_sub (gd := fun i j => .int (i - j)) (fun _ _ _ => by rw [RepV]) fun x y G Q h => by
  cases x <;> cases y <;> first | exact ⟨_, _, rfl, rfl, h⟩ | exact h.elim
theorem do_fdiv : OpR X (binaryOp .FloorDiv) (lift2 (bs X) dFdiv) := do_int op_fdivW (gd := fun i j => .int (i / j)) (fun _ _ _ => by rw [RepV]) fun x y G Q h => by
  cases x <;> cases y <;> first | exact ⟨_, _, rfl, rfl, h⟩ | exact h.elim
theorem do_mod : OpR X (binaryOp .Mod) (lift2 (bs X) dMod) := do_int op_mod (gd := fun i j => .int (i % j)) (fun _ _ _ => by rw [RepV]) fun x y G Q h => by
  cases x <;> cases y <;> first | exact ⟨_, _, rfl, rfl, h⟩ | exact h.elim
theorem do_pow : OpR X (binaryOp .Pow) (lift2 (bs X) dPow) := do_int op_pow (gd := fun i j => .int (i ^ j.toNat)) (fun _ _ _ => by rw [RepV]) fun x y G Q h => by
  cases x <;> cases y <;> first | exact ⟨_, _, rfl, rfl, h⟩ | exact h.elim
theorem do_shl : OpR X (binaryOp .LShift) (lift2 (bs X) dShl) := do_int op_shlW (gd := fun i j => .int (i * 2 ^ j.toNat)) (fun _ _ _ => by rw [RepV]) fun x y G Q h => by
  cases x <;> cases y <;> first | exact ⟨_, _, rfl, rfl, h⟩ | exact h.elim
theorem do_shr : OpR X (binaryOp .RShift) (lift2 (bs X) dShr) := do_int op_shr (gd := fun i j => .int (i / 2 ^ j.toNat)) (fun _ _ _ => by rw [RepV]) fun x y G Q h => by
  cases x <;> cases y <;> first | exact ⟨_, _, rfl, rfl, h⟩ | exact h.elim
theorem do_and : OpR X (binaryOp .BitAnd) (lift2 (bs X) dAnd) := do_int0 op_and (gd := fun i j => .int (Builtin.bitAnd i j)) (fun _ _ _ => by rw [RepV]) fun x y G Q h => by
  cases x <;> cases y <;> first | exact ⟨_, _, rfl, rfl, h⟩ | exact h.elim
theorem do_or : OpR X (binaryOp .BitOr) (lift2 (bs X) dOr) := do_int0 op_or (gd := fun i j => .int (Builtin.bitOr i j)) (fun _ _ _ => by rw [RepV]) fun x y G Q h => by
  cases x <;> cases y <;> first | exact ⟨_, _, rfl, rfl, h⟩ | exact h.elim
theorem do_xor : OpR X (binaryOp .BitXor) (lift2 (bs X) dXor) := do_int0 op_xor (gd := fun i j => .int (Builtin.bitXor i j)) (fun _ _ _ => by rw [RepV]) fun x y G Q h => by
  cases x <;> cases y <;> first | exact ⟨_, _, rfl, rfl, h⟩ | exact h.elim
theorem RepL.rep {B : Bs} {H : Hp} {l : List Dv} {vs : List V} (h : RepL B H l vs) : ∀ k : Nat, RepL B H (List.replicate k l).flatten (List.replicate k vs).flatten
  | 0 => .nil
  | k + 1 => by
    rw [List.replicate_succ, List.replicate_succ, List.flatten_cons, List.flatten_cons]
    exact h.append (RepL.rep h k)
theorem op_mulX : OpR X (binaryOp .Mult) (rI IntMulOk fun i j => .int (i * j)) := opI fun _ _ _ _ _ _ _ hc q => mul_int q hc
theorem do_mul : OpR X (binaryOp .Mult) (lift2 (bs X) dMul) := by
  intro pins s σ H x y v u Q I rx ry ⟨dx, dy, G, Qd, hx, hy, hG, h, w⟩
  cases dx with
  | int i =>
    cases dy with
    | int j =>
      obtain rfl := rInt hx; obtain rfl := rInt hy
      exact op_mulX pins s σ H _ _ v u Q I rx ry ⟨i, j, rfl, rfl, h.1, w.int hG h.2⟩
    | _ => exact h.elim
  | tup l =>
    cases dy with
    | int k =>
      obtain rfl := rInt hy
      obtain ⟨a, vs, rfl, h1, r1⟩ := rTup hx
      obtain ⟨⟨n1, n2, n3, n4⟩, q⟩ := h
      refine op_repT pins s σ H _ _ v u Q I rx ry ⟨a, k, vs, rfl, rfl, h1, fun e => n1 (List.length_eq_zero_iff.mp (by rw [← r1.length, e]; rfl)), n2, n3, by rw [r1.length]; exact n4, fun p hp => w.tup hG (r1.rep k.toNat) q hp⟩
    | _ => exact h.elim
  | ref a =>
    cases dy with
    | int k =>
      obtain rfl := rRef hx; obtain rfl := rInt hy
      have h : (match G a with | some (.lst l) => (0 ≤ k ∧ k < 2 ^ 63 ∧ l.length * k.toNat ≤ sizeLine) ∧ newL (repD l k) G Qd | _ => False) := h
      split at h
      · rename_i l e1
        obtain ⟨vs, h1, r1⟩ := hG.lst e1
        exact op_rep pins s σ H _ _ v u Q I rx ry ⟨a, k, vs, rfl, rfl, h1, by omega, h.1.2.1, by rw [r1.length]; exact h.1.2.2, fun p hp => w.newL hG (r1.rep k.toNat) h.2 hp⟩
      · exact h.elim
    | _ => exact h.elim
  | _ => exact h.elim
theorem do_none {f : Value → Value → Sem Value} : OpR X f (lift2 (bs X) fun _ _ _ _ => False) := fun _ _ _ _ _ _ _ _ _ _ _ _ ⟨_, _, _, _, _, _, _, h, _⟩ => h.elim
theorem do_bin (op : Operator) : OpR X (binaryOp op) (lift2 (bs X) (dBin op)) := by
  cases op with
  | Add => exact do_add
  | Sub => exact do_sub
  | Mult => exact do_mul
  | FloorDiv => exact do_fdiv
  | Mod => exact do_mod
  | Pow => exact do_pow
  | LShift => exact do_shl
  | RShift => exact do_shr
  | BitAnd => exact do_and
  | BitOr => exact do_or
  | BitXor => exact do_xor
  | _ => exact do_none

/-! ### comparisons -/
theorem do_lt : OpR X (compareOp .Lt) (lift2 (bs X) dLt) := do_int0 op_lt (gd := fun i j => .bl (decide (i < j))) (fun _ _ _ => by rw [RepV]) fun x y G Q h => by
  cases x <;> cases y <;> first | exact ⟨_, _, rfl, rfl, h⟩ | exact h.elim
theorem do_le : OpR X (compareOp .LtE) (lift2 (bs X) dLe) := do_int0 op_le (gd := fun i j => .bl (decide (i ≤ j))) (fun _ _ _ => by rw [RepV]) fun x y G Q h => by
  cases x <;> cases y <;> first | exact ⟨_, _, rfl, rfl, h⟩ | exact h.elim
theorem do_gt : OpR X (compareOp .Gt) (lift2 (bs X) dGt) := do_int0 op_gt (gd := fun i j => .bl (decide (j < i))) (fun _ _ _ => by rw [RepV]) fun x y G Q h => by
  cases x <;> cases y <;> first | exact ⟨_, _, rfl, rfl, h⟩ | exact h.elim
theorem do_ge : OpR X (compareOp .GtE) (lift2 (bs X) dGe) := do_int0 op_ge (gd := fun i j => .bl (decide (j ≤ i))) (fun _ _ _ => by rw [RepV]) fun x y G Q h => by
  cases x <;> cases y <;> first | exact ⟨_, _, rfl, rfl, h⟩ | exact h.elim

/-- there is room on the C stack -/
def CRoom (X : Cx) : Prop := X.A.units + 64 < cLine
theorem eq_trees {pins : List (Addr × Obj)} {s : Shared} {σ : L2.St} {H : Hp} {x y : V} {v u : Value} {dx dy : Dv} (hr : CRoom X) (I : Inv X pins σ H s) (rx : RelV x v) (ry : RelV y u) (hx : RepV (bs X) H dx x) (hy : RepV (bs X) H dy y)
    (p1 : dx.pure = true) (p2 : dy.pure = true) (d1 : dx.dep ≤ 8) : SeqAt.RcAt X.A s v u (decide (dx = dy)) ∧ SeqAt.RcNeAt X.A s v u (!decide (dx = dy)) := by
  have n1 := RepV.nested I hx (Dv.pure_tree _ p1) rx
  have n2 := RepV.nested I hy (Dv.pure_tree _ p2) ry
  have hu : X.A.units + min dx.key.depth dy.key.depth < cLine := by
    have : X.A.units + 64 < cLine := hr
    have : dx.key.depth ≤ 8 := d1
    omega
  rw [← Dv.key_beq p1 p2]
  exact ⟨rc_key _ _ _ _ _ _ n1 n2 hu, rcne_key _ _ _ _ _ _ n1 n2 hu⟩
theorem eq_values {pins : List (Addr × Obj)} {s : Shared} {σ : L2.St} {H : Hp} {x y : V} {v u : Value} {dx dy : Dv} {G : Dh} {b : Bool} (hr : CRoom X) (I : Inv X pins σ H s) (rx : RelV x v) (ry : RelV y u) (hx : RepV (bs X) H dx x) (hy : RepV (bs X) H dy y)
    (hG : RepG (bs X) H G) (e : eqD G dx dy = some b) : SeqAt.RcAt X.A s v u b ∧ SeqAt.RcNeAt X.A s v u (!b) := by
  have gen : ∀ {b : Bool}, (if dx.pure = true ∧ dy.pure = true ∧ dx.dep ≤ 8 ∧ dy.dep ≤ 8 then some (decide (dx = dy)) else none) = some b → SeqAt.RcAt X.A s v u b ∧ SeqAt.RcNeAt X.A s v u (!b) := by
    intro b e
    split at e
    · rename_i z
      cases e
      exact eq_trees hr I rx ry hx hy z.1 z.2.1 z.2.2.1
    · cases e
  cases dx with
  | bl a =>
    cases dy with
    | bl c =>
      obtain rfl := rBl hx; obtain rfl := rBl hy
      cases rx; cases ry
      have : (a == c) = b := Option.some.inj e
      subst this
      exact ⟨SeqAt.RcAt.bool_bool a c, SeqAt.RcNeAt.bool_bool a c⟩
    | _ => exact gen e
  | ref a =>
    cases dy with
    | ref c =>
      obtain rfl := rRef hx; obtain rfl := rRef hy
      cases rx; cases ry
      have e : (match G a, G c with
        | some (.lst l), some (.lst m) => if Dv.pures l = true ∧ Dv.pures m = true ∧ (Dv.tup l).dep ≤ 8 ∧ (Dv.tup m).dep ≤ 8 then some (decide (l = m)) else none
        | _, _ => none) = some b := e
      split at e
      · rename_i l m e1 e2
        split at e
        · rename_i z
          cases e
          obtain ⟨vs, h1, r1⟩ := hG.lst e1
          obtain ⟨ws, h2, r2⟩ := hG.lst e2
          obtain ⟨its, w1, p1, _⟩ := I.list (SqL.of h1)
          obtain ⟨its2, w2, p2, _⟩ := I.list (SqL.of h2)
          have n1 := RepL.nested I r1 (Dv.pures_trees _ z.1) w1
          have n2 := RepL.nested I r2 (Dv.pures_trees _ z.2.1) w2
          have hb : NestedKey.beqAll (Dv.keys l) (Dv.keys m) = decide (l = m) := by
            have := Dv.key_beq (a := .tup l) (b := .tup m) (by rw [Dv.pure]; exact z.1) (by rw [Dv.pure]; exact z.2.1)
            rw [Dv.key, Dv.key] at this
            rw [show NestedKey.beqAll (Dv.keys l) (Dv.keys m) = NestedKey.beq (.tup (Dv.keys l)) (.tup (Dv.keys m)) from by rw [NestedKey.beq], this]
            simp
          rw [← hb]
          refine rc_lists p1.isList p2.isList n1 n2 ?_
          have h0 : X.A.units + 64 < cLine := hr
          have h1' : (NestedKey.tup (Dv.keys l)).depth ≤ 8 := by have := z.2.2.1; rw [Dv.dep, Dv.key] at this; exact this
          omega
        · cases e
      · cases e
    | _ => exact gen e
  | _ => exact gen e
theorem do_eq (hr : CRoom X) : OpR X (compareOp .Eq) (lift2 (bs X) dEq) := by
  intro pins s σ H x y v u Q I rx ry ⟨dx, dy, G, Qd, hx, hy, hG, h, w⟩
  unfold dEq at h
  split at h
  · rename_i b e
    exact (eq_values hr I rx ry hx hy hG e).1 _ _ _ _ ⟨.bl b, H, I, rfl, w.bl hG h⟩
  · exact h.elim
theorem do_ne (hr : CRoom X) : OpR X (compareOp .NotEq) (lift2 (bs X) dNe) := by
  intro pins s σ H x y v u Q I rx ry ⟨dx, dy, G, Qd, hx, hy, hG, h, w⟩
  unfold dNe at h
  split at h
  · rename_i b e
    exact (eq_values hr I rx ry hx hy hG e).2 _ _ _ _ ⟨.bl (!b), H, I, rfl, w.bl hG h⟩
  · exact h.elim
theorem rep_non {B : Bs} {H : Hp} {d : Dv} {v : V} (h : RepV B H d v) : decide (v = .non) = decide (d = .non) := by
  cases d with
  | non => obtain rfl := rNon h; rfl
  | bl _ => obtain rfl := rBl h; rfl
  | int _ => obtain rfl := rInt h; rfl
  | str _ => obtain rfl := rStr h; rfl
  | ref _ => obtain rfl := rRef h; rfl
  | tup _ => obtain ⟨a, vs, rfl, _⟩ := rTup h; rfl
theorem do_is : OpR X (compareOp .Is) (lift2 (bs X) dIs) := by
  intro pins s σ H x y v u Q I rx ry ⟨dx, dy, G, Qd, hx, hy, hG, h, w⟩
  unfold dIs at h
  split at h
  · rename_i b e
    cases dy with
    | non =>
      obtain rfl := rNon hy
      refine op_isN pins s σ H _ _ v u Q I rx ry ⟨rfl, ?_⟩
      rw [rep_non hx]
      have e : some (decide (dx = .non)) = some b := by rw [← e]; unfold isD; cases dx <;> rfl
      rw [Option.some.inj e]
      exact w.bl hG h
    | bl c =>
      cases dx with
      | bl a =>
        obtain rfl := rBl hx; obtain rfl := rBl hy
        refine op_isBl pins s σ H _ _ v u Q I rx ry ⟨a, c, rfl, rfl, ?_⟩
        have e : some (decide (a = c)) = some b := e
        rw [Option.some.inj e]
        exact w.bl hG h
      | _ => cases e
    | _ => cases dx <;> cases e
  · exact h.elim
theorem do_isNot : OpR X (compareOp .IsNot) (lift2 (bs X) dIsNot) := by
  intro pins s σ H x y v u Q I rx ry ⟨dx, dy, G, Qd, hx, hy, hG, h, w⟩
  unfold dIsNot at h
  split at h
  · rename_i b e
    cases dy with
    | non =>
      obtain rfl := rNon hy
      refine op_notN pins s σ H _ _ v u Q I rx ry ⟨rfl, ?_⟩
      rw [rep_non hx]
      have e : some (decide (dx = .non)) = some b := by rw [← e]; unfold isD; cases dx <;> rfl
      rw [Option.some.inj e]
      exact w.bl hG h
    | bl c =>
      cases dx with
      | bl a =>
        obtain rfl := rBl hx; obtain rfl := rBl hy
        refine op_notBl pins s σ H _ _ v u Q I rx ry ⟨a, c, rfl, rfl, ?_⟩
        have e : some (decide (a = c)) = some b := e
        rw [Option.some.inj e]
        exact w.bl hG h
      | _ => cases e
    | _ => cases dx <;> cases e
  · exact h.elim
end
end BD

/-! BD4: dicts. -/
namespace BD
open PySem PySem.Spec PyProof.Rows L2

/-! ### lists side by side -/
section
variable {α β : Type} {F : α → β → Prop} {f : α → Bool} {g : β → Bool} {l : List α} {m : List β}
theorem paired_find (h : Paired F l m) (e : ∀ a b, F a b → f a = g b) : (∃ a b, l.find? f = some a ∧ m.find? g = some b ∧ F a b) ∨ (l.find? f = none ∧ m.find? g = none) := by
  induction h with
  | nil => exact .inr ⟨rfl, rfl⟩
  | @cons a b r t h1 h2 ih =>
    have q := e a b h1
    cases hf : f a with
    | true =>
      rw [hf] at q
      exact .inl ⟨a, b, by simp [List.find?_cons, hf], by simp [List.find?_cons, ← q], h1⟩
    | false =>
      rw [hf] at q
      rw [List.find?_cons, hf, List.find?_cons, ← q]
      exact ih
theorem paired_any (h : Paired F l m) (e : ∀ a b, F a b → f a = g b) : l.any f = m.any g := by
  induction h with
  | nil => rfl
  | cons h1 _ ih => rw [List.any_cons, List.any_cons, e _ _ h1, ih]
theorem paired_map {γ δ : Type} {F' : γ → δ → Prop} {p : α → γ} {q : β → δ} (h : Paired F l m) (e : ∀ a b, F a b → F' (p a) (q b)) : Paired F' (l.map p) (m.map q) := by
  induction h with
  | nil => exact .nil
  | cons h1 _ ih => exact .cons (e _ _ h1) ih
theorem paired_filter (h : Paired F l m) (e : ∀ a b, F a b → f a = g b) : Paired F (l.filter f) (m.filter g) := by
  induction h with
  | nil => exact .nil
  | @cons a b r t h1 h2 ih =>
    have q := e a b h1
    cases hf : f a with
    | true =>
      rw [hf] at q
      rw [List.filter_cons_of_pos hf, List.filter_cons_of_pos q.symm]
      exact .cons h1 ih
    | false =>
      rw [hf] at q
      rw [List.filter_cons_of_neg (by simp [hf]), List.filter_cons_of_neg (by simp [← q])]
      exact ih
theorem paired_append {l' : List α} {m' : List β} (h : Paired F l m) (h' : Paired F l' m') : Paired F (l ++ l') (m ++ m') := by
  induction h with
  | nil => exact h'
  | cons h1 _ ih => exact .cons h1 ih
theorem paired_get (h : Paired F l m) {i : Nat} {a : α} (e : l[i]? = some a) : ∃ b, m[i]? = some b ∧ F a b := by
  induction h generalizing i with
  | nil => simp at e
  | cons h1 _ ih =>
    cases i with
    | zero => simp at e; subst e; exact ⟨_, rfl, h1⟩
    | succ i => exact ih (i := i) (by simpa using e)
end

theorem leafOf_inj {a b : Dv} {k : Leaf} (h : leafOf a = some k) (h' : leafOf b = some k) : a = b := by
  cases a <;> cases b <;> simp_all [leafOf] <;> (subst h; simp_all)
theorem leaf_is {B : Bs} {H : Hp} {d : Dv} {v : V} {u : Value} {k : Leaf} (hd : leafOf d = some k) (h : RepV B H d v) (r : RelV v u) : (leafKind B.P B.w).is k u = true := by
  cases d with
  | non => obtain rfl := rNon h; cases r; cases hd; rfl
  | int i => obtain rfl := rInt h; obtain ⟨t, rfl⟩ := r; cases hd; exact decide_eq_true rfl
  | str i => obtain rfl := rStr h; obtain ⟨t, rfl⟩ := r; cases hd; show Value.isStrOf i (.str i t) = true; simp [Value.isStrOf]
  | _ => cases hd
section
variable {B : Bs} {H : Hp} {r : Raw} {kvs : List (Dv × Dv)}
abbrev PL (B : Bs) (H : Hp) : Dv × Dv → Leaf × Value → Prop := fun p q => leafOf p.1 = some q.1 ∧ RepU B H p.2 q.2
abbrev PT' (B : Bs) (H : Hp) : Dv × Dv → NestedKey × Addr × Value → Prop := fun p q => (∃ l, p.1 = .tup l) ∧ p.1.pure = true ∧ p.1.dep ≤ 8 ∧ p.1.key = q.1 ∧ RepV B H p.1 (.ref q.2.1) ∧ RepU B H p.2 q.2.2
theorem toDL (h : RepDL B H r kvs ∨ RepDT B H r kvs) (ha : (kvs.all fun p => isLeaf p.1) = true) : RepDL B H r kvs := by
  rcases h with h | ⟨xs, h1, h2, h3⟩
  · exact h
  · cases h3 with
    | nil =>
      have e : r.1 = #[] := by rw [← Array.toList_eq_nil_iff, h1]; rfl
      refine ⟨[], ?_, ?_, List.nodup_nil, .nil⟩
      · rw [e]; intro x hx; simp at hx
      · rw [e]; exact .nil
    | @cons p q t u z w =>
      rw [List.all_cons, Bool.and_eq_true] at ha
      obtain ⟨⟨l, e⟩, _⟩ := z
      rw [e] at ha
      exact absurd ha.1 (by simp [isLeaf, leafOf])
theorem toDT (h : RepDL B H r kvs ∨ RepDT B H r kvs) (ha : (kvs.all fun p => isTupK p.1) = true) : RepDT B H r kvs := by
  rcases h with ⟨lvs, h1, h2, h3, h4⟩ | h
  · cases h4 with
    | nil =>
      have e : r.1 = #[] := by
        rw [← Array.toList_eq_nil_iff]
        have := h2.length
        exact List.length_eq_zero_iff.mp (by simpa using this)
      exact ⟨[], by rw [e]; rfl, List.nodup_nil, .nil⟩
    | @cons p q t u z w =>
      rw [List.all_cons, Bool.and_eq_true] at ha
      obtain ⟨z1, _⟩ := z
      cases e : p.1 <;> rw [e] at ha z1 <;> simp_all [isTupK, leafOf]
  · exact h
/-- the two lookups go the same way -/
theorem leaf_test {k : Dv} {lk : Leaf} (hk : leafOf k = some lk) (p : Dv × Dv) (q : Leaf × Value) (h : PL B H p q) : decide (p.1 = k) = decide (q.1 = lk) := by
  by_cases e : p.1 = k
  · have : q.1 = lk := by have := h.1; rw [e, hk] at this; exact (Option.some.inj this).symm
    simp [e, this]
  · have : ¬ q.1 = lk := fun z => e (leafOf_inj (h.1.trans (congrArg some z)) hk)
    simp [e, this]
theorem tup_test {k : Dv} (hk : k.pure = true) (p : Dv × Dv) (q : NestedKey × Addr × Value) (h : PT' B H p q) : decide (p.1 = k) = decide (q.1 = k.key) := by
  by_cases e : p.1 = k
  · have : q.1 = k.key := by rw [← e]; exact h.2.2.2.1.symm
    simp [e, this]
  · have : ¬ q.1 = k.key := fun z => e (Dv.key_inj _ _ h.2.1 hk (h.2.2.2.1.trans z))
    simp [e, this]
theorem leaf_look {k : Dv} {lk : Leaf} {lvs : List (Leaf × Value)} (hk : leafOf k = some lk) (h : Paired (PL B H) kvs lvs) : (∃ d u, getK kvs k = some d ∧ valueAt lvs lk = some u ∧ RepU B H d u) ∨ (getK kvs k = none ∧ valueAt lvs lk = none) := by
  rcases paired_find h (f := fun p => decide (p.1 = k)) (g := fun q => decide (q.1 = lk)) (leaf_test hk) with ⟨a, b, h1, h2, h3⟩ | ⟨h1, h2⟩
  · exact .inl ⟨a.2, b.2, by unfold getK; rw [h1]; rfl, by unfold valueAt; rw [h2]; rfl, h3.2⟩
  · exact .inr ⟨by unfold getK; rw [h1]; rfl, by unfold valueAt; rw [h2]; rfl⟩
theorem tup_look {k : Dv} {xs : List (NestedKey × Addr × Value)} (hk : k.pure = true) (h : Paired (PT' B H) kvs xs) : (∃ d p, getK kvs k = some d ∧ atKey xs k.key = some p ∧ RepU B H d p.2) ∨ (getK kvs k = none ∧ atKey xs k.key = none) := by
  rcases paired_find h (f := fun p => decide (p.1 = k)) (g := fun q => decide (q.1 = k.key)) (tup_test hk) with ⟨a, b, h1, h2, h3⟩ | ⟨h1, h2⟩
  · exact .inl ⟨a.2, b.2, by unfold getK; rw [h1]; rfl, by unfold atKey; rw [h2]; rfl, h3.2.2.2.2.2⟩
  · exact .inr ⟨by unfold getK; rw [h1]; rfl, by unfold atKey; rw [h2]; rfl⟩
theorem flat1_eq (k : Dv) : ∀ kvs : List (Dv × Dv), flat1 kvs k = (getK kvs k).isSome := fun kvs => by
  unfold flat1 getK
  rw [Option.isSome_map]
  induction kvs with
  | nil => rfl
  | cons p r ih =>
    rw [List.any_cons, List.find?_cons]
    cases decide (p.1 = k) with
    | true => rfl
    | false => simpa using ih
theorem putK_length (kvs : List (Dv × Dv)) (k v : Dv) : (putK kvs k v).length ≤ kvs.length + 1 := by
  unfold putK; split <;> simp
theorem leaf_put {k v : Dv} {lk : Leaf} {u : Value} {lvs : List (Leaf × Value)} (hk : leafOf k = some lk) (h : Paired (PL B H) kvs lvs) (rv : RepU B H v u) : Paired (PL B H) (putK kvs k v) (stored lvs lk u) := by
  have ha : flat1 kvs k = lvs.any fun kv => decide (kv.1 = lk) := paired_any h (leaf_test hk)
  unfold putK stored
  rw [ha]
  split
  · refine paired_map h fun p q z => ?_
    have t := leaf_test hk p q z
    by_cases e : p.1 = k
    · have e' : q.1 = lk := by simpa [e] using t
      rw [if_pos e, if_pos e']; exact ⟨z.1, rv⟩
    · have e' : ¬ q.1 = lk := by simpa [e] using t
      rw [if_neg e, if_neg e']; exact z
  · exact paired_append h (.cons ⟨hk, rv⟩ .nil)
theorem tup_put {k v : Dv} {a : Addr} {u : Value} {xs : List (NestedKey × Addr × Value)} (ht : ∃ l, k = .tup l) (hk : k.pure = true) (hd : k.dep ≤ 8) (ra : RepV B H k (.ref a)) (h : Paired (PT' B H) kvs xs) (rv : RepU B H v u) :
    Paired (PT' B H) (putK kvs k v) (storedH xs k.key a u) := by
  have ha : flat1 kvs k = (atKey xs k.key).isSome := by
    rw [flat1_eq]
    rcases tup_look hk h with ⟨d, p, e1, e2, _⟩ | ⟨e1, e2⟩ <;> rw [e1, e2] <;> rfl
  unfold putK storedH
  rw [ha]
  split
  · refine paired_map h fun p q z => ?_
    have t := tup_test hk p q z
    unfold putAt
    by_cases e : p.1 = k
    · have e' : q.1 = k.key := by simpa [e] using t
      rw [if_pos e, if_pos e']; exact ⟨z.1, z.2.1, z.2.2.1, z.2.2.2.1, z.2.2.2.2.1, rv⟩
    · have e' : ¬ q.1 = k.key := by simpa [e] using t
      rw [if_neg e, if_neg e']; exact z
  · exact paired_append h (.cons ⟨ht, hk, hd, rfl, ra, rv⟩ .nil)
theorem leaf_del {k : Dv} {lk : Leaf} {lvs : List (Leaf × Value)} (hk : leafOf k = some lk) (h : Paired (PL B H) kvs lvs) : Paired (PL B H) (delK kvs k) (without lvs lk) :=
  paired_filter h fun p q z => by
    have t := leaf_test hk p q z
    by_cases e : p.1 = k
    · have e' : q.1 = lk := by simpa [e] using t
      simp [e, e']
    · have e' : ¬ q.1 = lk := by simpa [e] using t
      simp [e, e']
theorem tup_del {k : Dv} {xs : List (NestedKey × Addr × Value)} (hk : k.pure = true) (h : Paired (PT' B H) kvs xs) : Paired (PT' B H) (delK kvs k) (withoutH xs k.key) :=
  paired_filter h fun p q z => by
    have t := tup_test hk p q z
    by_cases e : p.1 = k
    · have e' : q.1 = k.key := by simpa [e] using t
      simp [e, e']
    · have e' : ¬ q.1 = k.key := by simpa [e] using t
      simp [e, e']
end

section
variable {X : Cx} {pins : List (Addr × Obj)} {σ : L2.St} {H : Hp} {s : Shared} {a : Addr} {r : Raw} {kvs : List (Dv × Dv)} {G : Dh} {k : Dv} {y : V} {u : Value} {E : Value → Shared → Prop}
theorem exD_raw (I : Inv X pins σ H s) (e : H a = some (exD a r)) : s.heap.DictRaw a r.1 r.2 := by
  have := I.hok a _ e
  exact this.1
theorem dic_leaf (I : Inv X pins σ H s) (e : H a = some (exD a r)) (L : RepDL (bs X) H r kvs) : ∃ lvs, s.heap.DictOf (leafKind X.prog X.w) a lvs ∧ Paired (PL (bs X) H) kvs lvs := by
  obtain ⟨lvs, h1, h2, h3, h4⟩ := L
  obtain ⟨o, ho, hx, hd⟩ := exD_raw I e
  exact ⟨lvs, ⟨o, r.1, r.2, ho, hx, hd, h1, h2, h3⟩, h4⟩
theorem nested_is (I : Inv X pins σ H s) {b : Addr} (ht : k.pure = true) (hd : k.dep ≤ 8) (h : RepV (bs X) H k (.ref b)) : (nestedKind X.prog X.w).is s.heap k.key b := ⟨RepV.nested I h (Dv.pure_tree _ ht) rfl, hd⟩
theorem dic_tup (I : Inv X pins σ H s) (e : H a = some (exD a r)) (L : RepDT (bs X) H r kvs) : ∃ xs, s.heap.DictOfH (nestedKind X.prog X.w) a xs ∧ Paired (PT' (bs X) H) kvs xs := by
  obtain ⟨xs, h1, h2, h3⟩ := L
  obtain ⟨o, ho, hx, hd⟩ := exD_raw I e
  refine ⟨xs, ⟨o, r.1, r.2, ho, hx, hd, h1, fun x hxs => ?_, h2⟩, h3⟩
  obtain ⟨i, hi⟩ := List.mem_iff_getElem?.mp hxs
  have hi2 : i < kvs.length := by rw [Paired.length h3]; exact (List.getElem?_eq_some_iff.mp hi).1
  obtain ⟨q, hq, z⟩ := paired_get h3 (List.getElem?_eq_getElem hi2)
  rw [hi] at hq; cases hq
  rw [← z.2.2.2.1]
  exact nested_is I z.2.1 z.2.2.1 z.2.2.2.2.1
theorem dic_obj {P : Program} {w : World} {H : Hp} {h : Heap} (d : h.DictRaw a r.1 r.2) : ObjOk P w H h a (exD a r) :=
  ⟨d, let ⟨o, ho, _⟩ := d; ⟨o, ho⟩, fun h1 h2 z st => z.at st⟩
theorem wrote_leaf {h' : Heap} {t' : Nat} {lvs : List (Leaf × Value)} {kvs' : List (Dv × Dv)} (I : Inv X pins σ H s) (hG : RepG (bs X) H G) (e : G a = some (.dic r kvs)) (dd : h'.DictOf (leafKind X.prog X.w) a lvs) (hs : Heap.SameBut a s.heap h')
    (hp : Paired (PL (bs X) H) kvs' lvs) (hl : kvs'.length ≤ sizeLine) : ∃ r', Inv X pins σ (upd H a (exD a r')) { s with heap := h', toks := t' } ∧ RepG (bs X) (upd H a (exD a r')) (updG G a (.dic r' kvs')) ∧ Mut (H a) := by
  obtain ⟨e1, e2, e3, e4⟩ := hG a _ e
  have m : Mut (H a) := by rw [e1]; trivial
  obtain ⟨o, es, ep, ho, hx, hd, hk, hpr, hn⟩ := dd
  refine ⟨(es, ep), d_write I m hs ⟨o, ho⟩ (dic_obj ⟨o, ho, hx, hd⟩), hG.write (d := .dic (es, ep) kvs') m ⟨upd_same, e2, hl, .inl ⟨lvs, hk, hpr, hn, Paired.mapP hp fun p q z => ⟨z.1, z.2.keep (.mut m)⟩⟩⟩, m⟩
theorem wrote_tup {h' : Heap} {t' : Nat} {xs : List (NestedKey × Addr × Value)} {kvs' : List (Dv × Dv)} (I : Inv X pins σ H s) (hG : RepG (bs X) H G) (e : G a = some (.dic r kvs)) (dd : h'.DictOfH (nestedKind X.prog X.w) a xs) (hs : Heap.SameBut a s.heap h')
    (hp : Paired (PT' (bs X) H) kvs' xs) (hl : kvs'.length ≤ sizeLine) : ∃ r', Inv X pins σ (upd H a (exD a r')) { s with heap := h', toks := t' } ∧ RepG (bs X) (upd H a (exD a r')) (updG G a (.dic r' kvs')) ∧ Mut (H a) := by
  obtain ⟨e1, e2, e3, e4⟩ := hG a _ e
  have m : Mut (H a) := by rw [e1]; trivial
  obtain ⟨o, es, ep, ho, hx, hd, hk, _, hn⟩ := dd
  refine ⟨(es, ep), d_write I m hs ⟨o, ho⟩ (dic_obj ⟨o, ho, hx, hd⟩), hG.write (d := .dic (es, ep) kvs') m ⟨upd_same, e2, hl, .inr ⟨xs, hk, hn, Paired.mapP hp fun p q z => ⟨z.1, z.2.1, z.2.2.1, z.2.2.2.1, z.2.2.2.2.1.keep (.mut m), z.2.2.2.2.2.keep (.mut m)⟩⟩⟩, m⟩

/-- what a key that fits to the dict is -/
theorem fit_cases (hG : RepG (bs X) H G) (e : G a = some (.dic r kvs)) (f : fitK kvs k = true) (I : Inv X pins σ H s) (rk : RepV (bs X) H k y) (ru : RelV y u) :
    (∃ lk lvs, leafOf k = some lk ∧ (leafKind X.prog X.w).is lk u = true ∧ s.heap.DictOf (leafKind X.prog X.w) a lvs ∧ Paired (PL (bs X) H) kvs lvs) ∨
    (∃ b xs, u = .ref b ∧ y = .ref b ∧ (∃ l, k = .tup l) ∧ k.pure = true ∧ k.dep ≤ 8 ∧ (nestedKind X.prog X.w).is s.heap k.key b ∧ s.heap.DictOfH (nestedKind X.prog X.w) a xs ∧ Paired (PT' (bs X) H) kvs xs) := by
  obtain ⟨e1, e2, e3, e4⟩ := hG a _ e
  unfold fitK at f
  rw [Bool.or_eq_true, Bool.and_eq_true, Bool.and_eq_true] at f
  rcases f with ⟨f1, f2⟩ | ⟨f1, f2⟩
  · obtain ⟨lk, hk⟩ := Option.isSome_iff_exists.mp f1
    obtain ⟨lvs, h1, h2⟩ := dic_leaf I e1 (toDL e4 f2)
    exact .inl ⟨lk, lvs, hk, leaf_is (B := bs X) hk rk ru, h1, h2⟩
  · obtain ⟨xs, h1, h2⟩ := dic_tup I e1 (toDT e4 f2)
    cases k with
    | tup l =>
      obtain ⟨b, vs, rfl, hs, hl⟩ := rTup rk
      cases ru
      have f1 : (Dv.pures l && decide ((Dv.tup l).dep ≤ 8)) = true := f1
      rw [Bool.and_eq_true, decide_eq_true_eq] at f1
      have hp : (Dv.tup l).pure = true := by rw [Dv.pure]; exact f1.1
      exact .inr ⟨b, xs, rfl, rfl, ⟨l, rfl⟩, hp, f1.2, nested_is I hp f1.2 rk, h1, h2⟩
    | _ => cases f1
theorem nroom (hr : CRoom X) : (nestedKind X.prog X.w).room X.A.in1 := by
  have : X.A.units + 64 < cLine := hr
  show X.A.in1.units + 8 < cLine
  rw [Around.in1_units]
  omega
/-- d[k] -/
theorem dd_get {Q : Value → Shared → Prop} {d : Dv} (hr : CRoom X) (I : Inv X pins σ H s) (hG : RepG (bs X) H G) (e : G a = some (.dic r kvs)) (f : fitK kvs k = true) (rk : RepV (bs X) H k y) (ru : RelV y u) (hd : getK kvs k = some d)
    (h : ∀ w s', Inv X pins σ H s' → RepU (bs X) H d w → Q w s') : wpAny (model X.prog X.w) X.A (getItem (.ref a) u) Q E s := by
  rcases fit_cases hG e f I rk ru with ⟨lk, lvs, hk, hi, dd, hp⟩ | ⟨b, xs, rfl, rfl, ht, hp1, hd8, hi, dd, hp⟩
  · rcases leaf_look hk hp with ⟨d', w, e1, e2, e3⟩ | ⟨e1, e2⟩
    · rw [hd] at e1; cases e1
      exact wpAny_getItem_of hi dd.mapOf e2 (h w _ (I.tok _) e3)
    · rw [hd] at e1; cases e1
  · rcases tup_look hp1 hp with ⟨d', p, e1, e2, e3⟩ | ⟨e1, e2⟩
    · rw [hd] at e1; cases e1
      exact wpAny_getItem_heap (nroom hr) hi dd e2 (h p.2 _ (I.tok _) e3)
    · rw [hd] at e1; cases e1
/-- k in d, k not in d -/
theorem dd_in {Q : Value → Shared → Prop} (hr : CRoom X) (I : Inv X pins σ H s) (hG : RepG (bs X) H G) (e : G a = some (.dic r kvs)) (f : fitK kvs k = true) (rk : RepV (bs X) H k y) (ru : RelV y u)
    (h : ∀ s', Inv X pins σ H s' → Q (.bool (flat1 kvs k)) s') : wpAny (model X.prog X.w) X.A (compareOp .In u (.ref a)) Q E s := by
  obtain ⟨e1, e2, e3, e4⟩ := hG a _ e
  rw [flat1_eq] at h
  rcases fit_cases hG e f I rk ru with ⟨lk, lvs, hk, hi, dd, hp⟩ | ⟨b, xs, rfl, rfl, ht, hp1, hd8, hi, dd, hp⟩
  · refine wpAny_in_of hi e2 dd.mapOf ?_
    rcases leaf_look hk hp with ⟨d', w, e1, e2, e3⟩ | ⟨e1, e2⟩ <;> rw [e1] at h <;> rw [e2] <;> exact h _ (I.tok _)
  · refine wpAny_in_heap (nroom hr) hi e2 dd ?_
    rcases tup_look hp1 hp with ⟨d', p, e1, e2, e3⟩ | ⟨e1, e2⟩ <;> rw [e1] at h <;> rw [e2] <;> exact h _ (I.tok _)
theorem dd_notIn {Q : Value → Shared → Prop} (hr : CRoom X) (I : Inv X pins σ H s) (hG : RepG (bs X) H G) (e : G a = some (.dic r kvs)) (f : fitK kvs k = true) (rk : RepV (bs X) H k y) (ru : RelV y u)
    (h : ∀ s', Inv X pins σ H s' → Q (.bool (!flat1 kvs k)) s') : wpAny (model X.prog X.w) X.A (compareOp .NotIn u (.ref a)) Q E s := by
  obtain ⟨e1, e2, e3, e4⟩ := hG a _ e
  rw [flat1_eq] at h
  rcases fit_cases hG e f I rk ru with ⟨lk, lvs, hk, hi, dd, hp⟩ | ⟨b, xs, rfl, rfl, ht, hp1, hd8, hi, dd, hp⟩
  · refine wpAny_notIn_of hi e2 dd.mapOf ?_
    rcases leaf_look hk hp with ⟨d', w, e1, e2, e3⟩ | ⟨e1, e2⟩ <;> rw [e1] at h <;> rw [e2] <;> exact h _ (I.tok _)
  · refine wpAny_notIn_heap (nroom hr) hi e2 dd ?_
    rcases tup_look hp1 hp with ⟨d', p, e1, e2, e3⟩ | ⟨e1, e2⟩ <;> rw [e1] at h <;> rw [e2] <;> exact h _ (I.tok _)
/-- d[k] = v -/
theorem dd_set {Q : Unit → Shared → Prop} {v : Dv} {wv : Value} (hr : CRoom X) (I : Inv X pins σ H s) (hG : RepG (bs X) H G) (e : G a = some (.dic r kvs)) (f : fitK kvs k = true) (rk : RepV (bs X) H k y) (ru : RelV y u) (rv : RepU (bs X) H v wv)
    (hl : kvs.length < sizeLine) (h : ∀ r' s', Inv X pins σ (upd H a (exD a r')) s' → RepG (bs X) (upd H a (exD a r')) (updG G a (.dic r' (putK kvs k v))) → Mut (H a) → Q () s') : wpAny (model X.prog X.w) X.A (setItem (.ref a) u wv) Q E s := by
  have hl' : (putK kvs k v).length ≤ sizeLine := by have := putK_length kvs k v; omega
  rcases fit_cases hG e f I rk ru with ⟨lk, lvs, hk, hi, dd, hp⟩ | ⟨b, xs, rfl, rfl, ht, hp1, hd8, hi, dd, hp⟩
  · refine wpAny_setItem_pairs (hsz := by rw [← Paired.length hp]; omega) hi dd fun h' dd' hs => ?_
    obtain ⟨r', I', hG', m⟩ := wrote_leaf (t' := s.toks + 1) I hG e dd' hs (leaf_put hk hp rv) hl'
    exact h r' _ I' hG' m
  · refine wpAny_setItem_heap (hsz := by rw [← Paired.length hp]; omega) (nroom hr) hi dd fun h' dd' hs => ?_
    obtain ⟨r', I', hG', m⟩ := wrote_tup (t' := s.toks + (nestedKind X.prog X.w).draws k.key) I hG e dd' hs (tup_put ht hp1 hd8 rk hp rv) hl'
    exact h r' _ I' hG' m
/-- len(d), if d -/
theorem dd_size (I : Inv X pins σ H s) (hG : RepG (bs X) H G) (e : G a = some (.dic r kvs)) : (a == sysModules) = false ∧ kvs.length ≤ sizeLine ∧
    ((∃ lvs, s.heap.DictOf (leafKind X.prog X.w) a lvs ∧ lvs.length = kvs.length) ∨ (∃ xs, s.heap.DictOfH (nestedKind X.prog X.w) a xs ∧ xs.length = kvs.length)) := by
  obtain ⟨e1, e2, e3, e4⟩ := hG a _ e
  refine ⟨e2, e3, ?_⟩
  rcases e4 with e4 | e4
  · obtain ⟨lvs, h1, h2⟩ := dic_leaf I e1 e4
    exact .inl ⟨lvs, h1, (Paired.length h2).symm⟩
  · obtain ⟨lvs, h1, h2⟩ := dic_tup I e1 e4
    exact .inr ⟨lvs, h1, (Paired.length h2).symm⟩
theorem dd_len {Q : Value → Shared → Prop} (I : Inv X pins σ H s) (hG : RepG (bs X) H G) (e : G a = some (.dic r kvs)) (h : ∀ t s', Inv X pins σ H s' → Q (.int kvs.length t) s') : wpAny (model X.prog X.w) X.A (call (.builtin "len") [.ref a]) Q E s := by
  obtain ⟨e2, e3, e4⟩ := dd_size I hG e
  have hl : sizeLine = 16777216 := sizeLine_eq
  rcases e4 with ⟨lvs, dd, e⟩ | ⟨xs, dd, e⟩
  · refine call_len_dict e2 dd (by omega) ?_
    rw [e]; exact h _ _ (I.tok _)
  · refine call_len_dictH e2 dd (by omega) ?_
    rw [e]; exact h _ _ (I.tok _)
/-- {} -/
theorem pe_emp {pos : Pos} : PE X (.Dict [] [] pos) (liftE (bs X) (wpE .emp)) := by
  refine ⟨fun pins s σ H Q I ⟨ds, G, Qd, hS, hG, h, w⟩ => ?_⟩
  refine wpAny_Dict_empty ?_
  have hn : H s.heap.objs.size = none := I.hok.fresh (Nat.le_refl _)
  have raw : (s.heap.push { cls := .type "dict", data := .dict #[] }).DictRaw s.heap.objs.size #[] 0 := ⟨_, Heap.get?_push_size _ rfl, ⟨rfl, rfl, rfl⟩, rfl⟩
  refine ⟨.ref s.heap.objs.size, upd H s.heap.objs.size (exD s.heap.objs.size (#[], 0)), I.laid (t' := s.toks) (fun _ _ q => Heap.get?_push_of_some _ q) (Nat.le_refl _) (dic_obj (r := (#[], 0)) raw), rfl, ?_⟩
  refine w (.ref s.heap.objs.size) _ (updG G s.heap.objs.size (.dic (#[], 0) [])) _ (.newD hn) (hG.newD (d := .dic (#[], 0) []) hn ⟨upd_same, beq_eq_false_iff_ne.mpr (Ne.symm (Nat.ne_of_lt I.big)), Nat.zero_le _, .inl ⟨[], fun x hx => by simp at hx, .nil, List.nodup_nil, .nil⟩⟩) (by rw [RepV]) ?_
  exact h _ _ (hG.fresh hn)
end
end BD

/-! BD5: membership, items, slices, stores, truth. -/
namespace BD
open PySem PySem.Spec PyProof.Rows L2
section
variable {X : Cx}
/-! ### in -/
theorem in_items {pins : List (Addr × Obj)} {s : Shared} {σ : L2.St} {H : Hp} {x : V} {v : Value} {dx : Dv} {l : List Dv} {vs : List V} {its : List Value} (hr : CRoom X) (I : Inv X pins σ H s) (rx : RelV x v) (hx : RepV (bs X) H dx x) (hl : RepL (bs X) H l vs) (hv : Vals vs its)
    (p1 : dx.pure = true) (p2 : Dv.pures l = true) (d1 : dx.dep ≤ 8) : ∃ e : Value → Bool, (∀ y, y ∈ its.toArray → SeqAt.EqAt X.A.in1 s y v (e y)) ∧ its.toArray.any e = decide (dx ∈ l) := by
  have n1 := RepV.nested I hx (Dv.pure_tree _ p1) rx
  have n2 := RepL.nested I hl (Dv.pures_trees _ p2) hv
  have hu : X.A.in1.units + 16 < cLine := by
    have : X.A.units + 64 < cLine := hr
    rw [Around.in1_units]; omega
  have d1' : dx.key.depth ≤ 8 := d1
  have hq : ∀ (ks : List NestedKey) (us : List Value), NestedAll s.heap ks us → ∀ y, y ∈ us → ∃ k, NestedIs s.heap k y := by
    intro ks us h
    induction us generalizing ks with
    | nil => intro y hy; cases hy
    | cons u r ih =>
      intro y hy
      cases h with
      | cons h1 h2 =>
        rcases List.mem_cons.mp hy with e | hy
        · subst e; exact ⟨_, h1⟩
        · exact ih _ h2 y hy
  classical
  refine ⟨fun y => if h : ∃ k, NestedIs s.heap k y then NestedKey.beq (Classical.choose h) dx.key else false, fun y hy => ?_, ?_⟩
  · have h := hq _ _ n2 y (by simpa using hy)
    simp only [dif_pos h]
    exact eqAt_key _ _ _ _ _ _ (Classical.choose_spec h) n1 (by omega)
  · rw [List.any_toArray]
    clear hq hv hl
    induction l generalizing its with
    | nil => rw [Dv.keys] at n2; cases n2; simp
    | cons d r ih =>
      rw [Dv.keys] at n2
      rw [Dv.pures, Bool.and_eq_true] at p2
      cases n2 with
      | @cons _ u _ us h1 h2 =>
        rw [List.any_cons, ih p2.2 h2]
        have h : ∃ k, NestedIs s.heap k u := ⟨_, h1⟩
        simp only [dif_pos h]
        rw [NestedIs.inj _ _ _ (Classical.choose_spec h) h1, Dv.key_beq p2.1 p1]
        by_cases e : d = dx
        · subst e; simp
        · have : ¬ dx = d := fun z => e z.symm
          simp [e, this]
theorem do_in (hr : CRoom X) : OpR X (compareOp .In) (lift2 (bs X) dIn) := by
  intro pins s σ H x y v u Q I rx ry ⟨dx, dy, G, Qd, hx, hy, hG, h, w⟩
  unfold dIn at h
  split at h
  · rename_i b e
    cases dy with
    | tup l =>
      obtain ⟨a, vs, rfl, hs, hl⟩ := rTup hy
      cases ry
      have e : (if dx.pure = true ∧ Dv.pures l = true ∧ dx.dep ≤ 8 ∧ (Dv.tup l).dep ≤ 8 then some (decide (dx ∈ l)) else none) = some b := e
      split at e
      · rename_i z
        cases e
        obtain ⟨its, rv, p, _⟩ := I.tuple hs
        obtain ⟨f, hf, e⟩ := in_items hr I rx hx hl rv z.1 z.2.1 z.2.2.1
        refine SeqAt.in_tupleAt f p hf ⟨.bl _, H, I, rfl, ?_⟩
        rw [e]
        exact w.bl hG h
      · cases e
    | ref a =>
      obtain rfl := rRef hy
      cases ry
      have e : (match G a with
        | some (.lst l) => if dx.pure = true ∧ Dv.pures l = true ∧ dx.dep ≤ 8 ∧ (Dv.tup l).dep ≤ 8 then some (decide (dx ∈ l)) else none
        | some (.dic _ l) => if fitK l dx = true then some (flat1 l dx) else none
        | _ => none) = some b := e
      split at e
      · rename_i l e1
        split at e
        · rename_i z
          cases e
          obtain ⟨vs, h1, r1⟩ := hG.lst e1
          obtain ⟨its, rv, p, _⟩ := I.list (SqL.of h1)
          obtain ⟨f, hf, e⟩ := in_items hr I rx hx r1 rv z.1 z.2.1 z.2.2.1
          refine SeqAt.in_listAt f p.isList hf ⟨.bl _, H, I, rfl, ?_⟩
          rw [e]
          exact w.bl hG h
        · cases e
      · rename_i r l e1
        split at e
        · rename_i z
          cases e
          exact dd_in hr I hG e1 z hx rx fun s' I' => ⟨.bl _, H, I', rfl, w.bl hG h⟩
        · cases e
      · cases e
    | _ => cases e
  · exact h.elim
theorem do_notIn (hr : CRoom X) : OpR X (compareOp .NotIn) (lift2 (bs X) dNotIn) := by
  intro pins s σ H x y v u Q I rx ry ⟨dx, dy, G, Qd, hx, hy, hG, h, w⟩
  unfold dNotIn at h
  split at h
  · rename_i b e
    cases dy with
    | tup l =>
      obtain ⟨a, vs, rfl, hs, hl⟩ := rTup hy
      cases ry
      have e : (if dx.pure = true ∧ Dv.pures l = true ∧ dx.dep ≤ 8 ∧ (Dv.tup l).dep ≤ 8 then some (decide (dx ∈ l)) else none) = some b := e
      split at e
      · rename_i z
        cases e
        obtain ⟨its, rv, p, _⟩ := I.tuple hs
        obtain ⟨f, hf, e⟩ := in_items hr I rx hx hl rv z.1 z.2.1 z.2.2.1
        refine SeqAt.notIn_tupleAt f p hf ⟨.bl _, H, I, rfl, ?_⟩
        rw [e]
        exact w.bl hG h
      · cases e
    | ref a =>
      obtain rfl := rRef hy
      cases ry
      have e : (match G a with
        | some (.lst l) => if dx.pure = true ∧ Dv.pures l = true ∧ dx.dep ≤ 8 ∧ (Dv.tup l).dep ≤ 8 then some (decide (dx ∈ l)) else none
        | some (.dic _ l) => if fitK l dx = true then some (flat1 l dx) else none
        | _ => none) = some b := e
      split at e
      · rename_i l e1
        split at e
        · rename_i z
          cases e
          obtain ⟨vs, h1, r1⟩ := hG.lst e1
          obtain ⟨its, rv, p, _⟩ := I.list (SqL.of h1)
          obtain ⟨f, hf, e⟩ := in_items hr I rx hx r1 rv z.1 z.2.1 z.2.2.1
          refine SeqAt.notIn_listAt f p.isList hf ⟨.bl _, H, I, rfl, ?_⟩
          rw [e]
          exact w.bl hG h
        · cases e
      · rename_i r l e1
        split at e
        · rename_i z
          cases e
          exact dd_notIn hr I hG e1 z hx rx fun s' I' => ⟨.bl _, H, I', rfl, w.bl hG h⟩
        · cases e
      · cases e
    | _ => cases e
  · exact h.elim
theorem do_cmp (hr : CRoom X) (op : CmpOp) : OpR X (compareOp op) (lift2 (bs X) (dCmp op)) := by
  cases op with
  | Eq => exact do_eq hr
  | NotEq => exact do_ne hr
  | Lt => exact do_lt
  | LtE => exact do_le
  | Gt => exact do_gt
  | GtE => exact do_ge
  | Is => exact do_is
  | IsNot => exact do_isNot
  | In => exact do_in hr
  | NotIn => exact do_notIn hr

/-! ### items -/
theorem atI_rep {B : Bs} {H : Hp} {l : List Dv} {vs : List V} {i : Int} {d : Dv} (h : RepL B H l vs) (e : atI l i = some d) : ∃ v, atI vs i = some v ∧ RepV B H d v := by
  unfold atI at e ⊢
  rw [h.length]
  obtain ⟨j, h1, h2⟩ := Option.bind_eq_some_iff.mp e
  obtain ⟨v, h3, h4⟩ := h.get h2
  exact ⟨v, by rw [h1]; exact h3, h4⟩
theorem do_ix (hr : CRoom X) : IxR X (lift2 (bs X) dIx) := by
  intro value slice pins s σ H x y v u Q I rx ry ⟨dx, dy, G, Qd, hx, hy, hG, h, w⟩ hs
  cases dx with
  | tup l =>
    cases dy with
    | int i =>
      obtain rfl := rInt hy
      obtain ⟨a, vs, rfl, h1, r1⟩ := rTup hx
      have h : (match atI l i with | some d => Qd d G | none => False) := h
      split at h
      · rename_i d e
        obtain ⟨z, e2, rz⟩ := atI_rep r1 e
        exact ix_tup value slice pins s σ H _ _ v u Q I rx ry ⟨a, vs, i, z, rfl, rfl, h1, e2, w.here hG rz h⟩ hs
      · exact h.elim
    | _ => exact h.elim
  | ref a =>
    obtain rfl := rRef hx
    simp only [dIx] at h
    split at h
    · rename_i l e1
      split at h
      · rename_i _ i
        split at h
        · rename_i d e
          obtain rfl := rInt hy
          obtain ⟨vs, h1, r1⟩ := hG.lst e1
          obtain ⟨z, e2, rz⟩ := atI_rep r1 e
          exact ix_list value slice pins s σ H _ _ v u Q I rx ry ⟨a, vs, i, z, rfl, rfl, SqL.of h1, e2, w.here hG rz h⟩ hs
        · exact h.elim
      · exact h.elim
    · rename_i l e1
      split at h
      · rename_i _ i
        split at h
        · rename_i d e
          obtain rfl := rInt hy
          obtain ⟨vs, h1, r1⟩ := hG.fls e1
          obtain ⟨z, e2, rz⟩ := atI_rep r1 e
          exact ix_list value slice pins s σ H _ _ v u Q I rx ry ⟨a, vs, i, z, rfl, rfl, .inl h1, e2, w.here hG rz h⟩ hs
        · exact h.elim
      · exact h.elim
    · rename_i r l e1
      obtain ⟨f, h⟩ := h
      split at h
      · rename_i d e
        cases rx
        have ty : s.TypeIs (.ref a) "dict" := let ⟨o, ho, hx, _⟩ := exD_raw I (hG a _ e1).1; ⟨o, ho, hx.1⟩
        have key : ∃ wv, RepU (bs X) H d wv ∧ ∀ (Q' : Value → Shared → Prop), (∀ s', Inv X pins σ H s' → Q' wv s') → wpAny (model X.prog X.w) X.A (getItem (.ref a) u) Q' X.xe s := by
          rcases fit_cases hG e1 f I hy ry with ⟨lk, lvs, hk, hi, dd, hp⟩ | ⟨b, xs, rfl, rfl, ht, hp1, hd8, hi, dd, hp⟩
          · rcases leaf_look hk hp with ⟨d', w', q1, q2, q3⟩ | ⟨q1, q2⟩
            · rw [e] at q1; cases q1
              exact ⟨w', q3, fun Q' hq => wpAny_getItem_of hi dd.mapOf q2 (hq _ (I.tok _))⟩
            · rw [e] at q1; cases q1
          · rcases tup_look hp1 hp with ⟨d', p, q1, q2, q3⟩ | ⟨q1, q2⟩
            · rw [e] at q1; cases q1
              exact ⟨p.2, q3, fun Q' hq => wpAny_getItem_heap (nroom hr) hi dd q2 (hq _ (I.tok _))⟩
            · rw [e] at q1; cases q1
        obtain ⟨wv, ⟨z, rz, rw'⟩, hg⟩ := key
        exact subscriptTail_builtinR (x := wv) ty PySem.F.slot_dict_getitem.lookup (hg _ fun s' I' => ⟨rfl, z, H, I', rw', w.here hG rz h⟩) hs
      · exact h.elim
    · exact h.elim
  | _ => exact h.elim

/-! ### slices -/
def liftSl (B : Bs) (t : Dv → Option Int → Option Int → Dh → DK → Prop) : V → Option Int → Option Int → Hp → VK → Prop := fun x lo hi H Q => ∃ d G Qd, RepV B H d x ∧ RepG B H G ∧ t d lo hi G Qd ∧ Wish B G H Qd Q
theorem RepL.cut {B : Bs} {H : Hp} {l : List Dv} {vs : List V} (h : RepL B H l vs) (lo hi : Option Int) : RepL B H (cutD l lo hi) (cutV vs lo hi) := by
  unfold cutD cutV
  rw [h.length]
  exact (h.drop _).take _
theorem do_sl : SlR X (liftSl (bs X) dSl) := by
  intro pins s σ H x v vl vu lo hi sl Q I rx hs pl pu ⟨d, G, Qd, hx, hG, h, w⟩
  cases d with
  | tup l =>
    obtain ⟨a, vs, rfl, h1, r1⟩ := rTup hx
    refine sl_tupA pins s σ H _ v vl vu lo hi sl Q I rx hs pl pu ⟨a, vs, rfl, h1, fun e => ?_, fun _ p hp => w.tup hG (r1.cut lo hi) h hp⟩
    have e2 : cutD l lo hi = l := by
      unfold cutD
      rw [← r1.length, e.1, e.2, r1.length]
      simp
    have h : Qd (.tup (cutD l lo hi)) G := h
    rw [e2] at h
    exact w.here hG hx h
  | ref a =>
    obtain rfl := rRef hx
    have h : (match G a with | some (.lst l) => newL (cutD l lo hi) G Qd | _ => False) := h
    split at h
    · rename_i l e1
      obtain ⟨vs, h1, r1⟩ := hG.lst e1
      exact sl_list pins s σ H _ v vl vu lo hi sl Q I rx hs pl pu ⟨a, vs, rfl, SqL.of h1, fun p hp => w.newL hG (r1.cut lo hi) h hp⟩
    · exact h.elim
  | _ => exact h.elim

/-! ### stores -/
def liftSet (B : Bs) (t : Dv → Dv → Dv → Dh → (Dh → Prop) → Prop) : TSet := fun o i v H Q => ∃ x y z G Qd, RepV B H x o ∧ RepV B H y i ∧ RepV B H z v ∧ RepG B H G ∧ t x y z G Qd ∧ ∀ G' H', Frm G H G' H' → RepG B H' G' → Qd G' → Q H'
end
end BD

/-! BD6: stores, truth, built-in functions and methods. -/
namespace BD
open PySem PySem.Spec PyProof.Rows L2
section
variable {X : Cx}
theorem do_set (hr : CRoom X) : PSet X (liftSet (bs X) dSet) := by
  intro pins s σ H o i v ov iv u Q I ro ri rv ⟨x, y, z, G, Qd, hx, hy, hz, hG, h, w⟩
  cases x with
  | ref a =>
    obtain rfl := rRef hx
    simp only [dSet] at h
    split at h
    · rename_i l e1
      split at h
      · rename_i _ k
        split at h
        · rename_i j e2
          obtain rfl := rInt hy
          obtain ⟨vs, h1, r1⟩ := hG.lst e1
          have m : Mut (H a) := by rw [h1]; trivial
          refine set_list pins s σ H _ _ v ov iv u Q I ro ri rv ⟨a, vs, k, j, rfl, rfl, h1, by rw [r1.length]; exact e2, ?_⟩
          exact w _ _ (.write e1 m) (hG.write (d := .lst (l.set j z)) m ⟨_, upd_same, (r1.set hz).keep (.mut m)⟩) h
        · exact h.elim
      · exact h.elim
    · rename_i r l e1
      obtain ⟨f, hl, h⟩ := h
      cases ro
      refine dd_set hr I hG e1 f hy ri ⟨v, hz, rv⟩ hl fun r' s' I' hG' m => ?_
      exact ⟨_, I', w _ _ (.write e1 m) hG' (h r')⟩
    · exact h.elim
  | _ => exact h.elim
theorem do_get (hr : CRoom X) : PGet X (lift2 (bs X) dGet) := by
  intro pins s σ H x y v u Q I rx ry ⟨dx, dy, G, Qd, hx, hy, hG, h, w⟩
  cases dx with
  | ref a =>
    obtain rfl := rRef hx
    cases rx
    simp only [dGet] at h
    split at h
    · rename_i l e1
      split at h
      · rename_i _ i
        split at h
        · rename_i d e
          obtain rfl := rInt hy
          obtain ⟨t, rfl⟩ := ry
          obtain ⟨vs, h1, r1⟩ := hG.lst e1
          obtain ⟨z, e2, rz⟩ := atI_rep r1 e
          obtain ⟨its, r, pl, hz⟩ := I.list (SqL.of h1)
          obtain ⟨j, q1, q2, q3, q4, q5⟩ := atI_get e2
          obtain ⟨w', ew, rw'⟩ := r.get q2
          have hl := r.length
          have hn := line63
          have fin : EP X pins σ Q w' s := ⟨z, H, I, rw', w.here hG rz h⟩
          by_cases h0 : 0 ≤ i
          · have hj : i.toNat = j := by
              rw [seqIndex_of h0 q5] at q1
              exact Option.some.inj q1
            exact wpAny_getItem_list pl.isList h0 (by omega) (by rw [hj]; simpa using ew) fin
          · have hj : (i + (its.toArray.size : Int)).toNat = j := by
              rw [seqIndex_neg (by omega) q4] at q1
              rw [List.size_toArray, ← hl]
              exact Option.some.inj q1
            exact wpAny_getItem_list_neg pl.isList (by omega) (by rw [List.size_toArray] <;> omega) (by omega) (by rw [hj]; simpa using ew) fin
        · exact h.elim
      · exact h.elim
    · rename_i r l e1
      obtain ⟨f, h⟩ := h
      split at h
      · rename_i d e
        exact dd_get hr I hG e1 f hy ry e fun w' s' I' ⟨z, rz, rw'⟩ => ⟨z, H, I', rw', w.here hG rz h⟩
      · exact h.elim
    · exact h.elim
  | _ => exact h.elim
/-! ### truth -/
theorem do_tru {pins : List (Addr × Obj)} {s : Shared} {σ : L2.St} {H : Hp} {x : V} {v : Value} {dx : Dv} {G : Dh} {b : Bool} {Q : Bool → Hp → Prop} (I : Inv X pins σ H s) (rx : RelV x v) (hx : RepV (bs X) H dx x) (hG : RepG (bs X) H G) (e : truD G dx = some b) (q : Q b H) :
    wpAny (model X.prog X.w) X.A (truthy v) (TP X pins σ Q) X.xe s := by
  refine tru_ok pins s σ H x v Q I rx ⟨b, ?_, q⟩
  cases dx with
  | non => obtain rfl := rNon hx; cases e; rfl
  | bl _ => obtain rfl := rBl hx; cases e; rfl
  | int i =>
    obtain rfl := rInt hx; cases e
    show decide (i ≠ 0) = (i != 0)
    by_cases z : i = 0 <;> simp [z]
  | tup l =>
    obtain ⟨a, vs, rfl, h1, r1⟩ := rTup hx
    cases e
    refine .inr (.inl ⟨vs, h1, ?_⟩)
    have := r1.length
    cases l <;> cases vs <;> simp_all
  | ref a =>
    obtain rfl := rRef hx
    simp only [truD] at e
    split at e
    · rename_i l e1
      cases e
      obtain ⟨vs, h1, r1⟩ := hG.lst e1
      refine .inl ⟨vs, SqL.of h1, ?_⟩
      have := r1.length
      cases l <;> cases vs <;> simp_all
    · cases e
  | str _ => cases e

/-! ### built-in functions -/
theorem rL1 {B : Bs} {H : Hp} {x : Dv} {vs : List V} (h : RepL B H [x] vs) : ∃ v, vs = [v] ∧ RepV B H x v := by
  rw [RepL] at h
  obtain ⟨v, r, rfl, h1, h2⟩ := h
  rw [RepL] at h2
  subst h2
  exact ⟨v, rfl, h1⟩
theorem rL2 {B : Bs} {H : Hp} {x y : Dv} {vs : List V} (h : RepL B H [x, y] vs) : ∃ v u, vs = [v, u] ∧ RepV B H x v ∧ RepV B H y u := by
  rw [RepL] at h
  obtain ⟨v, r, rfl, h1, h2⟩ := h
  obtain ⟨u, rfl, h3⟩ := rL1 h2
  exact ⟨v, u, rfl, h1, h3⟩
theorem cd_len : CallR X (.builtin "len") (liftC (bs X) (dBi .len)) := by
  intro pins s σ H xs us Q I r ⟨l, G, Qd, hl, hG, h, w⟩
  match l, h with
  | [x], h =>
    obtain ⟨v, rfl, hx⟩ := rL1 hl
    have h : (match lenD G x with | some n => Qd (.int n) G | none => False) := h
    split at h
    · rename_i n e
      cases x with
      | tup l =>
        obtain ⟨a, vs, rfl, h1, r1⟩ := rTup hx
        cases e
        exact L2.call_len pins s σ H _ us Q I r ⟨_, l.length, rfl, .inr ⟨vs, h1, r1.length.symm⟩, w.int hG h⟩
      | ref a =>
        obtain rfl := rRef hx
        simp only [lenD] at e
        split at e
        · rename_i l e1
          cases e
          obtain ⟨vs, h1, r1⟩ := hG.lst e1
          exact L2.call_len pins s σ H _ us Q I r ⟨_, l.length, rfl, .inl ⟨vs, SqL.of h1, r1.length.symm⟩, w.int hG h⟩
        · rename_i l e1
          cases e
          obtain ⟨vs, h1, r1⟩ := hG.fls e1
          exact L2.call_len pins s σ H _ us Q I r ⟨_, l.length, rfl, .inl ⟨vs, .inl h1, r1.length.symm⟩, w.int hG h⟩
        · rename_i r' l e1
          cases e
          obtain ⟨u, rfl, ru⟩ := Vals.one r
          cases ru
          exact dd_len I hG e1 fun t s' I' => ⟨.int l.length, H, I', ⟨t, rfl⟩, w.int hG h⟩
        · cases e
      | _ => cases e
    · exact h.elim
theorem cd_int : CallR X (.type "int") (liftC (bs X) (dBi .int1)) := by
  intro pins s σ H xs us Q I r ⟨l, G, Qd, hl, hG, h, w⟩
  match l, h with
  | [x], h =>
    obtain ⟨v, rfl, hx⟩ := rL1 hl
    cases x with
    | int i => obtain rfl := rInt hx; exact call_int1 pins s σ H _ us Q I r (.inl ⟨i, rfl, w.int hG h⟩)
    | bl b => obtain rfl := rBl hx; exact call_int1 pins s σ H _ us Q I r (.inr ⟨b, rfl, w.int hG h⟩)
    | _ => exact h.elim
theorem cd_abs : CallR X (.builtin "abs") (liftC (bs X) (dBi .abs)) := by
  intro pins s σ H xs us Q I r ⟨l, G, Qd, hl, hG, h, w⟩
  match l, h with
  | [.int i], h =>
    obtain ⟨v, rfl, hx⟩ := rL1 hl
    obtain rfl := rInt hx
    exact call_abs pins s σ H _ us Q I r ⟨i, rfl, w.int hG h⟩
theorem cd_min2 (hc : X.calm = true) : CallR X (.builtin "min") (liftC (bs X) (dBi .min2)) := by
  intro pins s σ H xs us Q I r ⟨l, G, Qd, hl, hG, h, w⟩
  match l, h with
  | [.int i, .int j], h =>
    obtain ⟨v, u, rfl, hx, hy⟩ := rL2 hl
    obtain rfl := rInt hx; obtain rfl := rInt hy
    exact call_min2 hc pins s σ H _ us Q I r ⟨i, j, rfl, w.int hG h⟩
theorem cd_max2 (hc : X.calm = true) : CallR X (.builtin "max") (liftC (bs X) (dBi .max2)) := by
  intro pins s σ H xs us Q I r ⟨l, G, Qd, hl, hG, h, w⟩
  match l, h with
  | [.int i, .int j], h =>
    obtain ⟨v, u, rfl, hx, hy⟩ := rL2 hl
    obtain rfl := rInt hx; obtain rfl := rInt hy
    exact call_max2 hc pins s σ H _ us Q I r ⟨i, j, rfl, w.int hG h⟩
theorem cd_tuple : CallR X (.type "tuple") (liftC (bs X) (dBi .tupleOf)) := by
  intro pins s σ H xs us Q I r ⟨l, G, Qd, hl, hG, h, w⟩
  match l, h with
  | [x], h =>
    obtain ⟨v, rfl, hx⟩ := rL1 hl
    cases x with
    | tup l =>
      have hx' := hx
      obtain ⟨a, vs, rfl, h1, r1⟩ := rTup hx
      exact call_tuple_of pins s σ H _ us Q I r ⟨a, vs, rfl, .inr ⟨h1, w.here hG hx' h⟩⟩
    | ref a =>
      obtain rfl := rRef hx
      have h : (match G a with
        | some (.lst l) => Qd (.tup l) G
        | some (.fls l) => Qd (.tup l) G
        | _ => False) := h
      split at h
      · rename_i l e1
        obtain ⟨vs, h1, r1⟩ := hG.lst e1
        exact call_tuple_of pins s σ H _ us Q I r ⟨a, vs, rfl, .inl ⟨SqL.of h1, fun p hp => w.tup hG r1 h hp⟩⟩
      · rename_i l e1
        obtain ⟨vs, h1, r1⟩ := hG.fls e1
        exact call_tuple_of pins s σ H _ us Q I r ⟨a, vs, rfl, .inl ⟨.inl h1, fun p hp => w.tup hG r1 h hp⟩⟩
      · exact h.elim
    | _ => exact h.elim
theorem cd_list : CallR X (.type "list") (liftC (bs X) (dBi .listOf)) := by
  intro pins s σ H xs us Q I r ⟨l, G, Qd, hl, hG, h, w⟩
  match l, h with
  | [x], h =>
    obtain ⟨v, rfl, hx⟩ := rL1 hl
    have h2 : ∃ m, seqD G x = some m ∧ newL m G Qd := by
      have h : (match seqD G x with | some l => newL l G Qd | none => False) := h
      split at h
      · exact ⟨_, by assumption, h⟩
      · exact h.elim
    obtain ⟨m, e, h2⟩ := h2
    clear h
    cases x with
    | tup l =>
      obtain ⟨a, vs, rfl, h1, r1⟩ := rTup hx
      cases e
      exact call_list_of pins s σ H _ us Q I r ⟨a, vs, rfl, .inr h1, fun p hp => w.newL hG r1 h2 hp⟩
    | ref a =>
      obtain rfl := rRef hx
      simp only [seqD] at e
      split at e
      · rename_i l e1
        cases e
        obtain ⟨vs, h1, r1⟩ := hG.lst e1
        exact call_list_of pins s σ H _ us Q I r ⟨a, vs, rfl, .inl (SqL.of h1), fun p hp => w.newL hG r1 h2 hp⟩
      · rename_i l e1
        cases e
        obtain ⟨vs, h1, r1⟩ := hG.fls e1
        exact call_list_of pins s σ H _ us Q I r ⟨a, vs, rfl, .inl (.inl h1), fun p hp => w.newL hG r1 h2 hp⟩
      · cases e
    | _ => cases e
theorem blsD_rep {B : Bs} {H : Hp} : ∀ {l : List Dv} {vs : List V} {bs : List Bool}, RepL B H l vs → blsD l = some bs → vs = bs.map V.bl
  | [], _, _, h, e => by rw [RepL] at h; subst h; cases e; rfl
  | d :: r, _, _, h, e => by
    rw [RepL] at h
    obtain ⟨v, t, rfl, h1, h2⟩ := h
    cases d with
    | bl b =>
      obtain rfl := rBl h1
      obtain ⟨bs', e1, e2⟩ := Option.map_eq_some_iff.mp (show (blsD r).map (b :: ·) = some _ from e)
      subst e2
      rw [blsD_rep h2 e1]
      rfl
    | _ => cases e
theorem lstD_rep {B : Bs} {H : Hp} {G : Dh} {x : Dv} {v : V} {l : List Dv} (hG : RepG B H G) (hx : RepV B H x v) (e : lstD G x = some l) : ∃ a vs, v = .ref a ∧ SqL B.K H a vs ∧ RepL B H l vs := by
  cases x with
  | ref a =>
    obtain rfl := rRef hx
    simp only [lstD] at e
    split at e
    · rename_i m e1
      cases e
      obtain ⟨vs, h1, r1⟩ := hG.lst e1
      exact ⟨a, vs, rfl, SqL.of h1, r1⟩
    · rename_i m e1
      cases e
      obtain ⟨vs, h1, r1⟩ := hG.fls e1
      exact ⟨a, vs, rfl, .inl h1, r1⟩
    · cases e
  | _ => cases e
theorem cd_all (hc : X.calm = true) : CallR X (.builtin "all") (liftC (bs X) (dBi .all)) := by
  intro pins s σ H xs us Q I r ⟨l, G, Qd, hl, hG, h, w⟩
  match l, h with
  | [x], h =>
    obtain ⟨v, rfl, hx⟩ := rL1 hl
    have h : (match (lstD G x).bind blsD with | some bs => Qd (.bl (bs.all id)) G | none => False) := h
    split at h
    · rename_i b e
      obtain ⟨m, e1, e2⟩ := Option.bind_eq_some_iff.mp e
      obtain ⟨a, vs, rfl, h1, r1⟩ := lstD_rep hG hx e1
      obtain rfl := blsD_rep r1 e2
      exact cr_all hc pins s σ H _ us Q I r ⟨a, b, rfl, h1, w.bl hG h⟩
    · exact h.elim
theorem cd_any (hc : X.calm = true) : CallR X (.builtin "any") (liftC (bs X) (dBi .any)) := by
  intro pins s σ H xs us Q I r ⟨l, G, Qd, hl, hG, h, w⟩
  match l, h with
  | [x], h =>
    obtain ⟨v, rfl, hx⟩ := rL1 hl
    have h : (match (lstD G x).bind blsD with | some bs => Qd (.bl (bs.any id)) G | none => False) := h
    split at h
    · rename_i b e
      obtain ⟨m, e1, e2⟩ := Option.bind_eq_some_iff.mp e
      obtain ⟨a, vs, rfl, h1, r1⟩ := lstD_rep hG hx e1
      obtain rfl := blsD_rep r1 e2
      exact cr_any hc pins s σ H _ us Q I r ⟨a, b, rfl, h1, w.bl hG h⟩
    · exact h.elim
/-! ### isinstance -/
def kdT : Kd → String
  | .int => "int" | .bool => "bool" | .str => "str" | .non => "NoneType" | .tup => "tuple" | .lst => "list" | .dic => "dict" | .ins => "object"
theorem kdI_ty {B : Bs} {H : Hp} {G : Dh} {x : Dv} {v : V} {k : Kd} (hG : RepG B H G) (hx : RepV B H x v) (e : kdI G x = some k) : TyX B.K H v (.type (kdT k)) := by
  cases x with
  | non => obtain rfl := rNon hx; cases e; exact .base .non
  | bl b => obtain rfl := rBl hx; cases e; exact .base (.bl b)
  | int i => obtain rfl := rInt hx; cases e; exact .base (.int i)
  | str i => obtain rfl := rStr hx; cases e; exact .base (.str i)
  | tup l =>
    obtain ⟨a, vs, rfl, h1, r1⟩ := rTup hx
    cases e
    rcases h1 with (h1 | ⟨o, h1⟩) | ⟨o, its, n, h1, h2, _⟩
    · exact .base (.tup h1)
    · exact .fTuple h1
    · exact .kTuple h1 h2
  | ref a =>
    obtain rfl := rRef hx
    simp only [kdI] at e
    split at e
    · rename_i l e1
      cases e
      obtain ⟨vs, h1, r1⟩ := hG.lst e1
      exact .base (.lst h1)
    · cases e
theorem kit_int (k : Kd) (h : k ≠ .ins) : kitB (kdT k) "int" = some (k == .int || k == .bool) := by cases k <;> first | decide +kernel | exact absurd rfl h
theorem kit_bool (k : Kd) (h : k ≠ .ins) : kitB (kdT k) "bool" = some (k == .bool) := by cases k <;> first | decide +kernel | exact absurd rfl h
theorem kit_tuple (k : Kd) (h : k ≠ .ins) : kitB (kdT k) "tuple" = some (k == .tup) := by cases k <;> first | decide +kernel | exact absurd rfl h
theorem kit_str (k : Kd) (h : k ≠ .ins) : kitB (kdT k) "str" = some (k == .str) := by cases k <;> first | decide +kernel | exact absurd rfl h
theorem kit_list (k : Kd) (h : k ≠ .ins) : kitB (kdT k) "list" = some (k == .lst) := by cases k <;> first | decide +kernel | exact absurd rfl h
theorem kdI_ne {G : Dh} {x : Dv} {k : Kd} (e : kdI G x = some k) : k ≠ .ins := by
  cases x with
  | ref a =>
    simp only [kdI] at e
    split at e
    · cases e; exact fun z => nomatch z
    · cases e
  | _ => cases e <;> exact fun z => nomatch z
/-- isinstance(x, T) -/
theorem cd_isi {T : String} {f : Kd → Bool} (hf : ∀ k, k ≠ .ins → kitB (kdT k) T = some (f k)) {pins : List (Addr × Obj)} {s : Shared} {σ : L2.St} {H : Hp} {x : V} {us : List Value} {Q : VK} {d : Dv} {G : Dh} {Qd : DK} (I : Inv X pins σ H s) (r : Vals [x, .ty T] us) (hx : RepV (bs X) H d x)
    (hG : RepG (bs X) H G) (h : dIsi f d G Qd) (w : Wish (bs X) G H Qd Q) : wpAny (model X.prog X.w) X.A (call (.builtin "isinstance") us) (EP X pins σ Q) X.xe s := by
  unfold dIsi at h
  split at h
  · rename_i k e
    exact call_isi pins s σ H _ us Q I r ⟨x, .ty T, .type (kdT k), .type T, f k, rfl, .ty T, kdI_ty hG hx e, kit_ty (hf k (kdI_ne e)), w.bl hG h⟩
  · exact h.elim

/-! ### methods -/
theorem cm_append : MtM X "list.append" (liftM (bs X) (dMt .append)) := by
  intro pins s σ H x xs v us Q I rx rs ⟨d, l, G, Qd, hx, hl, hG, h, w⟩
  match d, l, h with
  | .ref a, [y], h =>
    obtain rfl := rRef hx
    obtain ⟨z, rfl, hy⟩ := rL1 hl
    simp only [dMt] at h
    split at h
    · rename_i m e1
      obtain ⟨vs, h1, r1⟩ := hG.lst e1
      exact mt_append pins s σ H _ _ v us Q I rx rs ⟨a, vs, z, rfl, rfl, h1, by rw [r1.length]; exact h.1, w.wlst hG e1 h1 (r1.append (.one hy)) (by rw [RepV]) h.2⟩
    · exact h.elim
theorem cm_extend : MtM X "list.extend" (liftM (bs X) (dMt .extend)) := by
  intro pins s σ H x xs v us Q I rx rs ⟨d, l, G, Qd, hx, hl, hG, h, w⟩
  match d, l, h with
  | .ref a, [.ref b], h =>
    obtain rfl := rRef hx
    obtain ⟨z, rfl, hy⟩ := rL1 hl
    obtain rfl := rRef hy
    simp only [dMt] at h
    split at h
    · rename_i m m2 e1 e2
      obtain ⟨vs, h1, r1⟩ := hG.lst e1
      obtain ⟨ws, h2, r2⟩ := hG.lst e2
      exact mt_extend pins s σ H _ _ v us Q I rx rs ⟨a, b, vs, ws, rfl, rfl, h1, h2, by rw [r1.length, r2.length]; exact h.1, w.wlst hG e1 h1 (r1.append r2) (by rw [RepV]) h.2⟩
    · exact h.elim
theorem RepL.dropLast {B : Bs} {H : Hp} {l : List Dv} {vs : List V} (h : RepL B H l vs) : RepL B H l.dropLast vs.dropLast := by
  rw [List.dropLast_eq_take, List.dropLast_eq_take, h.length]
  exact h.take _
theorem cm_pop : MtM X "list.pop" (liftM (bs X) (dMt .pop)) := by
  intro pins s σ H x xs v us Q I rx rs ⟨d, l, G, Qd, hx, hl, hG, h, w⟩
  match d, l, h with
  | .ref a, [], h =>
    obtain rfl := rRef hx
    have e0 : xs = [] := by rw [RepL] at hl; exact hl
    subst e0
    simp only [dMt] at h
    split at h
    · rename_i m e1
      split at h
      · rename_i y e2
        obtain ⟨vs, h1, r1⟩ := hG.lst e1
        obtain ⟨z, e3, rz⟩ := r1.get e2
        exact mt_pop pins s σ H _ _ v us Q I rx rs ⟨a, vs, z, rfl, rfl, h1, by rw [r1.length]; exact e3, w.wlst hG e1 h1 r1.dropLast rz h⟩
      · exact h.elim
    · exact h.elim
  | .ref a, [k], h =>
    obtain rfl := rRef hx
    obtain ⟨kv, rfl, hk⟩ := rL1 hl
    simp only [dMt] at h
    split at h
    · rename_i m e1
      split at h
      · rename_i _ i
        split at h
        · rename_i j e2
          split at h
          · rename_i y e3
            obtain rfl := rInt hk
            obtain ⟨vs, h1, r1⟩ := hG.lst e1
            obtain ⟨z, e4, rz⟩ := r1.get e3
            obtain ⟨s1, s2, s3, s4⟩ := ixN_seq e2
            have hz := (I.list (SqL.of h1)).choose_spec.2.2
            rw [r1.length, sizeLine_eq] at hz
            exact mt_popAt pins s σ H _ _ v us Q I rx rs ⟨a, vs, i, j, z, rfl, rfl, h1, by omega, by omega, by rw [r1.length]; exact s1, e4, w.wlst hG e1 h1 (r1.eraseIdx j) rz h⟩
          · exact h.elim
        · exact h.elim
      · exact h.elim
    · exact h.elim
end
end BD

/-! BDS: sorted(xs), ints or tuples of ints, any number of them. -/
namespace BD
open PySem PySem.Spec PyProof.Rows L2

theorem absF {p : Prop} (h : false = true) : p := absurd h Bool.false_ne_true
def ltL : List Int → List Int → Bool
  | [], [] => false
  | [], _ :: _ => true
  | _ :: _, [] => false
  | x :: r, y :: t => if x = y then ltL r t else decide (x < y)
theorem ltL_asym : ∀ a b : List Int, ltL a b = true → ltL b a = false
  | [], [], h => absF h
  | [], _ :: _, _ => rfl
  | _ :: _, [], h => absF h
  | x :: r, y :: t, h => by
    unfold ltL at h ⊢
    by_cases e : x = y
    · rw [if_pos e] at h; rw [if_pos e.symm]; exact ltL_asym r t h
    · rw [if_neg e] at h; rw [if_neg (Ne.symm e)]
      have := of_decide_eq_true h
      exact decide_eq_false (by omega)
theorem ltL_tr : ∀ a b c : List Int, ltL b a = false → ltL c b = false → ltL c a = false
  | [], _, [], _, _ => rfl
  | _ :: _, [], _, h, _ => absF h.symm
  | _, _ :: _, [], _, h => absF h.symm
  | [], [], _ :: _, _, _ => rfl
  | [], _ :: _, _ :: _, _, _ => rfl
  | x :: r, y :: t, z :: u, h1, h2 => by
    unfold ltL at h1 h2 ⊢
    by_cases e : y = x
    · rw [if_pos e] at h1
      by_cases e2 : z = y
      · rw [if_pos e2] at h2; rw [if_pos (e2.trans e)]; exact ltL_tr r t u h1 h2
      · rw [if_neg e2] at h2
        have := of_decide_eq_false h2
        rw [if_neg (by omega)]
        exact decide_eq_false (by omega)
    · rw [if_neg e] at h1
      have a1 := of_decide_eq_false h1
      by_cases e2 : z = y
      · rw [if_neg (by omega)]; exact decide_eq_false (by omega)
      · rw [if_neg e2] at h2
        have a2 := of_decide_eq_false h2
        rw [if_neg (by omega)]; exact decide_eq_false (by omega)
theorem ltL_swo {α : Type} (k : α → List Int) : SrtO.Swo fun v u => ltL (k v) (k u) := ⟨fun _ _ h => ltL_asym _ _ h, fun _ _ _ h1 h2 => ltL_tr _ _ _ h1 h2⟩
theorem ltD_ltL : ∀ a b : List Int, ltD (.tup (a.map .int)) (.tup (b.map .int)) = ltL a b := by
  intro a b
  show ltDs _ _ = _
  induction a generalizing b with
  | nil => cases b <;> rfl
  | cons x r ih =>
    cases b with
    | nil => rfl
    | cons y t =>
      show (if Dv.int x = Dv.int y then ltDs (r.map .int) (t.map .int) else ltD (.int x) (.int y)) = _
      unfold ltL
      by_cases e : x = y
      · rw [if_pos (by rw [e]), if_pos e]; exact ih t
      · rw [if_neg (by simpa using e), if_neg e]; rfl
section
variable {prog : Program} {w : World} {A : Around} {s : Shared}
def lexF (fin : Bool) : List Int → List Int → Bool
  | x :: r, y :: t => if x = y then lexF fin r t else decide (x < y)
  | _, _ => fin
theorem lexF_lt : ∀ {a b : List Int}, lexF (decide (a.length < b.length)) a b = ltL a b
  | [], [] => rfl
  | [], _ :: _ => by simp [lexF, ltL]
  | _ :: _, [] => by simp [lexF, ltL]
  | x :: r, y :: t => by
    unfold lexF ltL
    by_cases e : x = y
    · rw [if_pos e, if_pos e]
      rw [← lexF_lt]
      simp
    · rw [if_neg e, if_neg e]
theorem lex_run {b fin : Bool} {Q : Bool → Shared → Prop} : ∀ {xs ys : List Value} {ns ms : List Int} {i : Nat}, IntsAre xs ns → IntsAre ys ms → Q (lexF fin ns ms) s → PySem.W.KatLex prog w A b fin Q (xs.zip ys) i s
  | _, _, _, _, _, .nil, _, h => PySem.W.kat_nil (by simpa [lexF] using h)
  | _, _, _, _, _, .cons _ _ _, .nil, h => PySem.W.kat_nil (by simpa [lexF] using h)
  | _, _, _, _, i, .cons x t r, .cons y u r2, h => by
    refine PySem.W.kat_cons (SeqAt.EqAt.int_int x t y u prog w _ _ ?_)
    unfold lexF at h
    refine PySem.W.kat_go (fun e1 => ?_) (fun e1 => ?_)
    · have ex : x = y := by simpa using e1
      rw [if_pos ex] at h
      exact PySem.W.kat_yes (lex_run r r2 h)
    · have ex : ¬ x = y := by simpa using e1
      rw [if_neg ex] at h
      exact PySem.W.kat_no (TS.oneLt_ints _ h)
def IsTI (h : Heap) (v : Value) (ns : List Int) : Prop := ∃ a o its n, v = .ref a ∧ h.get? a = some o ∧ o.cls = .type "tuple" ∧ o.data = .seq its n ∧ IntsAre its.toList ns
theorem IsTI.keeps {h h' : Heap} {v : Value} {ns : List Int} (p : IsTI h v ns) (k : ∀ b o, h.get? b = some o → o.cls = .type "tuple" → h'.get? b = some o) : IsTI h' v ns := by
  obtain ⟨a, o, its, n, e, ho, hc, hd⟩ := p
  exact ⟨a, o, its, n, e, k _ _ ho hc, hc, hd⟩
def rdI (h : Heap) : Value → List Int
  | .ref a => match h.get? a with
    | some o => match o.data with
      | .seq its _ => its.toList.map SrtO.iv
      | _ => []
    | none => []
  | _ => []
theorem IsTI.rd {h : Heap} {v : Value} {ns : List Int} (p : IsTI h v ns) : rdI h v = ns := by
  obtain ⟨a, o, its, n, rfl, ho, hc, hd, hi⟩ := p
  simp only [rdI, ho, hd]
  exact SrtO.iv_ints hi
theorem ti_cmp {vs : List Value} {k : Value → List Int} (hp : ∀ v ∈ vs, IsTI s.heap v (k v)) : SrtO.Cmp prog w A s (tuples' true) (fun p => p.1 ∈ vs) (SrtO.lt2 fun v u => ltL (k v) (k u)) := by
  intro p q hm hm'
  have h1 := hp _ hm
  have h2 := hp _ hm'
  show wpAny (model prog w) A (keyLt' (tuples' true) p.1 q.1) (fun r s' => s' = s ∧ r = ltL (k p.1) (k q.1)) (fun _ _ => False) s
  obtain ⟨a, o, its, n, e, ho, hc, hd, hi⟩ := h1
  obtain ⟨a', o', its', n', e', ho', hc', hd', hi'⟩ := h2
  generalize k p.1 = x at hi ⊢
  generalize k q.1 = y at hi' ⊢
  rw [e, e']
  refine PySem.W.kat_lt ho hd ho' hd' (lex_run hi hi' ⟨rfl, ?_⟩)
  rw [← lexF_lt]
  have l1 := hi.length
  have l2 := hi'.length
  rw [Array.length_toList] at l1 l2
  rw [l1, l2]
theorem ti_firsts {h : Heap} : ∀ {vs : List Value}, (∀ v ∈ vs, ∃ x r, IsTI h v (x :: r)) → ∃ fs : List Value, PySem.W.KatTups h vs fs ∧ fs.length = vs.length ∧ ∀ f ∈ fs, ∃ x t, f = Value.int x t
  | [], _ => ⟨[], PySem.W.KatTups.nil, rfl, fun _ hm => by simp at hm⟩
  | v :: vs, hp => by
    obtain ⟨fs, h1, h2, h3⟩ := ti_firsts (vs := vs) fun v' hm => hp v' (List.mem_cons_of_mem _ hm)
    obtain ⟨x, r, a, o, its, n, e, ho, hc, hd, hi⟩ := hp v (List.mem_cons_self ..)
    subst e
    obtain ⟨l⟩ := its
    cases hi with
    | cons x t r =>
      refine ⟨.int x t :: fs, PySem.W.KatTups.cons ho hc hd (by simp) h1, by rw [List.length_cons, List.length_cons, h2], fun f hm => ?_⟩
      rcases List.mem_cons.mp hm with e | hm
      · exact ⟨x, t, e⟩
      · exact h3 f hm
theorem ti_sortable {a : Addr} {vs : List Value} {k : Value → List Int} (h0 : 0 < vs.length) (hp : ∀ v ∈ vs, IsTI s.heap v (k v) ∧ k v ≠ []) (ha : ∀ o, s.heap.get? a = some o → o.cls ≠ .type "tuple") : SrtO.SortableO prog w A s a vs fun v u => ltL (k v) (k u) := by
  intro h' keep
  have hp' : ∀ v ∈ vs, IsTI h' v (k v) := fun v hm => (hp v hm).1.keeps fun b o e c => keep b o (fun z => by subst z; exact ha o e c) e
  obtain ⟨fs, h1, h2, h3⟩ := ti_firsts (h := h') (vs := vs) fun v hm => by
    obtain ⟨x, r, e⟩ : ∃ x r, k v = x :: r := by
      cases q : k v with
      | nil => exact absurd q (hp v hm).2
      | cons x r => exact ⟨x, r, rfl⟩
    exact ⟨x, r, e ▸ hp' v hm⟩
  refine ⟨tuples' true, fun Q E hq => ?_, ti_cmp hp'⟩
  refine PySem.W.kat_kind (T := .type "int") h1 (by omega) (fun f hm => ?_) (by rfl) ?_
  · obtain ⟨x, t, rfl⟩ := h3 f hm
    exact PySem.W.Looks.now
  · have e : (Value.type "int" != Value.type "tuple") = true := by first | decide +kernel | rfl | decide
    rw [e]
    exact hq
end
theorem intsOf_eq : ∀ {l : List Dv} {ns : List Int}, intsOf l = some ns → l = ns.map Dv.int
  | [], ns, h => by cases h; rfl
  | d :: r, ns, h => by
    cases d with
    | int i =>
      obtain ⟨t, e1, e2⟩ := Option.map_eq_some_iff.mp (show (intsOf r).map (i :: ·) = some ns from h)
      subst e2
      rw [intsOf_eq e1]; rfl
    | _ => cases h
theorem RepL.ints {B : Bs} {H : Hp} : ∀ {ns : List Int} {vs : List V}, RepL B H (ns.map Dv.int) vs → vs = ns.map V.int
  | [], vs, h => by rw [List.map_nil, RepL] at h; exact h
  | n :: ns, vs, h => by
    rw [List.map_cons, RepL] at h
    obtain ⟨v, r, rfl, h1, h2⟩ := h
    rw [rInt h1, RepL.ints h2]; rfl
theorem ltD_ints {ns : List Int} (h : ns.Pairwise (· ≤ ·)) : (ns.map Dv.int).Pairwise (fun x y => ltD y x = false) :=
  List.pairwise_map.mpr (h.imp fun {a b} h => by show decide (b < a) = false; exact decide_eq_false (by omega))
section
variable {X : Cx}
theorem cd_sorted : CallR X (.builtin "sorted") (liftC (bs X) (dBi .sorted)) := by
  intro pins s σ H xs us Q I r ⟨l, G, Qd, hl, hG, h, w⟩
  match l, h with
  | [x], h =>
    obtain ⟨v, rfl, hx⟩ := rL1 hl
    have h : (match lstD G x with
      | some l => sortOk l = true ∧ ∀ m : List Dv, m.Perm l → m.Pairwise (fun x y => ltD y x = false) → newL m G Qd
      | none => False) := h
    split at h
    · rename_i l e
      obtain ⟨a, vs, rfl, hs, hr⟩ := lstD_rep hG hx e
      obtain ⟨hk, h⟩ := h
      rcases Bool.or_eq_true_iff.mp hk with hk | hk
      · -- tuples
        obtain ⟨its, rv, hl2, hz⟩ := I.list hs
        rw [Vals.ref1 r]
        -- each item
        have item : ∀ (i : Nat) (u : Value), its[i]? = some u → ∃ (d : Dv) (x : V) (ns : List Int), l[i]? = some d ∧ vs[i]? = some x ∧ RelV x u ∧ RepV (bs X) H d x ∧ d = .tup (ns.map .int) ∧ ns ≠ [] ∧ IsTI s.heap u ns ∧ (∃ t, x = .ref t ∧ u = .ref t) := by
          intro i u hu
          have hi : i < its.length := (List.getElem?_eq_some_iff.mp hu).1
          have hi2 : i < l.length := by rw [← hr.length, rv.length]; exact hi
          obtain ⟨x, e1, rx⟩ := hr.get (List.getElem?_eq_getElem hi2)
          obtain ⟨u', e2, ru⟩ := paired_get rv e1
          rw [hu] at e2; cases e2
          have hm := List.all_eq_true.mp hk _ (List.getElem_mem hi2)
          generalize hd : l[i] = d at rx hm
          refine ⟨d, x, ?_⟩
          cases d with
          | tup L =>
            cases L with
            | nil => exact absF hm
            | cons y L =>
              obtain ⟨ns, en⟩ := Option.isSome_iff_exists.mp hm
              have e3 := intsOf_eq en
              obtain ⟨t, ws, rfl, ht, hw⟩ := rTup rx
              cases ru
              rw [e3] at hw
              have hw' := RepL.ints hw
              subst hw'
              obtain ⟨its2, rv2, ⟨o, ho, hc, n, hd2⟩, _⟩ := I.tuple ht
              refine ⟨ns, by rw [List.getElem?_eq_getElem hi2, hd], e1, rfl, rx, by rw [e3], ?_, ⟨t, o, _, n, rfl, ho, hc, hd2, rv2.ints⟩, t, rfl, rfl⟩
              intro z; subst z; cases e3
          | _ => exact absF hm
        have itm : ∀ u ∈ its, IsTI s.heap u (rdI s.heap u) ∧ rdI s.heap u ≠ [] ∧ ∃ t, u = .ref t := by
          intro u hu
          obtain ⟨i, hi, e⟩ := List.mem_iff_getElem.mp hu
          obtain ⟨d, x, ns, _, _, _, _, _, hne, hT, t, _, e2⟩ := item i u (by rw [List.getElem?_eq_getElem hi, e])
          rw [hT.rd]
          exact ⟨hT, hne, t, e2⟩
        have el : l = its.map fun u => .tup ((rdI s.heap u).map .int) := by
          apply List.ext_getElem?
          intro i
          rw [List.getElem?_map]
          cases hu : its[i]? with
          | none =>
            have : its.length ≤ i := List.getElem?_eq_none_iff.mp hu
            rw [List.getElem?_eq_none_iff.mpr (by rw [← hr.length, rv.length]; exact this)]; rfl
          | some u =>
            obtain ⟨d, x, ns, e1, _, _, _, e2, _, hT, _⟩ := item i u hu
            rw [e1, e2, Option.map_some, hT.rd]
        have ev : vs = its.map backV := by
          apply List.ext_getElem?
          intro i
          rw [List.getElem?_map]
          cases hu : its[i]? with
          | none =>
            have : its.length ≤ i := List.getElem?_eq_none_iff.mp hu
            rw [List.getElem?_eq_none_iff.mpr (by rw [rv.length]; exact this)]; rfl
          | some u =>
            obtain ⟨d, x, ns, _, e1, _, _, _, _, _, t, ex, eu⟩ := item i u hu
            rw [e1, ex, eu]; rfl
        refine SrtO.sorted_ord (ltL_swo (rdI s.heap)) hl2.isList (by rw [← rv.length]; exact hz) (fun h2 h₁ a' ha kk => ?_) fun out h1 h2 => ?_
        · refine ti_sortable (s := { s with heap := h₁ }) (by omega) (fun v hv => ⟨(itm v hv).1.keeps fun b o e _ => (kk b o e).2, (itm v hv).2.1⟩) fun o e => ?_
          have e' : some o = some (seqObj "list" its.toArray 0) := e.symm.trans ha
          cases e'
          intro c
          exact absurd (Value.type.inj c) (by decide)
        · have h3 : ∀ u ∈ out, ∃ a, u = Value.ref a := fun u hu => (itm u (h2.perm.mem_iff.mp hu)).2.2
          have pm : (out.map fun u => Dv.tup ((rdI s.heap u).map .int)).Perm l := by rw [el]; exact h2.perm.map _
          have pw : (out.map fun u => Dv.tup ((rdI s.heap u).map .int)).Pairwise (fun x y => ltD y x = false) := List.pairwise_map.mpr (h1.imp fun {x y} h => by rw [ltD_ltL]; exact h)
          have q := h _ pm pw
          obtain ⟨ep, he'⟩ := PyProof.Rows.sortedAll_at s.heap its out.toArray
          have rl : RepL (bs X) H (out.map fun u => Dv.tup ((rdI s.heap u).map .int)) (out.map backV) := by
            refine RepL.of_get (by simp) fun i d v e1 e2 => ?_
            rw [List.getElem?_map] at e1 e2
            cases hu : out[i]? with
            | none => rw [hu] at e1; cases e1
            | some u =>
              rw [hu] at e1 e2
              cases e1; cases e2
              have hm : u ∈ its := h2.perm.mem_iff.mp (List.mem_of_getElem? hu)
              obtain ⟨j, hj, ej⟩ := List.mem_iff_getElem.mp hm
              obtain ⟨d, x, ns, _, _, _, rx, e2, _, hT, t, ex, eu⟩ := item j u (by rw [List.getElem?_eq_getElem hj, ej])
              subst ex eu e2
              show RepV (bs X) H (Dv.tup ((rdI s.heap (Value.ref t)).map .int)) (V.ref t)
              rw [hT.rd]
              exact rx
          have hlen : (out.map backV).length ≤ sizeLine := by
            rw [List.length_map, h2.perm.length_eq, ← rv.length]; exact hz
          refine ⟨.ref _, upd H (s.heap.objs.size + 1) (.lst (out.map backV)), I.laid (t' := s.toks) (fun _ _ => PyProof.Rows.sortedAll_old) (Nat.le_succ _) ⟨hlen, out, ep, vals_back h3, he'⟩, rfl, ?_⟩
          exact w.newL hG rl q (I.hok.fresh (Nat.le_succ _))
      · -- ints
        obtain ⟨ns, en⟩ := Option.isSome_iff_exists.mp hk
        have e3 := intsOf_eq en
        subst e3
        obtain rfl := RepL.ints hr
        refine cr_sortedI pins s σ H _ us Q I r ⟨a, ns, rfl, hs, fun ms p h1 h2 hp => ?_⟩
        have q := h (ms.map Dv.int) (h1.map _) (ltD_ints h2)
        exact w.newL hG (RepL.of_get (by simp) fun i d v e1 e2 => by
          rw [List.getElem?_map] at e1 e2
          cases hu : ms[i]? with
          | none => rw [hu] at e1; cases e1
          | some u => rw [hu] at e1 e2; cases e1; cases e2; rw [RepV]) q hp
    · exact h.elim
end
end BD

/-! BD7: the checker. -/
namespace BD
open PySem PySem.Spec PyProof.Rows L2

/-- where a text stands: names by slots, the scope, the names whose cells are of this block -/
structure Ce where
  N : List Str
  sc : Scope
  fn : Str → Bool
def visB (sc : Scope) (x : Str) : Bool := match sc.names.lookup x with
  | some .local => true
  | some .cell => true
  | some .free => true
  | _ => false
def glB (sc : Scope) (x : Str) : Bool := match sc.names.lookup x with
  | some .globalImplicit => true
  | _ => false
def locB (c : Ce) (x : Str) : Bool := match c.sc.names.lookup x with
  | some .local => true
  | some .cell => c.fn x
  | _ => false
def plainN (x : Str) : Bool := !(x == ("__debug__" : Str)) && !(x == ("__classdict__" : Str)) && !(x == ("__name__" : Str))
def nost : PySem.Expr → Bool
  | .Starred _ _ => false
  | _ => true
def noSlice : PySem.Expr → Bool
  | .Slice _ _ _ _ => false
  | _ => true
def noSet : PySem.Expr → Bool
  | .Set _ _ _ => false
  | _ => true
def noComp : PySem.Expr → Bool
  | .ListComp _ _ _ _ => false
  | .SetComp _ _ _ _ => false
  | .DictComp _ _ _ _ _ => false
  | _ => true
/-- an expression whose test is its value's truth -/
def plainT : PySem.Expr → Bool
  | .UnaryOp .Not _ _ => false
  | .BoolOp _ _ _ => false
  | .IfExp _ _ _ _ => false
  | .Compare _ _ _ _ => false
  | _ => true
/-- no super() -/
def noSup : PySem.Expr → Bool
  | .Call (.Name _ _) [] [] _ => false
  | _ => true
def mtName : Mt → Str
  | .append => "append" | .extend => "extend" | .pop => "pop" | .insert => "insert" | .remove => "remove" | .index => "index" | .get => "get" | .setdefault => "setdefault" | .bitLength => "bit_length" | .split => "split" | .reverse => "reverse" | .items => "items" | .values => "values"
mutual
def chkTg (c : Ce) : Tg → PySem.Expr → Bool
  | .nm i => fun e => match e with
    | .Name x _ => decide (c.N[i]? = some x) && locB c x
    | _ => false
  | .tp l => fun e => match e with
    | .Tuple es _ _ => chkTgs c l es
    | _ => false
def chkTgs (c : Ce) : List Tg → List PySem.Expr → Bool
  | [] => fun es => match es with
    | [] => true
    | _ => false
  | t :: r => fun es => match es with
    | e :: es => nost e && chkTg c t e && chkTgs c r es
    | _ => false
end
def blkCe (c : Ce) (scope : Scope) : Ce := ⟨c.N, relS scope c.sc, fun x => scope.names.lookup x == some .cell⟩
def biOk : Bi → Bool
  | .len => true | .int1 => true | .abs => true | .tupleOf => true | .listOf => true | .isInt => true | .isBool => true | .isTuple => true | .isStr => true | .isList => true
  | .all => true | .any => true | .sorted => true | .min2 => true | .max2 => true
  | _ => false
mutual
def chkE (c : Ce) : Ex → PySem.Expr → Bool
  | .var i => fun e => match e with
    | .Name x _ => decide (c.N[i]? = some x) && visB c.sc x && plainN x
    | _ => false
  | .glob y _ => fun e => match e with
    | .Name x _ => decide (x = y) && glB c.sc x && plainN x
    | _ => false
  | .cint i => fun e => match e with
    | .Constant (.int j) _ _ => decide (i = j)
    | _ => false
  | .cbl i => fun e => match e with
    | .Constant (.bool j) _ _ => decide (i = j)
    | _ => false
  | .cnon => fun e => match e with
    | .Constant .none _ _ => true
    | _ => false
  | .cstr i => fun e => match e with
    | .Constant (.str j) _ _ => decide (i = j)
    | _ => false
  | .bin op a b => fun e => match e with
    | .BinOp x op' y _ => decide (op = op') && chkE c a x && chkE c b y
    | _ => false
  | .neg a => fun e => match e with
    | .UnaryOp .USub x _ => chkE c a x
    | _ => false
  | .cmp op a b => fun e => match e with
    | .Compare x [op'] [y] _ => decide (op = op') && noSet y && chkE c a x && chkE c b y
    | _ => false
  | .chn op1 op2 a b d => fun e => match e with
    | .Compare x [op1', op2'] [y, z] _ => decide (op1 = op1') && decide (op2 = op2') && noSet z && chkE c a x && chkE c b y && chkE c d z
    | _ => false
  | .one a => fun e => match e with
    | .BoolOp _ [x] _ => chkE c a x
    | _ => false
  | .and a b => fun e => match e with
    | .BoolOp .And (x :: y :: r) p => chkE c a x && chkE c b (.BoolOp .And (y :: r) p)
    | _ => false
  | .or a b => fun e => match e with
    | .BoolOp .Or (x :: y :: r) p => chkE c a x && chkE c b (.BoolOp .Or (y :: r) p)
    | _ => false
  | .not a => fun e => match e with
    | .UnaryOp .Not x _ => chkE c a x
    | _ => false
  | .ife t a b => fun e => match e with
    | .IfExp x y z _ => chkE c t x && chkE c a y && chkE c b z
    | _ => false
  | .tup as => fun e => match e with
    | .Tuple es _ _ => chkA c as es
    | _ => false
  | .lst as => fun e => match e with
    | .List es _ => chkA c as es
    | _ => false
  | .emp => fun e => match e with
    | .Dict [] [] _ => true
    | _ => false
  | .ix a i => fun e => match e with
    | .Subscript x y _ => noSlice y && chkE c a x && chkE c i y
    | _ => false
  | .sl a lo hi => fun e => match e with
    | .Subscript x (.Slice l h none _) _ => chkE c a x && chkO c lo l && chkO c hi h
    | _ => false
  | .call f _ as => fun e => match e with
    | .Call (.Name x _) es [] _ => decide (x = f) && glB c.sc x && plainN x && chkA c as es
    | _ => false
  | .bcl b as => fun e => match e with
    | .Call (.Name x _) es [] _ => biOk b && decide (x = biName b) && glB c.sc x && plainN x && (match biTy b with
      | none => !es.isEmpty && chkA c as es
      | some t => match es with
        | [y, .Name z _] => chkA c as [y] && decide (z = t) && glB c.sc z && plainN z
        | _ => false)
    | _ => false
  | .mth m o as => fun e => match e with
    | .Call (.Attribute x f ap) es [] cp => decide (f = mtName m) && (ap.endLine == cp.line) && noSup x && decide (es.length < 4) && chkE c o x && chkA c as es
    | _ => false
  | .lc own tg it cd el => fun e => match e with
    | .ListComp x [⟨t, i, ifs, ia⟩] scope _ => decide (ia = 0) && blkC c.N c.sc scope own && ((tgS tg).all fun j => decide (j ∈ own.map (·.2))) && chkI c it i t && chkTg (blkCe c scope) tg t && chkC (blkCe c scope) cd ifs && chkE (blkCe c scope) el x
    | _ => false
  | .lc2 own tg it tg2 it2 el => fun e => match e with
    | .ListComp x [⟨t, i, ifs, ia⟩, ⟨t2, i2, ifs2, ia2⟩] scope _ => decide (ia = 0) && decide (ia2 = 0) && ifs.isEmpty && ifs2.isEmpty && blkC c.N c.sc scope own && ((tgS tg).all fun j => decide (j ∈ own.map (·.2))) && ((tgS tg2).all fun j => decide (j ∈ own.map (·.2))) && chkI c it i t && chkTg (blkCe c scope) tg t
        && chkI (blkCe c scope) it2 i2 t2 && chkTg (blkCe c scope) tg2 t2 && chkE (blkCe c scope) el x
    | _ => false
def chkA (c : Ce) : Ar → List PySem.Expr → Bool
  | .nil => fun es => match es with
    | [] => true
    | _ => false
  | .cons x r => fun es => match es with
    | e :: es => nost e && chkE c x e && chkA c r es
    | _ => false
def chkO (c : Ce) : Op → Option PySem.Expr → Bool
  | .no => fun e => match e with
    | none => true
    | _ => false
  | .yes x => fun e => match e with
    | some y => chkE c x y
    | _ => false
def chkC (c : Ce) : Op → List PySem.Expr → Bool
  | .no => fun e => match e with
    | [] => true
    | _ => false
  | .yes x => fun e => match e with
    | [y] => chkE c x y
    | _ => false
/-- the iterable, with the target that it is walked by -/
def chkI (c : Ce) : Ib → PySem.Expr → PySem.Expr → Bool
  | .seq x => fun e _ => noSet e && chkE c x e
  | .rng1 a => fun e _ => match e with
    | .Call (.Name x _) [y] [] _ => decide (x = "range") && glB c.sc x && nost y && chkE c a y
    | _ => false
  | .rng2 a b => fun e _ => match e with
    | .Call (.Name x _) [y, z] [] _ => decide (x = "range") && glB c.sc x && nost y && nost z && chkE c a y && chkE c b z
    | _ => false
  | _ => fun _ _ => false
end
/-- the stores of `x, y = a, b` go from the right, by plain local names -/
def parB (c : Ce) (i j : Nat) (ts : List PySem.Expr) (vs : List PySem.Expr) : Bool := match ts, vs with
  | [.Name x px, .Name y py], [a, b] => decide (c.N[i]? = some x) && decide (c.N[j]? = some y) && decide (i ≠ j) && decide (c.sc.names.lookup x = some .local) && decide (c.sc.names.lookup y = some .local) && (px.line == py.line) && decide (x ≠ y)
    && nost a && nost b && !(vs.all (foldedForSure 8)) && !(vs.all (constantsAlone 8))
  | _, _ => false
def par3B (c : Ce) (i j k : Nat) (ts : List PySem.Expr) (vs : List PySem.Expr) : Bool := match ts, vs with
  | [.Name x px, .Name y py, .Name z pz], [a, b, d] => decide (c.N[i]? = some x) && decide (c.N[j]? = some y) && decide (c.N[k]? = some z) && decide (i ≠ j) && decide (i ≠ k) && decide (j ≠ k)
    && decide (c.sc.names.lookup x = some .local) && decide (c.sc.names.lookup y = some .local) && decide (c.sc.names.lookup z = some .local) && (px.line == py.line) && (px.line == pz.line) && decide (x ≠ y) && decide (x ≠ z) && decide (y ≠ z)
    && nost a && nost b && nost d && !(vs.all (foldedForSure 8)) && !(vs.all (constantsAlone 8))
  | _, _ => false
def noTup : PySem.Expr → Bool
  | .Tuple _ _ _ => false
  | _ => true
def isLc : Ex → Bool
  | .lc _ _ _ _ _ => true
  | .lc2 _ _ _ _ _ _ => true
  | _ => false
def augB : Operator → Bool
  | .Add => true
  | .Sub => true
  | _ => false
mutual
def chkS (c : Ce) : Sm → PySem.Stmt → Bool
  | .pass => fun s => match s with
    | .Pass _ => true
    | .Expr (.Constant (.str _) _ _) _ => true
    | _ => false
  | .brk => fun s => match s with
    | .Break _ => true
    | _ => false
  | .cnt => fun s => match s with
    | .Continue _ => true
    | _ => false
  | .retn => fun s => match s with
    | .Return none _ => true
    | _ => false
  | .expr e => fun s => match s with
    | .Expr x _ => noComp x && chkE c e x
    | _ => false
  | .ret e => fun s => match s with
    | .Return (some x) _ => chkE c e x
    | _ => false
  | .set i e => fun s => match s with
    | .Assign [.Name x _] y _ => decide (c.N[i]? = some x) && locB c x && (isLc e || noComp y) && chkE c e y
    | _ => false
  | .tset tg e => fun s => match s with
    | .Assign [.Tuple es _ _] y _ => noTup y && (match tg with
      | .tp l => chkTgs c l es
      | _ => false) && chkE c e y
    | _ => false
  | .par2 i j a b => fun s => match s with
    | .Assign [.Tuple es _ _] (.Tuple vs _ _) _ => parB c i j es vs && chkA c (.cons a (.cons b .nil)) vs
    | _ => false
  | .par3 i j k a b d => fun s => match s with
    | .Assign [.Tuple es _ _] (.Tuple vs _ _) _ => par3B c i j k es vs && chkA c (.cons a (.cons b (.cons d .nil))) vs
    | _ => false
  | .sub o i v => fun s => match s with
    | .Assign [.Subscript x y _] z _ => noSlice y && chkE c o x && chkE c i y && chkE c v z
    | _ => false
  | .aug i op e => fun s => match s with
    | .AugAssign (.Name x _) op' y _ => augB op && decide (op = op') && decide (c.N[i]? = some x) && locB c x && chkE c e y
    | _ => false
  | .augs o i op e => fun s => match s with
    | .AugAssign (.Subscript x y _) op' z _ => augB op && decide (op = op') && noSlice y && chkE c o x && chkE c i y && chkE c e z
    | _ => false
  | .ifs t a b => fun s => match s with
    | .If x p q _ => chkE c t x && chkB c a p && chkB c b q
    | _ => false
  | .for tg it b => fun s => match s with
    | .For t i p [] _ => noSet i && chkI c it i t && chkTg c tg t && chkB c b p
    | _ => false
  | .whl t b => fun s => match s with
    | .While x p [] _ => chkE c t x && chkB c b p
    | _ => false
def chkB (c : Ce) : Bl → List PySem.Stmt → Bool
  | .nil => fun s => match s with
    | [] => true
    | _ => false
  | .cons x r => fun s => match s with
    | y :: l => chkS c x y && chkB c r l
    | _ => false
end
end BD

/-! BD8: the checker's word is sound: expressions. -/
namespace BD
open PySem PySem.Spec PyProof.Rows L2

structure CxOk (X : Cx) (c : Ce) : Prop where
  n : X.N = c.N
  sc : X.env.scope = c.sc
  nd : X.N.Nodup
  calm : X.calm = true
  fn : ∀ x, c.fn x = true → X.fn x = true
  room : CRoom X
  own : PassesOwn (model X.prog X.w) X.A X.env X.xe
  kind : X.env.scope.kind = .function

/-- a def of the text keeps the promise sp -/
def FnD (X : Cx) (f : Str) (sp : DSp) : Prop := ∃ (fa : Addr) (fd : FuncData) (ps : List Str) (k : Nat), FnOk X.prog X.w X.K X.mg X.base CX0 k fa fd ps (fun vs H Q _ => liftC (bs X) sp vs H Q) ∧ X.mg f = some (.ref fa) ∧
  PySem.W.keepIn X.K (.ref fa) = true ∧ Binds X.K fd ps [] ∧ Room k X.A
def NeedOk (X : Cx) : Need → Prop
  | .fn f sp => FnD X f sp
  | .gl x d => ∃ u, X.mg x = some u ∧ ∀ H, RepU (bs X) H d u
  | .nb x => X.mg x = none

theorem peI {X : Cx} {e : PySem.Expr} {t t' : TE} (h : PE X e t) (i : ∀ σ H Q, t' σ H Q → t σ H Q) : PE X e t' := ⟨fun pins s σ H Q I q => h.run pins s σ H Q I (i σ H Q q)⟩
theorem ptI {X : Cx} {e : PySem.Expr} {t t' : TT} (h : PT X e t) (i : ∀ σ H Q, t' σ H Q → t σ H Q) : PT X e t' := ⟨fun pins s σ H Q I q => h.run pins s σ H Q I (i σ H Q q)⟩
theorem paI {X : Cx} {e : List PySem.Expr} {t t' : TA} (h : PA X e t) (i : ∀ σ H Q, t' σ H Q → t σ H Q) : PA X e t' := ⟨fun pos pins s σ H Q I q => h.run pos pins s σ H Q I (i σ H Q q)⟩
theorem psI {X : Cx} {e : PySem.Stmt} {t t' : TS} (h : PS X e t) (i : ∀ D σ H, t' D σ H → t D σ H) : PS X e t' := ⟨fun pins s σ H Q I q => h.run pins s σ H Q I (i Q σ H q)⟩
theorem pssI {X : Cx} {e : List PySem.Stmt} {t t' : TS} (h : PSs X e t) (i : ∀ D σ H, t' D σ H → t D σ H) : PSs X e t' := ⟨fun pins s σ H Q I q => h.run pins s σ H Q I (i Q σ H q)⟩

/-! ### what the checker's tests mean -/
section
variable {X : Cx} {c : Ce}
theorem CxOk.vis (ok : CxOk X c) {x : Str} (h : visB c.sc x = true) : Vis X.env.scope x := by
  rw [ok.sc]
  unfold visB at h
  split at h
  · exact .inl (by assumption)
  · exact .inr (.inl (by assumption))
  · exact .inr (.inr (by assumption))
  · cases h
theorem CxOk.gl (ok : CxOk X c) {x : Str} (h : glB c.sc x = true) : Gl X x := by
  show X.env.scope.names.lookup x = _
  rw [ok.sc]
  unfold glB at h
  split at h
  · assumption
  · cases h
theorem CxOk.loc (ok : CxOk X c) {x : Str} (h : locB c x = true) : Loc X.env.scope x ∧ (X.fn x = true ∨ X.env.scope.names.lookup x = some .local) := by
  rw [show X.env.scope = c.sc from ok.sc]
  unfold locB at h
  split at h
  · rename_i e; exact ⟨.inl e, .inr e⟩
  · rename_i e; exact ⟨.inr e, .inl (ok.fn x h)⟩
  · cases h
theorem CxOk.slot (ok : CxOk X c) {i : Nat} {x : Str} (h : decide (c.N[i]? = some x) = true) : X.N[i]? = some x := by
  rw [ok.n]; exact of_decide_eq_true h
theorem plain_d {x : Str} (h : plainN x = true) : (x == ("__debug__" : Str)) = false := by
  unfold plainN at h
  simp only [Bool.and_eq_true, Bool.not_eq_true'] at h
  exact h.1.1
theorem plain_c {x : Str} (h : plainN x = true) : (x == ("__classdict__" : Str)) = false := by
  unfold plainN at h
  simp only [Bool.and_eq_true, Bool.not_eq_true'] at h
  exact h.1.2
theorem plain_n {x : Str} (h : plainN x = true) : x ≠ ("__name__" : Str) := by
  unfold plainN at h
  simp only [Bool.and_eq_true, Bool.not_eq_true'] at h
  exact beq_eq_false_iff_ne.mp h.2
theorem star_cons {e : PySem.Expr} {es : List PySem.Expr} {env : Env} (h : nost e = true) : starEach (e :: es) env = (false, eval e env) :: starEach es env := by
  cases e <;> first | rfl | cases h
theorem star_any {env : Env} {pos : Pos} : ∀ {es : List PySem.Expr}, (es.all nost) = true → (backTo pos (starEach es env)).any (·.1) = false
  | [], _ => rfl
  | e :: es, h => by
    rw [List.all_cons, Bool.and_eq_true] at h
    rw [star_cons h.1]
    show (false || (backTo pos (starEach es env)).any (·.1)) = false
    rw [star_any h.2]; rfl
theorem star_len {env : Env} {pos : Pos} : ∀ {es : List PySem.Expr}, (es.all nost) = true → (backTo pos (starEach es env)).all (fun x => !x.1) = true
  | [], _ => rfl
  | e :: es, h => by
    rw [List.all_cons, Bool.and_eq_true] at h
    rw [star_cons h.1]
    show (!false && (backTo pos (starEach es env)).all (fun x => !x.1)) = true
    rw [star_len h.2]; rfl
theorem asg_cons {e : PySem.Expr} {es : List PySem.Expr} {env : Env} (h : nost e = true) : (assignEach (e :: es) env).map (·.2) = assign e env :: (assignEach es env).map (·.2) := by
  cases e <;> first | rfl | cases h
theorem chkA_star {c : Ce} : ∀ {as : Ar} {es : List PySem.Expr}, chkA c as es = true → (es.all nost) = true
  | .nil, [], _ => rfl
  | .nil, _ :: _, h => by simp [chkA] at h
  | .cons _ _, [], h => by simp [chkA] at h
  | .cons x r, e :: es, h => by
    simp only [chkA, Bool.and_eq_true] at h
    rw [List.all_cons, h.1.1, chkA_star h.2]; rfl
theorem sw_false {e : PySem.Expr} {t : Option PySem.Expr} {l : Nat} {env : Env} (h : noComp e = true) : swapsWith e t l env = pure false := by
  cases e <;> first | rfl | cases h
theorem folded_of {e : PySem.Expr} {env : Env} (h : noSet e = true) : ∀ x, foldedSetIterable e env x = pure x := by
  intro x
  cases e <;> first | rfl | cases h
theorem marks_of {op : CmpOp} {e : PySem.Expr} (h : noSet e = true) : behindInMarks op e = false := by
  cases e <;> first | rfl | cases h
theorem plainIx_of {e : PySem.Expr} (h : noSlice e = true) : PlainIx e := by
  intro o i
  cases e <;> first | rfl | cases h
theorem base_of {o : PySem.Expr} {f : Str} {env : Env} {w : Sem Value} (h : noSup o = true) : attributeBase o f env w = w := by
  cases o with
  | Call g as ks p =>
    cases g with
    | Name x q =>
      cases as with
      | nil =>
        cases ks with
        | nil => cases h
        | cons _ _ => rfl
      | cons _ _ => rfl
    | _ => rfl
  | _ => rfl
theorem isTrue_of {e : PySem.Expr} {env : Env} (h : plainT e = true) : ∀ whole, isTrue e env whole = (do let v ← whole; standAt e.pos; holding [v] (truthy v)) := by
  intro whole
  cases e with
  | UnaryOp op a p => cases op <;> first | rfl | cases h
  | BoolOp _ _ _ => cases h
  | IfExp _ _ _ _ => cases h
  | Compare _ _ _ _ => cases h
  | _ => rfl
end

/-! ### the rules -/
section
variable {X : Cx} {a b e : PySem.Expr} {pos : Pos}
theorem le_op {f : Value → Value → Sem Value} {rd : Dv → Dv → Dh → DK → Prop} {ta tb : DTE} {σ : L2.St} {H : Hp} {Q : VK} (h : liftE (bs X) (fun σ G Q => ta σ G fun x G1 => tb σ G1 fun y G2 => rd x y G2 Q) σ H Q) :
    tOp (lift2 (bs X) rd) (liftE (bs X) ta) (liftE (bs X) tb) σ H Q := by
  obtain ⟨ds, G, Qd, hS, hG, ht, w⟩ := h
  refine ⟨ds, G, _, hS, hG, ht, fun x vx G1 H1 f1 hG1 rx h1 => ?_⟩
  refine ⟨ds, G1, _, hS.keep f1.kt, hG1, h1, fun y vy G2 H2 f2 hG2 ry h2 => ?_⟩
  exact ⟨x, y, G2, Qd, rx.keep f2.kt, ry, hG2, h2, fun d v G' H' f3 hG' rd' q => w d v G' H' (f1.trans (f2.trans f3)) hG' rd' q⟩
theorem le_bin {op : Operator} {ta tb : DTE} (ha : PE X a (liftE (bs X) ta)) (hb : PE X b (liftE (bs X) tb)) : PE X (.BinOp a op b pos) (liftE (bs X) fun σ G Q => ta σ G fun x G1 => tb σ G1 fun y G2 => dBin op x y G2 Q) :=
  peI (pe_op (do_bin op) ha hb) fun σ H Q h => le_op (f := binaryOp op) h
theorem dCmp_bl {op : CmpOp} {x y : Dv} {G : Dh} {Q : DK} (h : dCmp op x y G Q) : dCmp op x y G fun d G' => (∃ b, d = .bl b) ∧ Q d G' := by
  cases op with
  | Eq => simp only [dCmp, dEq] at h ⊢; split at h <;> simp_all
  | NotEq => simp only [dCmp, dNe] at h ⊢; split at h <;> simp_all
  | Lt => simp only [dCmp] at h ⊢; cases x <;> cases y <;> simp_all [dLt]
  | LtE => simp only [dCmp] at h ⊢; cases x <;> cases y <;> simp_all [dLe]
  | Gt => simp only [dCmp] at h ⊢; cases x <;> cases y <;> simp_all [dGt]
  | GtE => simp only [dCmp] at h ⊢; cases x <;> cases y <;> simp_all [dGe]
  | Is => simp only [dCmp, dIs] at h ⊢; split at h <;> simp_all
  | IsNot => simp only [dCmp, dIsNot] at h ⊢; split at h <;> simp_all
  | In => simp only [dCmp, dIn] at h ⊢; split at h <;> simp_all
  | NotIn => simp only [dCmp, dNotIn] at h ⊢; split at h <;> simp_all
/-- the wish of a truth value -/
def lift2b (B : Bs) (t : Dv → Dv → Dh → DK → Prop) : R2 := fun x y H Q => ∃ dx dy G Qd, RepV B H dx x ∧ RepV B H dy y ∧ RepG B H G ∧ t dx dy G Qd ∧ ∀ b G' H', Frm G H G' H' → RepG B H' G' → Qd (.bl b) G' → Q (.bl b) H'
theorem do_cmpB (hr : CRoom X) (op : CmpOp) : OpR X (compareOp op) (lift2b (bs X) (dCmp op)) := by
  intro pins s σ H x y v u Q I rx ry ⟨dx, dy, G, Qd, hx, hy, hG, h, w⟩
  refine do_cmp hr op pins s σ H x y v u Q I rx ry ⟨dx, dy, G, _, hx, hy, hG, dCmp_bl h, fun d v G' H' f hG' r ⟨⟨b, e⟩, q⟩ => ?_⟩
  subst e
  obtain rfl := rBl r
  exact w b G' H' f hG' q
theorem le_cmp {op : CmpOp} {ta tb : DTE} (hr : CRoom X) (ha : PE X a (liftE (bs X) ta)) (hb : PE X b (liftE (bs X) tb)) (hm : behindInMarks op b = false) : PE X (.Compare a [op] [b] pos) (liftE (bs X) fun σ G Q => ta σ G fun x G1 => tb σ G1 fun y G2 => dCmp op x y G2 Q) :=
  peI (pe_cmpR (do_cmp hr op) ha hb hm) fun σ H Q h => le_op (f := compareOp op) h
/-- the test of a reading, from the reading -/
theorem lt_val {t : DTE} (h : PE X e (liftE (bs X) t)) (hp : plainT e = true) : PT X e (liftT (bs X) (tT t)) := by
  refine ⟨fun pins s σ H Q I ⟨ds, G, Qd, hS, hG, ht, w⟩ => ?_⟩
  refine isTrue_plain (thn (h.run pins s σ H (fun vx H1 => ∃ x G1 b, Frm G H G1 H1 ∧ RepG (bs X) H1 G1 ∧ RepV (bs X) H1 x vx ∧ truD G1 x = some b ∧ Qd b G1) I ⟨ds, G, _, hS, hG, ht, fun x vx G1 H1 f1 hG1 rx h1 => ?_⟩) fun v s1 ⟨x, H1, I1, r1, x', G1, b, f1, hG1, rx, e1, h1⟩ => do_tru I1 r1 rx hG1 e1 (w b G1 H1 f1 hG1 h1)) (isTrue_of hp _)
  split at h1
  · rename_i b e1
    exact ⟨x, G1, b, f1, hG1, rx, e1, h1⟩
  · exact h1.elim
/-- a comparison as a test -/
theorem lt_cmp {op : CmpOp} {ta tb : DTE} (hr : CRoom X) (ha : PE X a (liftE (bs X) ta)) (hb : PE X b (liftE (bs X) tb)) (hm : behindInMarks op b = false) : PT X (.Compare a [op] [b] pos) (liftT (bs X) (tT fun σ G Q => ta σ G fun x G1 => tb σ G1 fun y G2 => dCmp op x y G2 Q)) :=
  ptI (pt_cmpR (do_cmpB hr op) ha hb hm) fun σ H Q ⟨ds, G, Qd, hS, hG, ht, w⟩ => by
    refine ⟨ds, G, _, hS, hG, ht, fun x vx G1 H1 f1 hG1 rx h1 => ?_⟩
    refine ⟨ds, G1, _, hS.keep f1.kt, hG1, h1, fun y vy G2 H2 f2 hG2 ry h2 => ?_⟩
    exact ⟨x, y, G2, _, rx.keep f2.kt, ry, hG2, h2, fun b G' H' f3 hG' q => ⟨b, rfl, w b G' H' (f1.trans (f2.trans f3)) hG' q⟩⟩
def chnD (op op' : CmpOp) (ta tb tc : DTE) : DTE := fun σ G Q => ta σ G fun x G1 => tb σ G1 fun y G2 => dCmp op x y G2 fun t G3 => match t with
    | .bl u => if u = true then tc σ G3 fun z G4 => dCmp op' y z G4 Q else Q (.bl false) G3
    | _ => False
variable {d : PySem.Expr}
theorem le_chn {op op' : CmpOp} {ta tb td : DTE} (hr : CRoom X) (ha : PE X a (liftE (bs X) ta)) (hb : PE X b (liftE (bs X) tb)) (hd : PE X d (liftE (bs X) td)) (hm : noSet d = true) : PE X (.Compare a [op, op'] [b, d] pos) (liftE (bs X) (chnD op op' ta tb td)) :=
  peI (pe_chain (do_cmpB hr op) (do_cmp hr op') ha hb hd (marks_of hm)) fun σ H Q ⟨ds, G, Qd, hS, hG, ht, w⟩ => by
    refine ⟨ds, G, _, hS, hG, ht, fun x vx G1 H1 f1 hG1 rx h1 => ?_⟩
    refine ⟨ds, G1, _, hS.keep f1.kt, hG1, h1, fun y vy G2 H2 f2 hG2 ry h2 => ?_⟩
    refine ⟨x, y, G2, _, rx.keep f2.kt, ry, hG2, h2, fun b G3 H3 f3 hG3 h3 => ⟨b, rfl, ?_⟩⟩
    have h3 : (if b = true then td ds G3 fun z G4 => dCmp op' y z G4 Qd else Qd (.bl false) G3) := h3
    have k3 := f1.trans (f2.trans f3)
    split at h3
    · rw [if_pos (by assumption)]
      refine ⟨ds, G3, _, hS.keep k3.kt, hG3, h3, fun z vz G4 H4 f4 hG4 rz h4 => ?_⟩
      exact ⟨y, z, G4, Qd, ry.keep (f3.kt.trans f4.kt), rz, hG4, h4, fun d v G' H' f5 hG' r q => w d v G' H' (k3.trans (f4.trans f5)) hG' r q⟩
    · rw [if_neg (by assumption)]
      exact w _ _ G3 H3 k3 hG3 (by rw [RepV]) h3
theorem lt_chn {op op' : CmpOp} {ta tb td : DTE} (hr : CRoom X) (ha : PE X a (liftE (bs X) ta)) (hb : PE X b (liftE (bs X) tb)) (hd : PE X d (liftE (bs X) td)) (hm : noSet d = true) : PT X (.Compare a [op, op'] [b, d] pos) (liftT (bs X) (tT (chnD op op' ta tb td))) :=
  ptI (pt_chain (do_cmpB hr op) (do_cmpB hr op') ha hb hd (marks_of hm)) fun σ H Q ⟨ds, G, Qd, hS, hG, ht, w⟩ => by
    refine ⟨ds, G, _, hS, hG, ht, fun x vx G1 H1 f1 hG1 rx h1 => ?_⟩
    refine ⟨ds, G1, _, hS.keep f1.kt, hG1, h1, fun y vy G2 H2 f2 hG2 ry h2 => ?_⟩
    refine ⟨x, y, G2, _, rx.keep f2.kt, ry, hG2, h2, fun b G3 H3 f3 hG3 h3 => ⟨b, rfl, ?_⟩⟩
    have h3 : (if b = true then td ds G3 fun z G4 => dCmp op' y z G4 fun x G1 => match truD G1 x with | some b => Qd b G1 | none => False else Qd false G3) := h3
    have k3 := f1.trans (f2.trans f3)
    split at h3
    · rw [if_pos (by assumption)]
      refine ⟨ds, G3, _, hS.keep k3.kt, hG3, h3, fun z vz G4 H4 f4 hG4 rz h4 => ?_⟩
      exact ⟨y, z, G4, _, ry.keep (f3.kt.trans f4.kt), rz, hG4, h4, fun b G' H' f5 hG' q => ⟨b, rfl, w b G' H' (k3.trans (f4.trans f5)) hG' q⟩⟩
    · rw [if_neg (by assumption)]
      exact ⟨false, rfl, w false G3 H3 k3 hG3 h3⟩
/-! ### and, or, not -/
theorem truV_of {H : Hp} {x : V} {dx : Dv} {G : Dh} {b : Bool} (hx : RepV (bs X) H dx x) (hG : RepG (bs X) H G) (e : truD G dx = some b) : TruV X.K x H b := by
  cases dx with
  | non => obtain rfl := rNon hx; cases e; rfl
  | bl _ => obtain rfl := rBl hx; cases e; rfl
  | int i =>
    obtain rfl := rInt hx; cases e
    show decide (i ≠ 0) = (i != 0)
    by_cases z : i = 0 <;> simp [z]
  | tup l =>
    obtain ⟨a, vs, rfl, h1, r1⟩ := rTup hx
    cases e
    refine .inr (.inl ⟨vs, h1, ?_⟩)
    have := r1.length
    cases l <;> cases vs <;> simp_all
  | ref a =>
    obtain rfl := rRef hx
    simp only [truD] at e
    split at e
    · rename_i l e1
      cases e
      obtain ⟨vs, h1, r1⟩ := hG.lst e1
      refine .inl ⟨vs, SqL.of h1, ?_⟩
      have := r1.length
      cases l <;> cases vs <;> simp_all
    · cases e
  | str _ => cases e
def andD (ta tb : DTE) : DTE := fun σ G Q => ta σ G fun x G1 => match truD G1 x with
    | some t => if t = true then tb σ G1 Q else Q x G1
    | none => False
def orD (ta tb : DTE) : DTE := fun σ G Q => ta σ G fun x G1 => match truD G1 x with
    | some t => if t = true then Q x G1 else tb σ G1 Q
    | none => False
def notD (ta : DTE) : DTE := fun σ G Q => ta σ G fun x G1 => match truD G1 x with
    | some b => Q (.bl (!b)) G1
    | none => False
variable {rest : List PySem.Expr} {ta tb td : DTE}
theorem le_and (ha : PE X a (liftE (bs X) ta)) (hb : PE X (.BoolOp .And (b :: rest) pos) (liftE (bs X) tb)) : PE X (.BoolOp .And (a :: b :: rest) pos) (liftE (bs X) (andD ta tb)) :=
  peI (pe_andT ha hb) fun σ H Q ⟨ds, G, Qd, hS, hG, ht, w⟩ => by
    refine ⟨ds, G, _, hS, hG, ht, fun x vx G1 H1 f1 hG1 rx h1 => ?_⟩
    split at h1
    · rename_i t e
      refine ⟨t, truV_of rx hG1 e, ?_⟩
      split at h1
      · rw [if_pos (by assumption)]
        exact ⟨ds, G1, Qd, hS.keep f1.kt, hG1, h1, fun d v G' H' f2 hG' r q => w d v G' H' (f1.trans f2) hG' r q⟩
      · rw [if_neg (by assumption)]
        exact w x vx G1 H1 f1 hG1 rx h1
    · exact h1.elim
theorem le_or (ha : PE X a (liftE (bs X) ta)) (hb : PE X (.BoolOp .Or (b :: rest) pos) (liftE (bs X) tb)) : PE X (.BoolOp .Or (a :: b :: rest) pos) (liftE (bs X) (orD ta tb)) :=
  peI (pe_orT ha hb) fun σ H Q ⟨ds, G, Qd, hS, hG, ht, w⟩ => by
    refine ⟨ds, G, _, hS, hG, ht, fun x vx G1 H1 f1 hG1 rx h1 => ?_⟩
    split at h1
    · rename_i t e
      refine ⟨t, truV_of rx hG1 e, ?_⟩
      split at h1
      · rw [if_pos (by assumption)]
        exact w x vx G1 H1 f1 hG1 rx h1
      · rw [if_neg (by assumption)]
        exact ⟨ds, G1, Qd, hS.keep f1.kt, hG1, h1, fun d v G' H' f2 hG' r q => w d v G' H' (f1.trans f2) hG' r q⟩
    · exact h1.elim
theorem le_not (ha : PE X a (liftE (bs X) ta)) : PE X (.UnaryOp .Not a pos) (liftE (bs X) (notD ta)) :=
  peI (pe_notT ha) fun σ H Q ⟨ds, G, Qd, hS, hG, ht, w⟩ => by
    refine ⟨ds, G, _, hS, hG, ht, fun x vx G1 H1 f1 hG1 rx h1 => ?_⟩
    split at h1
    · rename_i t e
      exact ⟨t, truV_of rx hG1 e, w _ _ G1 H1 f1 hG1 (by rw [RepV]) h1⟩
    · exact h1.elim
theorem lt_not (ha : PT X a (liftT (bs X) (tT ta))) : PT X (.UnaryOp .Not a pos) (liftT (bs X) (tT (notD ta))) :=
  ptI (pt_not ha) fun σ H Q ⟨ds, G, Qd, hS, hG, ht, w⟩ => ⟨ds, G, fun b G1 => Qd (!b) G1, hS, hG, ht, fun b G1 H1 f1 hG1 h1 => w (!b) G1 H1 f1 hG1 h1⟩
theorem lt_and (ha : PT X a (liftT (bs X) (tT ta))) (hb : PW X (.BoolOp .And (b :: rest) pos) (liftT (bs X) (tT tb))) : PW X (.BoolOp .And (a :: b :: rest) pos) (liftT (bs X) (tT (andD ta tb))) := by
  have h := pw_and ha hb
  refine ⟨fun wh pins s σ H Q I ⟨ds, G, Qd, hS, hG, ht, w⟩ => h.run wh pins s σ H Q I ?_⟩
  have e : (fun x G1 => match truD G1 x with
    | some t => if t = true then tb ds G1 (fun x G1 => match truD G1 x with | some b => Qd b G1 | none => False) else (match truD G1 x with | some b => Qd b G1 | none => False)
    | none => False) = (fun x G1 => match truD G1 x with | some b => (if b = true then tT tb ds G1 Qd else Qd false G1) | none => False) := by
    funext x G1
    cases truD G1 x with
    | none => rfl
    | some t => cases t <;> rfl
  have ht : ta ds G (fun x G1 => match truD G1 x with
    | some t => if t = true then tb ds G1 (fun x G1 => match truD G1 x with | some b => Qd b G1 | none => False) else (match truD G1 x with | some b => Qd b G1 | none => False)
    | none => False) := ht
  rw [e] at ht
  refine ⟨ds, G, _, hS, hG, ht, fun t G1 H1 f1 hG1 h1 => ?_⟩
  split at h1
  · rw [if_pos (by assumption)]
    exact ⟨ds, G1, Qd, hS.keep f1.kt, hG1, h1, fun b G' H' f2 hG' q => w b G' H' (f1.trans f2) hG' q⟩
  · rw [if_neg (by assumption)]
    exact w false G1 H1 f1 hG1 h1
theorem lt_or (ha : PT X a (liftT (bs X) (tT ta))) (hb : PW X (.BoolOp .Or (b :: rest) pos) (liftT (bs X) (tT tb))) : PW X (.BoolOp .Or (a :: b :: rest) pos) (liftT (bs X) (tT (orD ta tb))) := by
  have h := pw_or ha hb
  refine ⟨fun wh pins s σ H Q I ⟨ds, G, Qd, hS, hG, ht, w⟩ => h.run wh pins s σ H Q I ?_⟩
  have e : (fun x G1 => match truD G1 x with
    | some t => if t = true then (match truD G1 x with | some b => Qd b G1 | none => False) else tb ds G1 (fun x G1 => match truD G1 x with | some b => Qd b G1 | none => False)
    | none => False) = (fun x G1 => match truD G1 x with | some b => (if b = true then Qd true G1 else tT tb ds G1 Qd) | none => False) := by
    funext x G1
    cases truD G1 x with
    | none => rfl
    | some t => cases t <;> rfl
  have ht : ta ds G (fun x G1 => match truD G1 x with
    | some t => if t = true then (match truD G1 x with | some b => Qd b G1 | none => False) else tb ds G1 (fun x G1 => match truD G1 x with | some b => Qd b G1 | none => False)
    | none => False) := ht
  rw [e] at ht
  refine ⟨ds, G, _, hS, hG, ht, fun t G1 H1 f1 hG1 h1 => ?_⟩
  split at h1
  · rw [if_pos (by assumption)]
    exact w true G1 H1 f1 hG1 h1
  · rw [if_neg (by assumption)]
    exact ⟨ds, G1, Qd, hS.keep f1.kt, hG1, h1, fun b G' H' f2 hG' q => w b G' H' (f1.trans f2) hG' q⟩
def ifeD (tc : DTT) (ta tb : DTE) : DTE := fun σ G Q => tc σ G fun t G1 => if t = true then ta σ G1 Q else tb σ G1 Q
theorem le_ife {tc : DTT} (hc : PT X d (liftT (bs X) tc)) (ha : PE X a (liftE (bs X) ta)) (hb : PE X b (liftE (bs X) tb)) : PE X (.IfExp d a b pos) (liftE (bs X) (ifeD tc ta tb)) :=
  peI (pe_ifExp hc ha hb) fun σ H Q ⟨ds, G, Qd, hS, hG, ht, w⟩ => by
    refine ⟨ds, G, _, hS, hG, ht, fun t G1 H1 f1 hG1 h1 => ?_⟩
    split at h1
    · rw [if_pos (by assumption)]
      exact ⟨ds, G1, Qd, hS.keep f1.kt, hG1, h1, fun d v G' H' f2 hG' r q => w d v G' H' (f1.trans f2) hG' r q⟩
    · rw [if_neg (by assumption)]
      exact ⟨ds, G1, Qd, hS.keep f1.kt, hG1, h1, fun d v G' H' f2 hG' r q => w d v G' H' (f1.trans f2) hG' r q⟩
/-- the test of a conditional expression -/
theorem lt_ife {tc : DTT} (hc : PT X d (liftT (bs X) tc)) (ha : PT X a (liftT (bs X) (tT ta))) (hb : PT X b (liftT (bs X) (tT tb))) : PT X (.IfExp d a b pos) (liftT (bs X) (tT (ifeD tc ta tb))) := by
  refine ⟨fun pins s σ H Q I ⟨ds, G, Qd, hS, hG, ht, w⟩ => ?_⟩
  show wpAny _ _ (do if ← isTrue d X.env (eval d X.env) then isTrue a X.env (eval a X.env) else isTrue b X.env (eval b X.env)) _ _ _
  refine wpAny_bind (thn (hc.run pins s σ H (fun t H1 => ∃ G1, Frm G H G1 H1 ∧ RepG (bs X) H1 G1 ∧ (if t = true then tT ta ds G1 Qd else tT tb ds G1 Qd)) I ⟨ds, G, _, hS, hG, ht, fun t G1 H1 f1 hG1 h1 => ⟨G1, f1, hG1, ?_⟩⟩) fun t s1 ⟨H1, I1, G1, f1, hG1, h1⟩ => ?_)
  · cases t <;> exact h1
  · cases t with
    | true => exact ha.run pins s1 σ H1 Q I1 ⟨ds, G1, Qd, hS.keep f1.kt, hG1, h1, fun b G' H' f2 hG' q => w b G' H' (f1.trans f2) hG' q⟩
    | false => exact hb.run pins s1 σ H1 Q I1 ⟨ds, G1, Qd, hS.keep f1.kt, hG1, h1, fun b G' H' f2 hG' q => w b G' H' (f1.trans f2) hG' q⟩
/-! ### names, constants -/
theorem le_var {c : Ce} (ok : CxOk X c) {i : Nat} {x : Str} (hi : decide (c.N[i]? = some x) = true) (hv : visB c.sc x = true) (hp : plainN x = true) : PE X (.Name x pos) (liftE (bs X) (wpE (.var i))) :=
  peI (pe_var (ok.slot hi) (ok.vis hv) (plain_d hp) (plain_c hp)) fun σ H Q ⟨ds, G, Qd, hS, hG, ht, w⟩ => by
    simp only [wpE] at ht
    split at ht
    · rename_i d e
      obtain ⟨v, e2, r⟩ := hS.2 i d e
      exact ⟨v, e2, w.here hG r ht⟩
    · exact ht.elim
theorem le_glob {c : Ce} (ok : CxOk X c) {x : Str} {d : Dv} (hg : glB c.sc x = true) (hp : plainN x = true) (h : NeedOk X (.gl x d)) : PE X (.Name x pos) (liftE (bs X) (wpE (.glob x d))) := by
  obtain ⟨u, hm, hr⟩ := h
  refine ⟨fun pins s σ H Q I ⟨ds, G, Qd, hS, hG, ht, w⟩ => ?_⟩
  obtain ⟨v, r, rv⟩ := hr H
  exact ld_glob I (ok.gl hg) hm ⟨v, H, I, rv, w.here hG r ht⟩ (plain_d hp)
/-! ### argument lists -/
variable {es : List PySem.Expr} {tr : DTA}
def consD (ta : DTE) (tr : DTA) : DTA := fun σ G Q => ta σ G fun x G1 => tr σ G1 fun l G2 => Q (x :: l) G2
theorem la_nil : PA X [] (liftA (bs X) fun _ G Q => Q [] G) := paI pa_nil fun σ H Q ⟨ds, G, Qd, hS, hG, ht, w⟩ => w [] [] G H .refl hG .nil ht
theorem la_cons (hn : nost a = true) (ha : PE X a (liftE (bs X) ta)) (hr : PA X es (liftA (bs X) tr)) : PA X (a :: es) (liftA (bs X) (consD ta tr)) :=
  paI (pa_cons ha hr (star_cons hn)) fun σ H Q ⟨ds, G, Qd, hS, hG, ht, w⟩ => by
    refine ⟨ds, G, _, hS, hG, ht, fun x vx G1 H1 f1 hG1 rx h1 => ?_⟩
    exact ⟨ds, G1, _, hS.keep f1.kt, hG1, h1, fun l vs G2 H2 f2 hG2 rl h2 => w (x :: l) (vx :: vs) G2 H2 (f1.trans f2) hG2 (.cons (rx.keep f2.kt) rl) h2⟩
theorem le_tup {k : Nat} (h : PA X es (liftA (bs X) tr)) : PE X (.Tuple es k pos) (liftE (bs X) fun σ G Q => tr σ G fun l G1 => l.length ≤ sizeLine ∧ Q (.tup l) G1) :=
  peI (pe_tup h) fun σ H Q ⟨ds, G, Qd, hS, hG, ht, w⟩ => by
    refine ⟨ds, G, _, hS, hG, ht, fun l vs G1 H1 f1 hG1 rl h1 => ⟨by rw [rl.length]; exact h1.1, fun p hp => ?_⟩⟩
    exact Wish.tup (fun d v G' H' f2 hG' r q => w d v G' H' (f1.trans f2) hG' r q) hG1 rl h1.2 hp
theorem le_lst (h : PA X es (liftA (bs X) tr)) : PE X (.List es pos) (liftE (bs X) fun σ G Q => tr σ G fun l G1 => newL l G1 Q) :=
  peI (pe_lst h) fun σ H Q ⟨ds, G, Qd, hS, hG, ht, w⟩ => by
    refine ⟨ds, G, _, hS, hG, ht, fun l vs G1 H1 f1 hG1 rl h1 => ⟨by rw [rl.length]; exact h1.1, fun p hp => ?_⟩⟩
    exact Wish.newL (fun d v G' H' f2 hG' r q => w d v G' H' (f1.trans f2) hG' r q) hG1 rl h1 hp
theorem le_neg (ha : PE X a (liftE (bs X) ta)) : PE X (.UnaryOp .USub a pos) (liftE (bs X) fun σ G Q => ta σ G fun x G1 => match x with | .int i => Q (.int (-i)) G1 | _ => False) :=
  peI (pe_un un_neg ha) fun σ H Q ⟨ds, G, Qd, hS, hG, ht, w⟩ => by
    refine ⟨ds, G, _, hS, hG, ht, fun x vx G1 H1 f1 hG1 rx h1 => ?_⟩
    cases x with
    | int i => obtain rfl := rInt rx; exact ⟨i, rfl, w _ _ G1 H1 f1 hG1 (by rw [RepV]) h1⟩
    | _ => exact h1.elim
theorem le_ix (hr : CRoom X) (ha : PE X a (liftE (bs X) ta)) (hb : PE X b (liftE (bs X) tb)) (hn : noSlice b = true) : PE X (.Subscript a b pos) (liftE (bs X) fun σ G Q => ta σ G fun x G1 => tb σ G1 fun y G2 => dIx x y G2 Q) :=
  peI (pe_ix (do_ix hr) ha hb (plainIx_of hn)) fun σ H Q h => le_op (f := fun _ _ => pure .none) h
/-- parts of a slice -/
abbrev DTO := DSt → Dh → (Option Int → Dh → Prop) → Prop
def liftO (B : Bs) (t : DTO) : TO := fun σ H Q => ∃ ds G Qd, RepS B H ds σ ∧ RepG B H G ∧ t ds G Qd ∧ ∀ i G' H', Frm G H G' H' → RepG B H' G' → Qd i G' → Q i H'
theorem poI {o : Option PySem.Expr} {t t' : TO} (h : PO X o t) (i : ∀ σ H Q, t' σ H Q → t σ H Q) : PO X o t' := ⟨fun pins s σ H Q I q => h.run pins s σ H Q I (i σ H Q q)⟩
theorem lo_no : PO X none (liftO (bs X) fun _ G Q => Q none G) := poI po_none fun σ H Q ⟨ds, G, Qd, hS, hG, ht, w⟩ => w none G H .refl hG ht
theorem lo_yes (ha : PE X a (liftE (bs X) ta)) : PO X (some a) (liftO (bs X) fun σ G Q => ta σ G fun x G1 => match x with | .int i => Q (some i) G1 | _ => False) :=
  poI (po_some ha) fun σ H Q ⟨ds, G, Qd, hS, hG, ht, w⟩ => by
    refine ⟨ds, G, _, hS, hG, ht, fun x vx G1 H1 f1 hG1 rx h1 => ?_⟩
    cases x with
    | int i => obtain rfl := rInt rx; exact ⟨i, rfl, w (some i) G1 H1 f1 hG1 h1⟩
    | _ => exact h1.elim
theorem le_sl {l h : Option PySem.Expr} {tl th : DTO} {p2 : Pos} (ha : PE X a (liftE (bs X) ta)) (hl : PO X l (liftO (bs X) tl)) (hh : PO X h (liftO (bs X) th)) : PE X (.Subscript a (.Slice l h none p2) pos) (liftE (bs X) fun σ G Q => ta σ G fun x G1 => tl σ G1 fun i G2 => th σ G2 fun j G3 => dSl x i j G3 Q) :=
  peI (pe_slice do_sl ha hl hh) fun σ H Q ⟨ds, G, Qd, hS, hG, ht, w⟩ => by
    refine ⟨ds, G, _, hS, hG, ht, fun x vx G1 H1 f1 hG1 rx h1 => ?_⟩
    refine ⟨ds, G1, _, hS.keep f1.kt, hG1, h1, fun i G2 H2 f2 hG2 h2 => ?_⟩
    refine ⟨ds, G2, _, hS.keep (f1.kt.trans f2.kt), hG2, h2, fun j G3 H3 f3 hG3 h3 => ?_⟩
    exact ⟨x, G3, Qd, rx.keep (f2.kt.trans f3.kt), hG3, h3, fun d v G' H' f4 hG' r q => w d v G' H' (f1.trans (f2.trans (f3.trans f4))) hG' r q⟩
/-! ### calls -/
theorem lc_all {rd : List Dv → Dh → DK → Prop} {σ : L2.St} {H : Hp} {Q : VK} (h : liftE (bs X) (fun σ G Q => tr σ G fun l G1 => rd l G1 Q) σ H Q) : (liftA (bs X) tr) σ H fun vs H1 => liftC (bs X) rd vs H1 Q := by
  obtain ⟨ds, G, Qd, hS, hG, ht, w⟩ := h
  refine ⟨ds, G, _, hS, hG, ht, fun l vs G1 H1 f1 hG1 rl h1 => ?_⟩
  exact ⟨l, G1, Qd, rl, hG1, h1, fun d v G' H' f2 hG' r q => w d v G' H' (f1.trans f2) hG' r q⟩
theorem le_call {c : Ce} (ok : CxOk X c) {f : Str} {sp : DSp} {p : Pos} (hg : glB c.sc f = true) (hp : plainN f = true) (hs : ((a :: es).all nost) = true) (hf : FnD X f sp) (h : PA X (a :: es) (liftA (bs X) tr)) : PE X (.Call (.Name f p) (a :: es) [] pos) (liftE (bs X) fun σ G Q => tr σ G fun l G1 => sp l G1 Q) := by
  obtain ⟨fa, fd, ps, k, F, hm, hk, hb, hr⟩ := hf
  rw [List.all_cons, Bool.and_eq_true] at hs
  refine peI (pe_call F hr (ok.gl hg) hm hk hb .nil L2.pass0 h (plain_d hp) (star_cons hs.1) (star_any hs.2)) fun σ H Q q => ?_
  obtain ⟨ds, G, Qd, hS, hG, ht, w⟩ := lc_all q
  exact ⟨ds, G, Qd, hS, hG, ht, fun l vs G1 H1 f1 hG1 rl h1 => by
    show liftC (bs X) sp (vs ++ []) H1 Q
    rw [List.append_nil]; exact w l vs G1 H1 f1 hG1 rl h1⟩
theorem le_call0 {c : Ce} (ok : CxOk X c) {f : Str} {sp : DSp} {p : Pos} (hg : glB c.sc f = true) (hp : plainN f = true) (hf : FnD X f sp) : PE X (.Call (.Name f p) [] [] pos) (liftE (bs X) fun σ G Q => sp [] G Q) := by
  obtain ⟨fa, fd, ps, k, F, hm, hk, hb, hr⟩ := hf
  refine peI (pe_call0 F hr (ok.gl hg) hm hk hb .nil L2.pass0 (plain_d hp)) fun σ H Q ⟨ds, G, Qd, hS, hG, ht, w⟩ => ?_
  exact ⟨[], G, Qd, .nil, hG, ht, w⟩
theorem le_bi {c : Ce} (ok : CxOk X c) {f : Str} {rd : List Dv → Dh → DK → Prop} {u : Value} {p : Pos} (hc : (∃ id, u = .builtin id) ∨ ∃ t, u = .type t) (hr : CallR X u (liftC (bs X) rd)) (hv : bootBuiltins f = some u) (hm : X.mg f = none) (hg : glB c.sc f = true) (hp : plainN f = true) (hs : ((a :: es).all nost) = true)
    (h : PA X (a :: es) (liftA (bs X) tr)) : PE X (.Call (.Name f p) (a :: es) [] pos) (liftE (bs X) fun σ G Q => tr σ G fun l G1 => rd l G1 Q) := by
  rw [List.all_cons, Bool.and_eq_true] at hs
  rcases hc with ⟨id, rfl⟩ | ⟨id, rfl⟩
  · exact peI (pe_callB hr (ok.gl hg) hm hv h (plain_n hp) (plain_d hp) (star_cons hs.1) (star_any hs.2)) fun σ H Q q => lc_all q
  · exact peI (pe_callTy hr (ok.gl hg) hm hv h (plain_n hp) (plain_d hp) (star_cons hs.1) (star_any hs.2)) fun σ H Q q => lc_all q
/-- isinstance(x, T) -/
theorem le_isi {c : Ce} (ok : CxOk X c) {t : Str} {T : String} {f : Kd → Bool} {p p2 : Pos} (hf : ∀ k, k ≠ .ins → kitB (kdT k) T = some (f k)) (hv : bootBuiltins t = some (.type T)) (hm : X.mg "isinstance" = none) (hm2 : X.mg t = none) (hg : glB c.sc "isinstance" = true) (hg2 : glB c.sc t = true) (hp : plainN t = true)
    (hn : nost a = true) (h : PE X a (liftE (bs X) ta)) : PE X (.Call (.Name "isinstance" p) [a, .Name t p2] [] pos) (liftE (bs X) fun σ G Q => ta σ G fun x G1 => dIsi f x G1 Q) := by
  have h2 : PE X (.Name t p2) (tC (.ty T)) := pe_bltn (ok.gl hg2) hm2 hv rfl (plain_n hp) (plain_d hp)
  have hc : CallR X (.builtin "isinstance") (fun xs H Q => ∃ x d G Qd, xs = [x, .ty T] ∧ RepV (bs X) H d x ∧ RepG (bs X) H G ∧ dIsi f d G Qd ∧ Wish (bs X) G H Qd Q) := by
    intro pins s σ H xs us Q I r ⟨x, d, G, Qd, e, hx, hG, hd, w⟩
    subst e
    exact cd_isi hf I r hx hG hd w
  refine peI (pe_callB hc (ok.gl hg) hm (by decide +kernel) (pa_cons h (pa_cons h2 pa_nil) (star_cons hn)) (by decide) (by decide) (star_cons hn)) fun σ H Q ⟨ds, G, Qd, hS, hG, ht, w⟩ => ?_
  refine ⟨ds, G, _, hS, hG, ht, fun x vx G1 H1 f1 hG1 rx h1 => ?_⟩
  exact ⟨vx, x, G1, Qd, rfl, rx, hG1, h1, fun d v G' H' f2 hG' r q => w d v G' H' (f1.trans f2) hG' r q⟩

/-! ### methods -/
structure MthOk (X : Cx) (m : Mt) (k : Kd) (T id : String) : Prop where
  pa : PlainAttrs T
  slot : Slot T (mtName m) id
  ty : typeOf (.builtin id) = pure (.type "method_descriptor")
  rule : MtM X id (liftM (bs X) fun x l G Q => kdD G x = some k ∧ dMt m x l G Q)
  is : ∀ (pins : List (Addr × Obj)) (s : Shared) (σ : L2.St) (H : Hp) (G : Dh) (d : Dv) (x : V) (v : Value), Inv X pins σ H s → RepG (bs X) H G → RepV (bs X) H d x → RelV x v → kdD G d = some k → s.TypeIs v T ∧ ∀ a, v = .ref a → ∃ ob, s.heap.get? a = some ob ∧ ob.dict = none
theorem is_lst {pins : List (Addr × Obj)} {s : Shared} {σ : L2.St} {H : Hp} {G : Dh} {d : Dv} {x : V} {v : Value} (I : Inv X pins σ H s) (hG : RepG (bs X) H G) (hx : RepV (bs X) H d x) (r : RelV x v) (e : kdD G d = some .lst) : s.TypeIs v "list" ∧ ∀ a, v = .ref a → ∃ ob, s.heap.get? a = some ob ∧ ob.dict = none := by
  cases d with
  | ref a =>
    obtain rfl := rRef hx
    simp only [kdD] at e
    split at e
    · rename_i l e1
      obtain ⟨vs, h1, r1⟩ := hG.lst e1
      exact tyV_is I r (.inl ⟨rfl, vs, SqL.of h1⟩)
    · cases e
    · cases e
  | _ => cases e
theorem mtM_kd {m : Mt} {k : Kd} {id : String} (h : MtM X id (liftM (bs X) (dMt m))) : MtM X id (liftM (bs X) fun x l G Q => kdD G x = some k ∧ dMt m x l G Q) :=
  fun pins s σ H x xs v us Q I rx rs ⟨d, l, G, Qd, hx, hl, hG, hd, w⟩ => h pins s σ H x xs v us Q I rx rs ⟨d, l, G, Qd, hx, hl, hG, hd.2, w⟩
theorem mth_ok {m : Mt} {k : Kd} (h : mtOk m k = true) : ∃ T id, MthOk X m k T id := by
  cases m <;> cases k <;> first
    | exact ⟨_, _, PySem.F.plainAttrs_list, PySem.F.slot_list_append, PySem.F.type_list_append, mtM_kd cm_append, fun _ _ _ _ _ _ _ _ I hG hx r e => is_lst I hG hx r e⟩
    | exact ⟨_, _, PySem.F.plainAttrs_list, PySem.F.slot_list_extend, PySem.F.type_list_extend, mtM_kd cm_extend, fun _ _ _ _ _ _ _ _ I hG hx r e => is_lst I hG hx r e⟩
    | exact ⟨_, _, PySem.F.plainAttrs_list, PySem.F.slot_list_pop, PySem.F.type_list_pop, mtM_kd cm_pop, fun _ _ _ _ _ _ _ _ I hG hx r e => is_lst I hG hx r e⟩
    | exact absurd h Bool.false_ne_true
theorem le_mth {m : Mt} {ap : Pos} (hl : (ap.endLine == pos.line) = true) (hn : noSup a = true) (hlen : es.length < 4) (hne : es ≠ []) (hs : (es.all nost) = true) (ha : PE X a (liftE (bs X) ta)) (h : PA X es (liftA (bs X) tr)) :
    PE X (.Call (.Attribute a (mtName m) ap) es [] pos) (liftE (bs X) fun σ G Q => ta σ G fun x G1 => ∃ k, kdD G1 x = some k ∧ mtOk m k = true ∧ tr σ G1 fun l G2 => kdD G2 x = some k ∧ dMt m x l G2 Q) := by
  refine ⟨fun pins s σ H Q I ⟨ds, G, Qd, hS, hG, ht, w⟩ => ?_⟩
  have few : ((backTo pos (starEach es X.env)).all (fun x => !x.1) && (backToKw pos (keywordEach [] X.env)).all (fun x => x.1.isSome)
      && decide (es.length + ([] : List Keyword).length + (if ([] : List Keyword).isEmpty then 0 else 1) < 30)) = true := by
    rw [star_len hs]
    have : es.length + ([] : List Keyword).length + (if ([] : List Keyword).isEmpty then 0 else 1) < 30 := by
      simp only [List.length_nil, List.isEmpty_nil, if_true]; omega
    rw [decide_eq_true this]
    rfl
  refine wpAny_Call_method_late (base_of hn) few hl rfl (thn (ha.run pins s σ H (fun vx H1 => ∃ x G1 k, Frm G H G1 H1 ∧ RepG (bs X) H1 G1 ∧ RepV (bs X) H1 x vx ∧ kdD G1 x = some k ∧ mtOk m k = true ∧ tr ds G1 fun l G2 => kdD G2 x = some k ∧ dMt m x l G2 Qd) I
    ⟨ds, G, _, hS, hG, ht, fun x vx G1 H1 f1 hG1 rx ⟨k, e1, e2, h1⟩ => ⟨x, G1, k, f1, hG1, rx, e1, e2, h1⟩⟩) fun v s1 ⟨vx, H1, I1, r1, x, G1, k, f1, hG1, rx, e1, e2, h1⟩ => ?_)
  obtain ⟨T, id, M⟩ := mth_ok (X := X) e2
  obtain ⟨t1, t2⟩ := M.is pins s1 σ H1 G1 x vx v I1 hG1 rx r1 e1
  refine ⟨T, id, M.pa, M.slot, M.ty, t1, t2, ?_⟩
  have hA := h.run pos pins s1 σ H1 (fun vs H2 => ∃ l G2, Frm G H G2 H2 ∧ RepG (bs X) H2 G2 ∧ RepV (bs X) H2 x vx ∧ RepL (bs X) H2 l vs ∧ kdD G2 x = some k ∧ dMt m x l G2 Qd) I1
    ⟨ds, G1, _, hS.keep f1.kt, hG1, h1, fun l vs G2 H2 f2 hG2 rl h2 => ⟨l, G2, f1.trans f2, hG2, rx.keep f2.kt, rl, h2⟩⟩
  have fin : ∀ us s2, AP X pins σ (fun vs H2 => ∃ l G2, Frm G H G2 H2 ∧ RepG (bs X) H2 G2 ∧ RepV (bs X) H2 x vx ∧ RepL (bs X) H2 l vs ∧ kdD G2 x = some k ∧ dMt m x l G2 Qd) us s2 → wpAny (model X.prog X.w) X.A (call (.builtin id) (v :: us)) (EP X pins σ Q) X.xe s2 :=
    fun us s2 ⟨vs, H2, I2, r2, l, G2, f2, hG2, rx2, rl, e3, h2⟩ => M.rule pins s2 σ H2 vx vs v us Q I2 r1 r2 ⟨x, l, G2, Qd, rx2, rl, hG2, ⟨e3, h2⟩, fun d v G' H' f3 hG' r q => w d v G' H' (f2.trans f3) hG' r q⟩
  cases es with
  | nil => exact absurd rfl hne
  | cons e es =>
    rw [List.all_cons, Bool.and_eq_true] at hs
    rw [star_cons hs.1] at hA ⊢
    refine Calls.callWith_builtin (by show (false || (backTo pos (starEach es X.env)).any (·.1)) = false; rw [star_any hs.2] <;> rfl) (Calls.evalArgs_plain ?_)
    exact thn hA fun us s2 q => fin us s2 q
theorem le_mth0 {m : Mt} {ap : Pos} (hl : (ap.endLine == pos.line) = true) (hn : noSup a = true) (ha : PE X a (liftE (bs X) ta)) :
    PE X (.Call (.Attribute a (mtName m) ap) [] [] pos) (liftE (bs X) fun σ G Q => ta σ G fun x G1 => ∃ k, kdD G1 x = some k ∧ mtOk m k = true ∧ (kdD G1 x = some k ∧ dMt m x [] G1 Q)) := by
  refine ⟨fun pins s σ H Q I ⟨ds, G, Qd, hS, hG, ht, w⟩ => ?_⟩
  refine wpAny_Call_method0_late (base_of hn) hl (thn (ha.run pins s σ H (fun vx H1 => ∃ x G1 k, Frm G H G1 H1 ∧ RepG (bs X) H1 G1 ∧ RepV (bs X) H1 x vx ∧ kdD G1 x = some k ∧ mtOk m k = true ∧ dMt m x [] G1 Qd) I
    ⟨ds, G, _, hS, hG, ht, fun x vx G1 H1 f1 hG1 rx ⟨k, e1, e2, h1⟩ => ⟨x, G1, k, f1, hG1, rx, e1, e2, h1.2⟩⟩) fun v s1 ⟨vx, H1, I1, r1, x, G1, k, f1, hG1, rx, e1, e2, h1⟩ => ?_)
  obtain ⟨T, id, M⟩ := mth_ok (X := X) e2
  obtain ⟨t1, t2⟩ := M.is pins s1 σ H1 G1 x vx v I1 hG1 rx r1 e1
  refine ⟨T, id, M.pa, M.slot, M.ty, t1, t2, ?_⟩
  refine Calls.callWith_builtin rfl (PySem.evalArgs_none ?_)
  exact M.rule pins s1 σ H1 vx [] v [] Q I1 r1 .nil ⟨x, [], G1, Qd, rx, .nil, hG1, ⟨e1, h1⟩, fun d v G' H' f3 hG' r q => w d v G' H' (f1.trans f3) hG' r q⟩
end
end BD

/-! BD9: targets, what is walked, comprehensions; the checker's word is sound for expressions. -/
namespace BD
open PySem PySem.Spec PyProof.Rows L2

/-! ### targets -/
/-- σ' is σ but for the slots vs -/
def SlotB (vs : List Nat) (σ σ' : L2.St) : Prop := ∀ ws : List Nat, (∀ i ∈ vs, i ∈ ws) → wipe σ' ws = wipe σ ws
theorem wipe_set {i : Nat} {v : Option V} : ∀ {ws : List Nat} {σ : L2.St}, i ∈ ws → wipe (σ.set i v) ws = wipe σ ws
  | [], _, h => by cases h
  | w :: ws, σ, h => by
    unfold wipe
    by_cases e : i = w
    · subst e
      by_cases hi : i ∈ ws
      · rw [wipe_set hi]
      · have : ∀ (ws : List Nat) (σ : L2.St), i ∉ ws → wipe (σ.set i v) ws = (wipe σ ws).set i v := by
          intro ws
          induction ws with
          | nil => intro σ _; rfl
          | cons u us ih =>
            intro σ hu
            unfold wipe
            rw [List.mem_cons, not_or] at hu
            rw [ih σ hu.2, List.set_comm _ _ hu.1]
        rw [this ws σ hi, List.set_set]
    · rcases List.mem_cons.mp h with h | h
      · exact absurd h e
      · rw [wipe_set h]
theorem SlotB.refl {vs : List Nat} {σ : L2.St} : SlotB vs σ σ := fun _ _ => rfl
theorem SlotB.trans {vs us : List Nat} {σ σ1 σ2 : L2.St} (a : SlotB vs σ σ1) (b : SlotB us σ1 σ2) : SlotB (vs ++ us) σ σ2 := fun ws h => (b ws fun i hi => h i (List.mem_append_right _ hi)).trans (a ws fun i hi => h i (List.mem_append_left _ hi))
theorem wipe_wipe {σ : L2.St} {vs : List Nat} : wipe (wipe σ vs) vs = wipe σ vs := by
  have : ∀ (ws vs : List Nat), (∀ i ∈ ws, i ∈ vs) → wipe (wipe σ ws) vs = wipe σ vs := by
    intro ws
    induction ws with
    | nil => intro vs _; rfl
    | cons w ws ih =>
      intro vs h
      show wipe ((wipe σ ws).set w none) vs = _
      rw [wipe_set (h w List.mem_cons_self)]
      exact ih vs fun i hi => h i (List.mem_cons_of_mem _ hi)
  exact this vs vs fun i hi => hi
def liftG (B : Bs) (tg : Tg) : TG := fun v σ H Q => ∃ d ds ds', RepV B H d v ∧ RepS B H ds σ ∧ asgT tg d ds = some ds' ∧ ∀ σ', RepS B H ds' σ' → SlotB (tgS tg) σ σ' → Q σ' H
def liftGs (B : Bs) (l : List Tg) : TGs := fun vs σ H Q => ∃ ds dst ds', RepL B H ds vs ∧ RepS B H dst σ ∧ asgTs l ds dst = some ds' ∧ ∀ σ', RepS B H ds' σ' → SlotB (tgsS l) σ σ' → Q σ' H
section
variable {X : Cx} {c : Ce}
theorem pgI {e : PySem.Expr} {t t' : TG} (h : PG X e t) (i : ∀ v σ H Q, t' v σ H Q → t v σ H Q) : PG X e t' := ⟨fun pins s σ H v u Q I r q => h.run pins s σ H v u Q I r (i v σ H Q q)⟩
theorem pgsI {e : List PySem.Expr} {t t' : TGs} (h : PGs X e t) (i : ∀ v σ H Q, t' v σ H Q → t v σ H Q) : PGs X e t' := ⟨fun pins s σ H v u Q I r q => h.run pins s σ H v u Q I r (i v σ H Q q)⟩
theorem asgE_len {env : Env} : ∀ {c : Ce} {l : List Tg} {es : List PySem.Expr}, chkTgs c l es = true → (assignEach es env).length = l.length ∧ (assignEach es env).findIdx? (·.1) = none
  | _, [], [], _ => ⟨rfl, rfl⟩
  | _, [], _ :: _, h => by simp [chkTgs] at h
  | _, _ :: _, [], h => by simp [chkTgs] at h
  | c, t :: l, e :: es, h => by
    simp only [chkTgs, Bool.and_eq_true] at h
    obtain ⟨h1, h2⟩ := asgE_len (env := env) h.2
    have e1 : assignEach (e :: es) env = (false, assign e env) :: assignEach es env := by
      have := h.1.1
      cases e <;> first | rfl | cases this
    rw [e1]
    exact ⟨by simp [h1], by rw [List.findIdx?_cons]; simp [h2]⟩
mutual
theorem lg (ok : CxOk X c) : ∀ (tg : Tg) (e : PySem.Expr), chkTg c tg e = true → PG X e (liftG (bs X) tg)
  | .nm i, e, h => by
    cases e with
    | Name x p =>
      simp only [chkTg, Bool.and_eq_true] at h
      obtain ⟨l1, l2⟩ := ok.loc h.2
      refine pgI (pg_name ok.nd (ok.slot h.1) l1 l2) fun v σ H Q ⟨d, ds, ds', hv, hS, ha, q⟩ => ?_
      rw [asgT] at ha
      cases ha
      exact q _ (hS.set hv) fun ws hw => wipe_set (hw i (by simp [tgS]))
    | _ => exact absurd (show false = true from h) Bool.false_ne_true
  | .tp l, e, h => by
    cases e with
    | Tuple es k p =>
      simp only [chkTg] at h
      obtain ⟨h1, h2⟩ := asgE_len (env := X.env) h
      refine pgI (pg_tup ok.calm (lgs ok l es h) h1 h2) fun v σ H Q ⟨d, ds, ds', hv, hS, ha, q⟩ => ?_
      cases d with
      | tup dl =>
        rw [asgT] at ha
        obtain ⟨a, vs, rfl, hs, hl⟩ := rTup hv
        refine ⟨a, vs, rfl, hs, ?_, ⟨dl, ds, ds', hl, hS, ha, fun σ' hS' hb => q σ' hS' (by rw [tgS]; exact hb)⟩⟩
        have : ∀ (l : List Tg) (dl : List Dv) (ds : DSt), asgTs l dl ds = some ds' → dl.length = l.length := by
          intro l
          induction l with
          | nil => intro dl ds e; cases dl with
            | nil => rfl
            | cons _ _ => simp [asgTs] at e
          | cons t l ih => intro dl ds e; cases dl with
            | nil => simp [asgTs] at e
            | cons d dl =>
              simp only [asgTs] at e
              split at e
              · simp [ih dl _ e]
              · cases e
        rw [hl.length]
        exact this l dl ds ha
      | _ => simp [asgT] at ha
    | _ => exact absurd (show false = true from h) Bool.false_ne_true
theorem lgs (ok : CxOk X c) : ∀ (l : List Tg) (es : List PySem.Expr), chkTgs c l es = true → PGs X es (liftGs (bs X) l)
  | [], es, h => by
    cases es with
    | nil =>
      refine pgsI pgs_nil fun vs σ H Q ⟨ds, dst, ds', hv, hS, ha, q⟩ => ?_
      cases ds with
      | nil =>
        rw [asgTs] at ha; cases ha
        rw [RepL] at hv
        exact ⟨hv, q σ hS .refl⟩
      | cons _ _ => simp [asgTs] at ha
    | cons _ _ => simp [chkTgs] at h
  | t :: l, es, h => by
    cases es with
    | nil => simp [chkTgs] at h
    | cons e es =>
      simp only [chkTgs, Bool.and_eq_true] at h
      refine pgsI (pgs_cons (lg ok t e h.1.2) (lgs ok l es h.2) (asg_cons h.1.1)) fun vs σ H Q ⟨ds, dst, ds', hv, hS, ha, q⟩ => ?_
      cases ds with
      | nil => simp [asgTs] at ha
      | cons d ds =>
        simp only [asgTs] at ha
        rw [RepL] at hv
        obtain ⟨v, r, rfl, h1, h2⟩ := hv
        split at ha
        · rename_i d1 e1
          exact ⟨v, r, rfl, ⟨d, dst, d1, h1, hS, e1, fun σ' hS' b1 => ⟨ds, d1, ds', h2, hS', ha, fun σ2 hS2 b2 => q σ2 hS2 (by rw [tgsS]; exact b1.trans b2)⟩⟩⟩
        · cases ha
end
end

/-! ### what is walked -/
structure JOk (B : Bs) (H0 : Hp) (J : L2.It) (items : List Dv) (stay : Dh → Prop) : Prop where
  go : ∀ i G H, KeepT H0 H → RepG B H G → stay G → i < items.length → J.go i H
  stop : ∀ i G H, KeepT H0 H → RepG B H G → stay G → items.length ≤ i → J.stop i H
  yld : ∀ i G H x Hn, KeepT H0 H → RepG B H G → stay G → i < items.length → J.yld i H x Hn → ∃ d, items[i]? = some d ∧ RepV B Hn d x ∧ Frm G H G Hn ∧ RepG B Hn G
def liftI (B : Bs) (t : DTI) : TI := fun σ H R => ∃ ds G Rd, RepS B H ds σ ∧ RepG B H G ∧ t ds G Rd ∧ ∀ J items stay G' H', Frm G H G' H' → RepG B H' G' → Rd items stay G' → JOk B H' J items stay → R J H'
section
variable {B : Bs} {H0 : Hp}
theorem jok_list {a : Addr} {l : List Dv} {f : List Dv → Do} (hf : f = .lst ∨ f = .fls) : JOk B H0 (Itl B.K a) l (fun G => G a = some (f l)) := by
  have key : ∀ {G : Dh} {H : Hp}, RepG B H G → G a = some (f l) → ∃ vs, SqL B.K H a vs ∧ RepL B H l vs := by
    intro G H hG e
    rcases hf with rfl | rfl
    · obtain ⟨vs, h1, r⟩ := hG.lst e; exact ⟨vs, SqL.of h1, r⟩
    · obtain ⟨vs, h1, r⟩ := hG.fls e; exact ⟨vs, .inl h1, r⟩
  refine ⟨fun i G H _ hG e hi => ?_, fun i G H _ hG e hi => ?_, fun i G H x Hn _ hG e hi ⟨e1, hy⟩ => ?_⟩
  · obtain ⟨vs, h1, r⟩ := key hG e
    obtain ⟨v, e1, _⟩ := r.get (List.getElem?_eq_getElem hi)
    exact ⟨vs, v, h1, e1⟩
  · obtain ⟨vs, h1, r⟩ := key hG e
    exact ⟨vs, h1, by rw [r.length]; exact hi⟩
  · subst e1
    obtain ⟨vs, h1, r⟩ := key hG e
    obtain ⟨v, e2, rv⟩ := r.get (List.getElem?_eq_getElem hi)
    have := hy vs h1
    rw [e2] at this; cases this
    exact ⟨_, List.getElem?_eq_getElem hi, rv, .refl, hG⟩
theorem jok_tup {a : Addr} {l : List Dv} {vs : List V} (hs : SqT B.K H0 a vs) (r : RepL B H0 l vs) : JOk B H0 (Itt B.K a) l (fun _ => True) := by
  refine ⟨fun i G H k hG e hi => ?_, fun i G H k hG e hi => ?_, fun i G H x Hn k hG e hi ⟨e1, hy⟩ => ?_⟩
  · obtain ⟨v, e1, _⟩ := r.get (List.getElem?_eq_getElem hi)
    exact ⟨vs, v, sqT_keep hs k, e1⟩
  · exact ⟨vs, sqT_keep hs k, by rw [r.length]; exact hi⟩
  · subst e1
    obtain ⟨v, e2, rv⟩ := r.get (List.getElem?_eq_getElem hi)
    have := hy vs (sqT_keep hs k)
    rw [e2] at this; cases this
    exact ⟨_, List.getElem?_eq_getElem hi, rv.keep k, .refl, hG⟩
theorem jok_rng {lo hi : Int} : JOk B H0 (Itr lo (hi - lo).toNat) (rngD lo hi) (fun _ => True) := by
  have hl : (rngD lo hi).length = (hi - lo).toNat := by simp [rngD]
  refine ⟨fun i G H k hG e hi => by rw [hl] at hi; exact hi, fun i G H k hG e hi => by rw [hl] at hi; exact hi, fun i G H x Hn k hG e hi ⟨e1, hy⟩ => ?_⟩
  subst e1 hy
  rw [hl] at hi
  exact ⟨.int (lo + i), by simp [rngD, hi], by rw [RepV], .refl, hG⟩
end
/-- the keys of the dict at d, as its entries stand -/
def Itq (d : Addr) (r : Raw) : L2.It :=
  ⟨fun i H => H d = some (exD d r) ∧ ∃ (h : i < r.1.size) (x : V), RelV x r.1[i].key, fun i H x H' => H' = H ∧ ∃ h : i < r.1.size, RelV x r.1[i].key, fun i H => H d = some (exD d r) ∧ r.1.size ≤ i⟩
theorem dic_raw {X : Cx} {pins : List (Addr × Obj)} {σ : L2.St} {H : Hp} {s : Shared} {d : Addr} {r : Raw} (I : Inv X pins σ H s) (h : H d = some (exD d r)) : s.heap.DictRaw d r.1 r.2 := (I.hok _ _ h).1
theorem turn_raw {P : Program} {w : World} {K : PySem.W.Frag} {tg : PySem.Expr} {d : Addr} {r : Raw} (it : Addr) : Turn P w K tg (Itq d r) [it] it (fun i h => h.IsKeyIter it d i r.1.size r.2) where
  mem := by simp
  obj := fun i h st b hb => by
    have e : b = it := by simpa using hb
    subst e
    obtain ⟨oi, e, c, dd⟩ := st
    exact ⟨oi, e, fun v z => by rw [dd] at z; cases z⟩
  keep := fun i h h' st k => st.at fun oi e => k it (by simp) oi e
  item := by
    intro X hP hw hK hc i pins s σ H E I hf st hg
    subst hP hw hK
    obtain ⟨hd, hi, x, rx⟩ := hg
    obtain ⟨f0, f1, f2, f3, f4, f5⟩ := hf it (by simp)
    obtain ⟨o, hgd, hx, hdt⟩ := dic_raw I hd
    refine next_key_item st hgd hdt rfl (Array.getElem?_eq_getElem hi) fun h' st' sb => ?_
    have I1 : Inv X pins σ H { s with heap := h' } := I.turned (t' := s.toks) (fun b ob hb e => (sb.2 b hb).trans e) f0 f1 f3 f4 f5
    obtain ⟨oi, e, c, dd⟩ := id st'
    exact ⟨r.1[i].key, rfl, go_of (s := { s with heap := h' }) e c dd (by decide) ⟨x, H, I1, rx, ⟨rfl, hi, rx⟩, st', fun b hb => (hf b hb).1⟩⟩
  done := by
    intro X hP hw hK hc i pins s σ H E I hf st hg
    subst hP hw hK
    obtain ⟨hd, hi⟩ := hg
    obtain ⟨f0, f1, f2, f3, f4, f5⟩ := hf it (by simp)
    obtain ⟨o, hgd, hx, hdt⟩ := dic_raw I hd
    exact next_key_end (I.ok.hd hc) st hgd hdt rfl hi fun h' eb => ⟨rfl, I.turned (t' := s.toks) (fun b ob hb e => eb b ob hb e) f0 f1 f3 f4 f5⟩
  self := fun A i s Q E st h => by
    refine wpAny_pyIter_slot st.typeIs F.slot_dict_keyiterator_iter (wpAny_call_entry F.slot_dict_keyiterator_iter st.typeIs F.entry_dict_keyiterator_iter ?_ (F.args_dict_keyiterator_iter_1 _))
    show wpAny _ _ (ret (.ref it)) _ _ s
    exact wpAny_pure ⟨_, rfl, "dict_keyiterator", _, st.typeIs, F.slot_dict_keyiterator_next.lookup, h⟩
section
variable {B : Bs} {H0 : Hp}
theorem dt_keys {H : Hp} {r : Raw} {l : List (Dv × Dv)} (h : RepDL B H r l ∨ RepDT B H r l) (ht : (l.all fun p => isTup p.1) = true) : r.1.size = l.length ∧ ∀ (i : Nat) (p : Dv × Dv), l[i]? = some p → ∃ (hi : i < r.1.size) (b : Addr), r.1[i].key = .ref b ∧ RepV B H p.1 (.ref b) := by
  rcases h with ⟨lvs, h1, h2, h3, h4⟩ | ⟨xs, h1, h2, h3⟩
  · cases h4 with
    | nil =>
      cases r with
      | mk es ep =>
        obtain ⟨es⟩ := es
        cases h2
        exact ⟨rfl, fun i p e => by simp at e⟩
    | @cons p q _ _ h _ =>
      simp only [List.all_cons, Bool.and_eq_true] at ht
      have h5 := h.1
      have h6 := ht.1
      revert h5 h6
      cases p.1 <;> intro h5 h6 <;> first | exact absF h6 | cases h5
  · have hsz : r.1.size = xs.length := by rw [← Array.length_toList, h1, List.length_map]
    refine ⟨by rw [hsz]; exact (Paired.length h3).symm, fun i p e => ?_⟩
    obtain ⟨q, e2, hq⟩ := paired_get h3 e
    have hi : i < r.1.size := by rw [hsz]; exact (List.getElem?_eq_some_iff.mp e2).1
    refine ⟨hi, q.2.1, ?_, hq.2.2.2.2.1⟩
    have e3 : r.1.toList[i]? = some (entryOfKey (nestedKind B.P B.w) q) := by rw [h1, List.getElem?_map, e2]; rfl
    rw [Array.getElem?_toList, Array.getElem?_eq_getElem hi] at e3
    rw [Option.some.inj e3]; rfl
theorem jok_dic {a : Addr} {r : Raw} {l : List (Dv × Dv)} (ht : (l.all fun p => isTup p.1) = true) : JOk B H0 (Itq a r) (l.map (·.1)) (fun G => G a = some (.dic r l)) := by
  refine ⟨fun i G H _ hG e hi => ?_, fun i G H _ hG e hi => ?_, fun i G H x Hn _ hG e hi ⟨e1, hy⟩ => ?_⟩
  · obtain ⟨h1, h2, h3, h4⟩ := hG a _ e
    obtain ⟨k1, k2⟩ := dt_keys h4 ht
    have hi' : i < l.length := by simpa using hi
    obtain ⟨hi2, b, e2, rv⟩ := k2 i _ (List.getElem?_eq_getElem hi')
    exact ⟨h1, hi2, .ref b, by rw [e2]; rfl⟩
  · obtain ⟨h1, h2, h3, h4⟩ := hG a _ e
    obtain ⟨k1, k2⟩ := dt_keys h4 ht
    exact ⟨h1, by rw [k1]; simpa using hi⟩
  · subst e1
    obtain ⟨h1, h2, h3, h4⟩ := hG a _ e
    obtain ⟨k1, k2⟩ := dt_keys h4 ht
    have hi' : i < l.length := by simpa using hi
    obtain ⟨hi2, b, e2, rv⟩ := k2 i _ (List.getElem?_eq_getElem hi')
    obtain ⟨hi3, rx⟩ := hy
    rw [e2] at rx
    have e5 : x = .ref b := by
      cases x with
      | ref c => cases rx; rfl
      | non => cases rx
      | bl _ => cases rx
      | ty _ => cases rx
      | _ => obtain ⟨t, z⟩ := rx; cases z
    subst e5
    exact ⟨_, by rw [List.getElem?_map, List.getElem?_eq_getElem hi']; rfl, rv, .refl, hG⟩
end
section
variable {X : Cx} {tg e a b : PySem.Expr} {te ta tb : DTE} {pos p : Pos}
/-- a list or a tuple, which one is seen only when it has come -/
theorem pi_any {tl : TE} (hl : PE X e tl) : PI X tg e (fun σ H R => tl σ H fun x H1 => ∃ a, x = .ref a ∧ ((∃ xs, SqL X.K H1 a xs) ∧ R (Itl X.K a) H1 ∨ (∃ xs, SqT X.K H1 a xs) ∧ R (Itt X.K a) H1 ∨ ∃ r, ((a == sysModules) = false ∧ H1 a = some (exD a r)) ∧ R (Itq a r) H1)) := by
  refine ⟨fun pins s σ H R I h => ?_⟩
  refine thn (hl.run pins s σ H _ I h) fun v s1 ⟨x, H1, I1, r1, q1⟩ => ?_
  obtain ⟨a, e, q⟩ := q1
  subst e
  cases r1
  rcases q with ⟨⟨xs, hq⟩, q⟩ | ⟨⟨xs, hq⟩, q⟩ | ⟨r, ⟨hs, hq⟩, q⟩
  · obtain ⟨its, rv, p, hz⟩ := I1.list hq
    refine wpAny_pyIter_list p.isList ?_
    refine ⟨s1.heap.objs.size, [s1.heap.objs.size], _, _, H1, rfl, I1.kept (t' := s1.toks) fun b o e => Heap.get?_push_of_some _ e, turn_list a _, ⟨_, Heap.get?_push_size _ rfl, rfl, rfl⟩, fun b hb => ?_, q⟩
    have e : b = s1.heap.objs.size := by simpa using hb
    subst e
    exact I1.fpOk (Nat.le_refl _) (I1.hok.fresh (Nat.le_refl _))
  · obtain ⟨its, rv, p, hz⟩ := I1.tuple hq
    refine wpAny_pyIter_tuple (show s1.heap.IsTuple a its.toArray from p) ?_
    refine ⟨s1.heap.objs.size, [s1.heap.objs.size], _, _, H1, rfl, I1.kept (t' := s1.toks) fun b o e => Heap.get?_push_of_some _ e, turn_tuple a _, ⟨_, Heap.get?_push_size _ rfl, rfl, rfl⟩, fun b hb => ?_, q⟩
    have e : b = s1.heap.objs.size := by simpa using hb
    subst e
    exact I1.fpOk (Nat.le_refl _) (I1.hok.fresh (Nat.le_refl _))
  · obtain ⟨o, hgd, hx, hdt⟩ := dic_raw I1 hq
    exact iter_keys hs hgd hx hdt (pi_one (tk := s1.toks) I1 _ (turn_raw _) ⟨_, Heap.get?_push_size _ rfl, rfl, rfl⟩ q)
theorem piI {t t' : TI} (h : PI X tg e t) (i : ∀ σ H R, t' σ H R → t σ H R) : PI X tg e t' := ⟨fun pins s σ H R I q => h.run pins s σ H R I (i σ H R q)⟩
theorem li_seq (h : PE X e (liftE (bs X) te)) : PI X tg e (liftI (bs X) fun σ G R => te σ G fun x G1 => seqI x G1 R) :=
  piI (pi_any h) fun σ H R ⟨ds, G, Rd, hS, hG, ht, w⟩ => by
    refine ⟨ds, G, _, hS, hG, ht, fun x vx G1 H1 f1 hG1 rx h1 => ?_⟩
    cases x with
    | tup l =>
      obtain ⟨a, vs, rfl, hs, hl⟩ := rTup rx
      exact ⟨a, rfl, .inr (.inl ⟨⟨vs, hs⟩, w _ l _ G1 H1 f1 hG1 h1 (jok_tup hs hl)⟩)⟩
    | ref a =>
      obtain rfl := rRef rx
      simp only [seqI] at h1
      refine ⟨a, rfl, ?_⟩
      split at h1
      · rename_i l e1
        obtain ⟨vs, h2, r⟩ := hG1.lst e1
        exact .inl ⟨⟨vs, SqL.of h2⟩, w _ l _ G1 H1 f1 hG1 h1 (jok_list (B := bs X) (f := .lst) (.inl rfl))⟩
      · rename_i l e1
        obtain ⟨vs, h2, r⟩ := hG1.fls e1
        exact .inl ⟨⟨vs, .inl h2⟩, w _ l _ G1 H1 f1 hG1 h1 (jok_list (B := bs X) (f := .fls) (.inr rfl))⟩
      · rename_i r l e1
        obtain ⟨k1, k2, k3, k4⟩ := hG1 a _ e1
        exact .inr (.inr ⟨r, ⟨k2, k1⟩, w _ _ _ G1 H1 f1 hG1 h1.2 (jok_dic h1.1)⟩)
      · exact h1.elim
    | _ => exact h1.elim
theorem li_rng1 {c : Ce} (ok : CxOk X c) (hm : X.mg "range" = none) (hg : glB c.sc "range" = true) (hn : nost a = true) (h : PE X a (liftE (bs X) ta)) :
    PI X tg (.Call (.Name "range" p) [a] [] pos) (liftI (bs X) fun σ G R => ta σ G fun x G1 => match x with | .int i => small62 i ∧ R (rngD 0 i) (fun _ => True) G1 | _ => False) :=
  piI (pi_range1 (ok.gl hg) hm (pa_cons h pa_nil (star_cons hn)) (star_cons hn)) fun σ H R ⟨ds, G, Rd, hS, hG, ht, w⟩ => by
    refine ⟨ds, G, _, hS, hG, ht, fun x vx G1 H1 f1 hG1 rx h1 => ?_⟩
    cases x with
    | int i =>
      obtain rfl := rInt rx
      refine ⟨i, rfl, h1.1.1, h1.1.2, w _ _ _ G1 H1 f1 hG1 h1.2 ?_⟩
      have := jok_rng (B := bs X) (H0 := H1) (lo := 0) (hi := i)
      rw [Int.sub_zero] at this
      exact this
    | _ => exact h1.elim
theorem li_rng2 {c : Ce} (ok : CxOk X c) (hm : X.mg "range" = none) (hg : glB c.sc "range" = true) (hn : nost a = true) (hn2 : nost b = true) (h : PE X a (liftE (bs X) ta)) (h2 : PE X b (liftE (bs X) tb)) :
    PI X tg (.Call (.Name "range" p) [a, b] [] pos) (liftI (bs X) fun σ G R => ta σ G fun x G1 => tb σ G1 fun y G2 => match x, y with | .int i, .int j => small62 i ∧ small62 j ∧ R (rngD i j) (fun _ => True) G2 | _, _ => False) :=
  piI (pi_range2 (ok.gl hg) hm (pa_cons h (pa_cons h2 pa_nil (star_cons hn2)) (star_cons hn)) (by rw [star_cons hn, star_cons hn2]; rfl) (star_cons hn2)) fun σ H R ⟨ds, G, Rd, hS, hG, ht, w⟩ => by
    refine ⟨ds, G, _, hS, hG, ht, fun x vx G1 H1 f1 hG1 rx h1 => ?_⟩
    refine ⟨ds, G1, _, hS.keep f1.kt, hG1, h1, fun y vy G2 H2 f2 hG2 ry h2 => ?_⟩
    have rx := rx.keep f2.kt
    cases x with
    | int i =>
      cases y with
      | int j =>
        obtain rfl := rInt rx; obtain rfl := rInt ry
        exact ⟨i, j, rfl, ⟨h2.1.1, h2.1.2, h2.2.1.1, h2.2.1.2⟩, w _ _ _ G2 H2 (f1.trans f2) hG2 h2.2.2 jok_rng⟩
      | _ => exact h2.elim
    | _ => cases y <;> exact h2.elim
end

/-! ### comprehensions -/
section
variable {B : Bs}
theorem RepS.wipe {H : Hp} {ds : DSt} {σ : L2.St} (h : RepS B H ds σ) : ∀ vs : List Nat, RepS B H (dwipe ds vs) (L2.wipe σ vs)
  | [] => h
  | v :: vs => by
    obtain ⟨h1, h2⟩ := RepS.wipe h vs
    refine ⟨by show (List.set _ _ _).length = (List.set _ _ _).length; simpa using h1, fun i d e => ?_⟩
    have e : ((dwipe ds vs).set v none)[i]? = some (some d) := e
    show ∃ w, ((L2.wipe σ vs).set v none)[i]? = some (some w) ∧ _
    by_cases hv : v = i
    · subst hv
      by_cases hl : v < (dwipe ds vs).length
      · rw [List.getElem?_set_self hl] at e; cases e
      · rw [List.getElem?_eq_none (by simpa using hl)] at e; cases e
    · rw [List.getElem?_set_ne hv] at e ⊢
      exact h2 i d e
/-- an object that D does not see is changed -/
theorem Frm.hid {G1 G : Dh} {H1 H : Hp} {D : Addr} {o : HO} (f : Frm G1 H1 G H) (n : H1 D = none) (m : Mut (H D)) : Frm G1 H1 G (upd H D o) :=
  ⟨f.kt.trans (.mut m), fun b x e g => by
    have : b ≠ D := fun z => by subst z; rw [n] at e; cases e
    rw [upd_ne this]
    exact f.fr b x e g⟩
theorem RepG.hid {G : Dh} {H : Hp} {D : Addr} {o : HO} (h : RepG B H G) (n : G D = none) (m : Mut (H D)) : RepG B (upd H D o) G := fun a x e => by
  have : a ≠ D := fun z => by subst z; rw [n] at e; cases e
  exact (h a x e).keep (.mut m) (upd_ne this)
/-- .. and is seen from now on -/
theorem Frm.seen {G1 G : Dh} {H1 H : Hp} {D : Addr} {o : Do} (f : Frm G1 H1 G H) (n : H1 D = none) : Frm G1 H1 (updG G D o) H :=
  ⟨f.kt, fun b x e g => by
    have : b ≠ D := fun z => by subst z; rw [n] at e; cases e
    rw [updG_ne this]
    exact f.fr b x e g⟩
theorem RepG.seen {G : Dh} {H : Hp} {D : Addr} {o : Do} (h : RepG B H G) (r : RepO B H D o) : RepG B H (updG G D o) := fun a x e => by
  by_cases z : a = D
  · subst z; rw [updG_same] at e; cases e; exact r
  · rw [updG_ne z] at e; exact h a x e
/-- the new list at D while the comprehension runs -/
structure Acc (B : Bs) (G1 : Dh) (H1 : Hp) (D : Addr) (G : Dh) (H : Hp) (acc : List Dv) : Prop where
  f : Frm G1 H1 G H
  g : RepG B H G
  nG : G D = none
  at_ : ∃ vs, H D = some (.lst vs) ∧ RepL B H acc vs
theorem Acc.next {G1 G G' : Dh} {H1 H H' : Hp} {D : Addr} {acc : List Dv} (a : Acc B G1 H1 D G H acc) (f : Frm G H G' H') (g : RepG B H' G') : Acc B G1 H1 D G' H' acc := by
  obtain ⟨vs, h1, h2⟩ := a.at_
  obtain ⟨h3, h4⟩ := f.fr D _ h1 a.nG
  exact ⟨a.f.trans f, g, h4, vs, h3, h2.keep f.kt⟩
theorem Acc.push {G1 G : Dh} {H1 H : Hp} {D : Addr} {acc : List Dv} (a : Acc B G1 H1 D G H acc) (n : H1 D = none) {d : Dv} {v : V} (r : RepV B H d v) : ∃ vs, H D = some (.lst vs) ∧ vs.length = acc.length ∧ Acc B G1 H1 D G (upd H D (.lst (vs ++ [v]))) (acc ++ [d]) := by
  obtain ⟨vs, h1, h2⟩ := a.at_
  have m : Mut (H D) := by rw [h1]; trivial
  exact ⟨vs, h1, h2.length, a.f.hid n m, a.g.hid a.nG m, a.nG, _, upd_same, (h2.append (.one r)).keep (.mut m)⟩
/-- the walk of one clause, from an inner state -/
theorem lc_walk {G1 : Dh} {H1 : Hp} {D : Addr} {J : L2.It} {items : List Dv} {stay : Dh → Prop} {tg : Tg} {tc : DTT} {te : DTE} {vs : List Nat} {Qf : List Dv → Dh → Prop} {ds : DSt} {σ : L2.St} {H0 : Hp} (hn : H1 D = none) (hS : RepS B H1 ds σ) (k0 : KeepT H1 H0) (jk : JOk B H0 J items stay) (hv : ∀ i ∈ tgS tg, i ∈ vs)
    {G : Dh} {H : Hp} {acc : List Dv} (k1 : KeepT H0 H) (a : Acc B G1 H1 D G H acc) (h : lcW tg stay tc te Qf items acc (dwipe ds vs) G) {Qn : Hp → Prop} (hQ : ∀ acc G' H', KeepT H0 H' → Acc B G1 H1 D G' H' acc → Qf acc G' → Qn H') :
    ∃ W : Nat → Nat → Hp → Prop, (∃ m, W 0 m H) ∧ ∀ i m H, W i m H →
      (J.stop i H ∧ Qn H) ∨ (J.go i H ∧ ∃ Nx : Hp → Prop, (∀ H', Nx H' → ∃ m', m' < m ∧ W (i + 1) m' H') ∧ ∀ x H', J.yld i H x H' → liftG B tg x (wipe σ vs) H' fun σ2 H2 => wipe σ2 vs = wipe σ vs ∧ liftT B tc σ2 H2 fun b H3 =>
        if b = true then liftE B te σ2 H3 fun y H4 => ∃ acc, H4 D = some (.lst acc) ∧ acc.length < sizeLine ∧ Nx (upd H4 D (.lst (acc ++ [y]))) else Nx H3) := by
  refine ⟨fun i m H => i + m = items.length ∧ KeepT H0 H ∧ ∃ G acc, Acc B G1 H1 D G H acc ∧ lcW tg stay tc te Qf (items.drop i) acc (dwipe ds vs) G, ⟨items.length, by omega, k1, G, acc, a, h⟩, ?_⟩
  rintro i m H ⟨hm, k, G, acc, a, h⟩
  by_cases hi : i < items.length
  · rw [List.drop_eq_getElem_cons hi] at h
    obtain ⟨st, h⟩ := h
    refine .inr ⟨jk.go i G H k a.g st hi, fun H' => (i + 1) + (m - 1) = items.length ∧ KeepT H0 H' ∧ ∃ G acc, Acc B G1 H1 D G H' acc ∧ lcW tg stay tc te Qf (items.drop (i + 1)) acc (dwipe ds vs) G, fun H' q => ⟨m - 1, by omega, q⟩, fun x Hn hy => ?_⟩
    obtain ⟨d, e1, rx, f1, g1⟩ := jk.yld i G H x Hn k a.g st hi hy
    have a1 := a.next f1 g1
    rw [List.getElem?_eq_getElem hi] at e1
    cases e1
    split at h
    · rename_i σ' e2
      have hSn : RepS B Hn ds σ := hS.keep ((k0.trans k).trans f1.kt)
      refine ⟨_, dwipe ds vs, σ', rx, hSn.wipe vs, e2, fun σ2 hS2 hb => ⟨?_, ?_⟩⟩
      · rw [hb vs hv, wipe_wipe]
      · refine ⟨σ', G, _, hS2, g1, h, fun b G3 H3 f3 g3 h3 => ?_⟩
        have a3 := a1.next f3 g3
        have k3 : KeepT H0 H3 := (k.trans f1.kt).trans f3.kt
        show (if b = true then _ else _)
        split at h3
        · rw [if_pos (by assumption)]
          refine ⟨σ', G3, _, hS2.keep f3.kt, g3, h3, fun y vy G4 H4 f4 g4 ry h4 => ?_⟩
          obtain ⟨ws, e4, e5, a5⟩ := (a3.next f4 g4).push hn ry
          have m4 : Mut (H4 D) := by rw [e4]; trivial
          exact ⟨ws, e4, by rw [e5]; exact h4.1, by omega, (k3.trans f4.kt).trans (.mut m4), G4, _, a5, h4.2⟩
        · rw [if_neg (by assumption)]
          exact ⟨by omega, k3, G3, acc, a3, h3⟩
    · exact h.elim
  · rw [List.drop_eq_nil_of_le (by omega)] at h
    obtain ⟨st, h⟩ := h
    exact .inl ⟨jk.stop i G H k a.g st (by omega), hQ acc G H k a h⟩
theorem Acc.start {G1 : Dh} {H1 : Hp} {D : Addr} (g : RepG B H1 G1) (n : H1 D = none) : Acc B G1 H1 D G1 (upd H1 D (.lst [])) [] := ⟨.new n, g.new n, g.fresh n, [], upd_same, .nil⟩
theorem Acc.done {G G1 G' : Dh} {H H1 H' : Hp} {D : Addr} {acc : List Dv} {Qd : DK} {Q : VK} (a : Acc B G1 H1 D G' H' acc) (n : H1 D = none) (f : Frm G H G1 H1) (w : Wish B G H Qd Q) (q : ∀ p, G' p = none → Qd (.ref p) (updG G' p (.lst acc))) : Q (.ref D) H' := by
  obtain ⟨vs, h1, h2⟩ := a.at_
  exact w _ _ _ _ (f.trans (a.f.seen n)) (a.g.seen (o := .lst acc) ⟨vs, h1, h2⟩) (by rw [RepV]) (q D a.nG)
theorem lc_ent {wi : DTI} {tg : Tg} {tc : DTT} {te : DTE} {vs : List Nat} {σ : L2.St} {H : Hp} {Q : VK} (hv : ∀ i ∈ tgS tg, i ∈ vs)
    (h : liftE B (fun σ G Q => wi σ G fun items stay G1 => lcW tg stay tc te (fun l G2 => ∀ p, G2 p = none → Q (.ref p) (updG G2 p (.lst l))) items [] (dwipe σ vs) G1) σ H Q) :
    tLc (liftI B wi) (liftG B tg) (liftT B tc) (liftE B te) vs σ H Q := by
  obtain ⟨ds, G, Qd, hS, hG, ht, w⟩ := h
  refine ⟨ds, G, _, hS, hG, ht, fun J items stay G1 H1 f1 hG1 h1 jk D hD => ?_⟩
  have kD : KeepT H1 (upd H1 D (.lst [])) := .new hD
  exact lc_walk (G1 := G1) (H0 := H1) hD (hS.keep f1.kt) .refl jk hv kD (Acc.start hG1 hD) h1 fun acc G' H' k' a' q => a'.done hD f1 w q
theorem lc2_ent {wi wi2 : DTI} {tg tg2 : Tg} {te : DTE} {vs : List Nat} {σ : L2.St} {H : Hp} {Q : VK} (hv : ∀ i ∈ tgS tg, i ∈ vs)
    (h : liftE B (fun σ G Q => wi σ G fun items stay G1 => lc2W tg stay wi2 tg2 te (fun l G2 => ∀ p, G2 p = none → Q (.ref p) (updG G2 p (.lst l))) items [] (dwipe σ vs) G1) σ H Q) :
    tLc2 (liftI B wi) (liftG B tg) tYes (liftI B wi2) (liftG B tg2) (liftT B yesC) (liftE B te) vs (tgS tg2) σ H Q := by
  obtain ⟨ds, G, Qd, hS, hG, ht, w⟩ := h
  refine ⟨ds, G, _, hS, hG, ht, fun J items stay G1 H1 f1 hG1 h1 jk D hD => ?_⟩
  have hS1 := hS.keep f1.kt
  refine ⟨fun i m H => i + m = items.length ∧ KeepT H1 H ∧ ∃ G acc, Acc B G1 H1 D G H acc ∧ lc2W tg stay wi2 tg2 te (fun l G2 => ∀ p, G2 p = none → Qd (.ref p) (updG G2 p (.lst l))) (items.drop i) acc (dwipe ds vs) G, ⟨items.length, by omega, .new hD, G1, [], Acc.start hG1 hD, h1⟩, ?_⟩
  rintro i m H' ⟨hm, k, G', acc, a, h⟩
  by_cases hi : i < items.length
  · rw [List.drop_eq_getElem_cons hi] at h
    obtain ⟨st, h⟩ := h
    refine .inr ⟨jk.go i G' H' k a.g st hi, fun H' => (i + 1) + (m - 1) = items.length ∧ KeepT H1 H' ∧ ∃ G acc, Acc B G1 H1 D G H' acc ∧ lc2W tg stay wi2 tg2 te (fun l G2 => ∀ p, G2 p = none → Qd (.ref p) (updG G2 p (.lst l))) (items.drop (i + 1)) acc (dwipe ds vs) G, fun H' q => ⟨m - 1, by omega, q⟩, fun x Hn hy => ?_⟩
    obtain ⟨d, e1, rx, f2, g2⟩ := jk.yld i G' H' x Hn k a.g st hi hy
    have a2 := a.next f2 g2
    rw [List.getElem?_eq_getElem hi] at e1
    cases e1
    split at h
    · rename_i σ' e2
      have hSn : RepS B Hn ds σ := hS1.keep (k.trans f2.kt)
      refine ⟨_, dwipe ds vs, σ', rx, hSn.wipe vs, e2, fun σ2 hS2 hb => ⟨by rw [hb vs hv, wipe_wipe], ?_⟩⟩
      show (liftI B wi2) σ2 Hn _
      refine ⟨σ', G', _, hS2, g2, h, fun J2 items2 stay2 G3 H3 f3 g3 h3 jk2 => ?_⟩
      have a3 := a2.next f3 g3
      have k3 : KeepT H1 H3 := (k.trans f2.kt).trans f3.kt
      -- the inner walk: its D and its start are those of the outer one
      have hS3 := hS2.keep f3.kt
      refine ⟨fun j k H => j + k = items2.length ∧ KeepT H3 H ∧ ∃ G acc, Acc B G1 H1 D G H acc ∧ lcW tg2 stay2 yesC te (fun acc' G2 => lc2W tg stay wi2 tg2 te (fun l G2 => ∀ p, G2 p = none → Qd (.ref p) (updG G2 p (.lst l))) (items.drop (i + 1)) acc' (dwipe ds vs) G2) (items2.drop j) acc (dwipe σ' (tgS tg2)) G, ⟨items2.length, by omega, .refl, G3, acc, a3, h3⟩, ?_⟩
      rintro j n H4 ⟨hn2, k4, G4, acc4, a4, h4⟩
      by_cases hj : j < items2.length
      · rw [List.drop_eq_getElem_cons hj] at h4
        obtain ⟨st4, h4⟩ := h4
        refine .inr ⟨jk2.go j G4 H4 k4 a4.g st4 hj, fun H => (j + 1) + (n - 1) = items2.length ∧ KeepT H3 H ∧ ∃ G acc, Acc B G1 H1 D G H acc ∧ lcW tg2 stay2 yesC te (fun acc' G2 => lc2W tg stay wi2 tg2 te (fun l G2 => ∀ p, G2 p = none → Qd (.ref p) (updG G2 p (.lst l))) (items.drop (i + 1)) acc' (dwipe ds vs) G2) (items2.drop (j + 1)) acc (dwipe σ' (tgS tg2)) G, fun H' q => ⟨n - 1, by omega, q⟩, fun y Hm hy2 => ?_⟩
        obtain ⟨d2, e5, ry, f5, g5⟩ := jk2.yld j G4 H4 y Hm k4 a4.g st4 hj hy2
        have a5 := a4.next f5 g5
        rw [List.getElem?_eq_getElem hj] at e5
        cases e5
        split at h4
        · rename_i σ3 e6
          have hS5 : RepS B Hm σ' σ2 := hS3.keep (k4.trans f5.kt)
          refine ⟨_, dwipe σ' (tgS tg2), σ3, ry, hS5.wipe _, e6, fun σ4 hS4 hb4 => ⟨by rw [hb4 _ fun i hi => hi, wipe_wipe], ?_⟩⟩
          refine ⟨σ3, G4, _, hS4, g5, h4, fun b G6 H6 f6 g6 h6 => ?_⟩
          have a6 := a5.next f6 g6
          have k6 : KeepT H3 H6 := (k4.trans f5.kt).trans f6.kt
          show (if b = true then _ else _)
          split at h6
          · rw [if_pos (by assumption)]
            refine ⟨σ3, G6, _, hS4.keep f6.kt, g6, h6, fun z vz G7 H7 f7 g7 rz h7 => ?_⟩
            obtain ⟨ws, e8, e9, a8⟩ := (a6.next f7 g7).push hD rz
            have m7 : Mut (H7 D) := by rw [e8]; trivial
            exact ⟨ws, e8, by rw [e9]; exact h7.1, by omega, (k6.trans f7.kt).trans (.mut m7), G7, _, a8, h7.2⟩
          · rw [if_neg (by assumption)]
            exact ⟨by omega, k6, G6, acc4, a6, h6⟩
        · exact h4.elim
      · rw [show items2.drop j = [] from List.drop_eq_nil_of_le (by omega)] at h4
        obtain ⟨st4, h4⟩ := h4
        exact .inl ⟨jk2.stop j G4 H4 k4 a4.g st4 (by omega), by omega, k3.trans k4, G4, acc4, a4, h4⟩
    · exact h.elim
  · rw [List.drop_eq_nil_of_le (by omega)] at h
    obtain ⟨st, h⟩ := h
    exact .inl ⟨jk.stop i G' H' k a.g st (by omega), a.done hD f1 w h⟩
end
end BD

/-! BD10: the checker's word is sound for expressions. -/
namespace BD
open PySem PySem.Spec PyProof.Rows L2

def isBO : PySem.Expr → Bool
  | .BoolOp _ _ _ => true
  | _ => false
/-- a built-in function of one's table -/
structure BiR (X : Cx) (b : Bi) (u : Value) : Prop where
  kind : (∃ id, u = .builtin id) ∨ ∃ t, u = .type t
  rule : CallR X u (liftC (bs X) (dBi b))
  boot : bootBuiltins (biName b) = some u
section
variable {X : Cx}
theorem bi_rule (hc : X.calm = true) (b : Bi) (h : biOk b = true) (h2 : biTy b = none) : ∃ u, BiR X b u := by
  cases b with
  | len => exact ⟨.builtin "len", .inl ⟨_, rfl⟩, cd_len, by decide +kernel⟩
  | int1 => exact ⟨.type "int", .inr ⟨_, rfl⟩, cd_int, by decide +kernel⟩
  | abs => exact ⟨.builtin "abs", .inl ⟨_, rfl⟩, cd_abs, by decide +kernel⟩
  | tupleOf => exact ⟨.type "tuple", .inr ⟨_, rfl⟩, cd_tuple, by decide +kernel⟩
  | listOf => exact ⟨.type "list", .inr ⟨_, rfl⟩, cd_list, by decide +kernel⟩
  | all => exact ⟨.builtin "all", .inl ⟨_, rfl⟩, cd_all hc, by decide +kernel⟩
  | any => exact ⟨.builtin "any", .inl ⟨_, rfl⟩, cd_any hc, by decide +kernel⟩
  | sorted => exact ⟨.builtin "sorted", .inl ⟨_, rfl⟩, cd_sorted, by decide +kernel⟩
  | min2 => exact ⟨.builtin "min", .inl ⟨_, rfl⟩, cd_min2 hc, by decide +kernel⟩
  | max2 => exact ⟨.builtin "max", .inl ⟨_, rfl⟩, cd_max2 hc, by decide +kernel⟩
  | isInt => cases h2
  | isBool => cases h2
  | isTuple => cases h2
  | isStr => cases h2
  | isList => cases h2
  | _ => cases h
/-- the types that isinstance asks -/
structure TyR (b : Bi) (t : Str) (T : String) (f : Kd → Bool) : Prop where
  kit : ∀ k, k ≠ .ins → kitB (kdT k) T = some (f k)
  boot : bootBuiltins t = some (.type T)
  sem : ∀ x G Q, dIsi f x G Q → dIsi f x G Q
  eq : ∀ x G Q, dBi b [x] G Q = dIsi f x G Q
theorem ty_rule (b : Bi) (t : Str) (h : biTy b = some t) : ∃ T f, TyR b t T f := by
  cases b with
  | isInt => cases h; exact ⟨"int", fun k => k == .int || k == .bool, kit_int, by decide +kernel, fun _ _ _ h => h, fun _ _ _ => rfl⟩
  | isBool => cases h; exact ⟨"bool", fun k => k == .bool, kit_bool, by decide +kernel, fun _ _ _ h => h, fun _ _ _ => rfl⟩
  | isTuple => cases h; exact ⟨"tuple", fun k => k == .tup, kit_tuple, by decide +kernel, fun _ _ _ h => h, fun _ _ _ => rfl⟩
  | isStr => cases h; exact ⟨"str", fun k => k == .str, kit_str, by decide +kernel, fun _ _ _ h => h, fun _ _ _ => rfl⟩
  | isList => cases h; exact ⟨"list", fun k => k == .lst, kit_list, by decide +kernel, fun _ _ _ h => h, fun _ _ _ => rfl⟩
  | _ => cases h
theorem biTy_name (b : Bi) (t : Str) (h : biTy b = some t) : biName b = "isinstance" := by cases b <;> first | rfl | cases h
theorem CxOk.blk {c : Ce} (ok : CxOk X c) (s : Shared) (H : Hp) {scope : Scope} (hk : scope.kind = .function) (cl : List (Str × Addr)) (C : Addr) (fp : List Addr) : CxOk (X.blk s H scope (compEnvC scope cl C X.env) fp) (blkCe c scope) :=
  ⟨ok.n, by show relS scope X.env.scope = relS scope c.sc; rw [ok.sc], ok.nd, ok.calm, fun x h => h, ok.room, PassesOwn.never, hk⟩
theorem need_blk (s : Shared) (H : Hp) (scope : Scope) (env : Env) (fp : List Addr) : NeedOk (X.blk s H scope env fp) = NeedOk X := by
  funext n
  cases n <;> rfl
theorem blk_ok {c : Ce} (ok : CxOk X c) {scope : Scope} {own : List (Str × Nat)} (h : blkC c.N c.sc scope own = true) : BlkOk X.N X.env.scope scope own := by
  rw [ok.n, ok.sc]; exact blkOk_by h
theorem chkA_nil {c : Ce} {as : Ar} (h : chkA c as [] = true) : as = .nil := by
  cases as with
  | nil => rfl
  | cons _ _ => simp [chkA] at h
theorem chkA_cons {c : Ce} {as : Ar} {e : PySem.Expr} {es : List PySem.Expr} (h : chkA c as (e :: es) = true) : ∃ x r, as = .cons x r := by
  cases as with
  | nil => simp [chkA] at h
  | cons x r => exact ⟨x, r, rfl⟩
structure SE (X : Cx) (ex : PySem.Expr) (td : DTE) : Prop where
  e : PE X ex (liftE (bs X) td)
  t : PT X ex (liftT (bs X) (tT td))
  w : isBO ex = true → PW X ex (liftT (bs X) (tT td))
theorem SE.val {e : PySem.Expr} {t : DTE} (h : PE X e (liftE (bs X) t)) (hp : plainT e = true) (hb : isBO e = false) : SE X e t := ⟨h, lt_val h hp, fun z => by rw [hb] at z; cases z⟩
end
theorem chkI_set {c : Ce} {it : Ib} {e tg : PySem.Expr} (h : chkI c it e tg = true) : noSet e = true := by
  cases it with
  | seq x => simp only [chkI, Bool.and_eq_true] at h; exact h.1
  | rng1 a => cases e <;> first | rfl | exact absF h
  | rng2 a b => cases e <;> first | rfl | exact absF h
  | _ => exact absF h
mutual
theorem sE : ∀ (x : Ex) (X : Cx) (c : Ce) (e : PySem.Expr), CxOk X c → x.need (NeedOk X) → chkE c x e = true → SE X e (wpE x)
  | .var i, X, c, e, ok, nd, h => by
    cases e with
    | Name y p =>
      simp only [chkE, Bool.and_eq_true] at h
      exact .val (le_var ok h.1.1 h.1.2 h.2) rfl rfl
    | _ => exact absF h
  | .glob y d, X, c, e, ok, nd, h => by
    cases e with
    | Name z p =>
      simp only [chkE, Bool.and_eq_true] at h
      have e1 : z = y := of_decide_eq_true h.1.1
      subst e1
      exact .val (le_glob ok h.1.2 h.2 nd) rfl rfl
    | _ => exact absF h
  | .cint i, X, c, e, ok, nd, h => by
    cases e with
    | Constant k n p =>
      cases k with
      | int j =>
        have e1 : i = j := of_decide_eq_true h
        subst e1
        exact .val (peI pe_int fun σ H Q ⟨ds, G, Qd, hS, hG, ht, w⟩ => w.int hG ht) rfl rfl
      | _ => exact absF h
    | _ => exact absF h
  | .cbl i, X, c, e, ok, nd, h => by
    cases e with
    | Constant k n p =>
      cases k with
      | bool j =>
        have e1 : i = j := of_decide_eq_true h
        subst e1
        exact .val (peI pe_bl fun σ H Q ⟨ds, G, Qd, hS, hG, ht, w⟩ => w.bl hG ht) rfl rfl
      | _ => exact absF h
    | _ => exact absF h
  | .cnon, X, c, e, ok, nd, h => by
    cases e with
    | Constant k n p =>
      cases k with
      | none => exact .val (peI pe_non fun σ H Q ⟨ds, G, Qd, hS, hG, ht, w⟩ => w.non hG ht) rfl rfl
      | _ => exact absF h
    | _ => exact absF h
  | .cstr i, X, c, e, ok, nd, h => by
    cases e with
    | Constant k n p =>
      cases k with
      | str j =>
        have e1 : i = j := of_decide_eq_true h
        subst e1
        exact .val (peI pe_str fun σ H Q ⟨ds, G, Qd, hS, hG, ht, w⟩ => w.str hG ht) rfl rfl
      | _ => exact absF h
    | _ => exact absF h
  | .bin op a b, X, c, e, ok, nd, h => by
    cases e with
    | BinOp y op' z p =>
      simp only [chkE, Bool.and_eq_true] at h
      have e1 : op = op' := of_decide_eq_true h.1.1
      subst e1
      exact .val (le_bin (sE a X c y ok nd.1 h.1.2).e (sE b X c z ok nd.2 h.2).e) rfl rfl
    | _ => exact absF h
  | .neg a, X, c, e, ok, nd, h => by
    cases e with
    | UnaryOp op y p =>
      cases op with
      | USub => exact .val (le_neg (sE a X c y ok nd h).e) rfl rfl
      | _ => exact absF h
    | _ => exact absF h
  | .cmp op a b, X, c, e, ok, nd, h => by
    cases e with
    | Compare y ops zs p =>
      match ops, zs, h with
      | [op'], [z], h =>
        simp only [chkE, Bool.and_eq_true] at h
        have e1 : op = op' := of_decide_eq_true h.1.1.1
        subst e1
        have ha := (sE a X c y ok nd.1 h.1.2).e
        have hb := (sE b X c z ok nd.2 h.2).e
        exact ⟨le_cmp ok.room ha hb (marks_of h.1.1.2), lt_cmp ok.room ha hb (marks_of h.1.1.2), fun z => absF z⟩
      | [], _, h => exact absF h
      | [_], [], h => exact absF h
      | [_], _ :: _ :: _, h => exact absF h
      | _ :: _ :: _, _, h => exact absF h
    | _ => exact absF h
  | .chn op1 op2 a b d, X, c, e, ok, nd, h => by
    cases e with
    | Compare y ops zs p =>
      match ops, zs, h with
      | [o1, o2], [z, v], h =>
        simp only [chkE, Bool.and_eq_true] at h
        have e1 : op1 = o1 := of_decide_eq_true h.1.1.1.1.1
        have e2 : op2 = o2 := of_decide_eq_true h.1.1.1.1.2
        subst e1 e2
        have ha := (sE a X c y ok nd.1 h.1.1.2).e
        have hb := (sE b X c z ok nd.2.1 h.1.2).e
        have hd := (sE d X c v ok nd.2.2 h.2).e
        exact ⟨le_chn ok.room ha hb hd h.1.1.1.2, lt_chn ok.room ha hb hd h.1.1.1.2, fun z => absF z⟩
      | [], _, h => exact absF h
      | [_], _, h => exact absF h
      | [_, _], [], h => exact absF h
      | [_, _], [_], h => exact absF h
      | [_, _], _ :: _ :: _ :: _, h => exact absF h
      | _ :: _ :: _ :: _, _, h => exact absF h
    | _ => exact absF h
  | .one a, X, c, e, ok, nd, h => by
    cases e with
    | BoolOp op vs p =>
      match vs, h with
      | [y], h =>
        have ih := sE a X c y ok nd h
        have hw : PW X (.BoolOp op [y] p) (liftT (bs X) (tT (wpE a))) := by
          cases op with
          | And => exact pw_and1 ih.t
          | Or => exact pw_or1 ih.t
        exact ⟨pe_one ih.e, hw.pt, fun _ => hw⟩
      | [], h => exact absF h
      | _ :: _ :: _, h => exact absF h
    | _ => exact absF h
  | .and a b, X, c, e, ok, nd, h => by
    cases e with
    | BoolOp op vs p =>
      cases op with
      | And =>
        match vs, h with
        | y :: z :: r, h =>
          simp only [chkE, Bool.and_eq_true] at h
          have ha := sE a X c y ok nd.1 h.1
          have hb := sE b X c (.BoolOp .And (z :: r) p) ok nd.2 h.2
          have hw := lt_and ha.t (hb.w rfl)
          exact ⟨le_and ha.e hb.e, hw.pt, fun _ => hw⟩
        | [], h => exact absF h
        | [_], h => exact absF h
      | Or => exact absF h
    | _ => exact absF h
  | .or a b, X, c, e, ok, nd, h => by
    cases e with
    | BoolOp op vs p =>
      cases op with
      | Or =>
        match vs, h with
        | y :: z :: r, h =>
          simp only [chkE, Bool.and_eq_true] at h
          have ha := sE a X c y ok nd.1 h.1
          have hb := sE b X c (.BoolOp .Or (z :: r) p) ok nd.2 h.2
          have hw := lt_or ha.t (hb.w rfl)
          exact ⟨le_or ha.e hb.e, hw.pt, fun _ => hw⟩
        | [], h => exact absF h
        | [_], h => exact absF h
      | And => exact absF h
    | _ => exact absF h
  | .not a, X, c, e, ok, nd, h => by
    cases e with
    | UnaryOp op y p =>
      cases op with
      | Not =>
        have ih := sE a X c y ok nd h
        exact ⟨le_not ih.e, lt_not ih.t, fun z => absF z⟩
      | _ => exact absF h
    | _ => exact absF h
  | .ife t a b, X, c, e, ok, nd, h => by
    cases e with
    | IfExp y z v p =>
      simp only [chkE, Bool.and_eq_true] at h
      have ht := sE t X c y ok nd.1 h.1.1
      have ha := sE a X c z ok nd.2.1 h.1.2
      have hb := sE b X c v ok nd.2.2 h.2
      exact ⟨le_ife ht.t ha.e hb.e, lt_ife ht.t ha.t hb.t, fun z => absF z⟩
    | _ => exact absF h
  | .tup as, X, c, e, ok, nd, h => by
    cases e with
    | Tuple es k p => exact .val (le_tup (sA as X c es ok nd h)) rfl rfl
    | _ => exact absF h
  | .lst as, X, c, e, ok, nd, h => by
    cases e with
    | List es p => exact .val (le_lst (sA as X c es ok nd h)) rfl rfl
    | _ => exact absF h
  | .emp, X, c, e, ok, nd, h => by
    cases e with
    | Dict ks vs p =>
      match ks, vs, h with
      | [], [], h => exact .val pe_emp rfl rfl
      | _ :: _, _, h => exact absF h
      | [], _ :: _, h => exact absF h
    | _ => exact absF h
  | .ix a i, X, c, e, ok, nd, h => by
    cases e with
    | Subscript y z p =>
      simp only [chkE, Bool.and_eq_true] at h
      exact .val (le_ix ok.room (sE a X c y ok nd.1 h.1.2).e (sE i X c z ok nd.2 h.2).e h.1.1) rfl rfl
    | _ => exact absF h
  | .sl a lo hi, X, c, e, ok, nd, h => by
    cases e with
    | Subscript y z p =>
      cases z with
      | Slice l u st p2 =>
        cases st with
        | none =>
          simp only [chkE, Bool.and_eq_true] at h
          exact .val (le_sl (sE a X c y ok nd.1 h.1.1).e (sO lo X c l ok nd.2.1 h.1.2) (sO hi X c u ok nd.2.2 h.2)) rfl rfl
        | some _ => exact absF h
      | _ => exact absF h
    | _ => exact absF h
  | .call f sp as, X, c, e, ok, nd, h => by
    cases e with
    | Call g es ks p =>
      cases g with
      | Name y q =>
        cases ks with
        | nil =>
          simp only [chkE, Bool.and_eq_true] at h
          have e1 : y = f := of_decide_eq_true h.1.1.1
          subst e1
          cases es with
          | nil =>
            have e2 := chkA_nil h.2
            subst e2
            exact .val (le_call0 ok h.1.1.2 h.1.2 nd.1) rfl rfl
          | cons e' es' => exact .val (le_call ok h.1.1.2 h.1.2 (chkA_star h.2) nd.1 (sA as X c _ ok nd.2 h.2)) rfl rfl
        | cons _ _ => exact absF h
      | _ => exact absF h
    | _ => exact absF h
  | .bcl b as, X, c, e, ok, nd, h => by
    cases e with
    | Call g es ks p =>
      cases g with
      | Name y q =>
        cases ks with
        | nil =>
          simp only [chkE, Bool.and_eq_true] at h
          have e1 : y = biName b := of_decide_eq_true h.1.1.1.2
          subst e1
          obtain ⟨⟨⟨⟨h1, h2⟩, h3⟩, h4⟩, h5⟩ := h
          cases hb : biTy b with
          | none =>
            simp only [hb] at h5
            obtain ⟨u, R⟩ := bi_rule (X := X) ok.calm b h1 hb
            cases es with
            | nil => exact absF h5
            | cons e' es' =>
              have h5 : chkA c as (e' :: es') = true := h5
              exact .val (le_bi ok R.kind R.rule R.boot nd.1 h3 h4 (chkA_star h5) (sA as X c _ ok nd.2.2 h5)) rfl rfl
          | some t =>
            simp only [hb] at h5
            obtain ⟨T, f, R⟩ := ty_rule b t hb
            have hn := biTy_name b t hb
            have hf : ∃ y' z q', es = [y', .Name z q'] ∧ (chkA c as [y'] && decide (z = t) && glB c.sc z && plainN z) = true := by
              split at h5
              · exact ⟨_, _, _, rfl, h5⟩
              · exact absF h5
            obtain ⟨y', z, q', e0, h5⟩ := hf
            subst e0
            simp only [Bool.and_eq_true] at h5
            have e2 : z = t := of_decide_eq_true h5.1.1.2
            subst e2
            obtain ⟨x, r, e3⟩ := chkA_cons h5.1.1.1
            subst e3
            have h6 := h5.1.1.1
            simp only [chkA, Bool.and_eq_true] at h6
            have e4 := chkA_nil h6.2
            subst e4
            have n1 : X.mg (biName b) = none := nd.1
            have n2 : X.mg z = none := by have := nd.2.1; rw [hb] at this; exact this
            rw [hn] at n1 h3 ⊢
            refine .val (peI (le_isi ok R.kit R.boot n1 n2 h3 h5.1.2 h5.2 h6.1.1 (sE x X c y' ok nd.2.2.1 h6.1.2).e) fun σ H Q ⟨ds, G, Qd, hS, hG, ht, w⟩ => ⟨ds, G, Qd, hS, hG, ?_, w⟩) rfl rfl
            have : (fun x G1 => dIsi f x G1 Qd) = fun x G1 => dBi b [x] G1 Qd := by funext x G1; exact (R.eq x G1 Qd).symm
            show wpE x ds G fun x G1 => dIsi f x G1 Qd
            rw [this]
            exact ht
        | cons _ _ => exact absF h
      | _ => exact absF h
    | _ => exact absF h
  | .mth m o as, X, c, e, ok, nd, h => by
    cases e with
    | Call g es ks p =>
      cases g with
      | Attribute y f q =>
        cases ks with
        | nil =>
          simp only [chkE, Bool.and_eq_true] at h
          obtain ⟨⟨⟨⟨⟨h1, h2⟩, h3⟩, h4⟩, h5⟩, h6⟩ := h
          have e1 : f = mtName m := of_decide_eq_true h1
          subst e1
          have ho := (sE o X c y ok nd.1 h5).e
          cases es with
          | nil =>
            have e2 := chkA_nil h6
            subst e2
            exact .val (le_mth0 h2 h3 ho) rfl rfl
          | cons e' es' => exact .val (le_mth h2 h3 (of_decide_eq_true h4) (by simp) (chkA_star h6) ho (sA as X c _ ok nd.2 h6)) rfl rfl
        | cons _ _ => exact absF h
      | _ => exact absF h
    | _ => exact absF h
  | .lc own tg it cd el, X, c, e, ok, nd, h => by
    cases e with
    | ListComp y gs scope p =>
      match gs, h with
      | [⟨t, i, ifs, ia⟩], h =>
        simp only [chkE, Bool.and_eq_true] at h
        obtain ⟨⟨⟨⟨⟨⟨h0, h1⟩, h2⟩, h3⟩, h4⟩, h5⟩, h6⟩ := h
        obtain rfl : ia = 0 := of_decide_eq_true h0
        have hv : ∀ j ∈ tgS tg, j ∈ own.map (·.2) := fun j hj => of_decide_eq_true (List.all_eq_true.mp h2 j hj)
        refine .val (peI (pe_lc ok.calm ok.nd (sI it X c i t ok nd.1 h3) (blk_ok ok h1) (fun s H C cl fp => lg (X := X.blk s H scope (compEnvC scope cl C X.env) fp) (ok.blk s H (blk_ok ok h1).kind cl C fp) tg t h4)
          (fun s H C cl fp => sC cd (X.blk s H scope (compEnvC scope cl C X.env) fp) (blkCe c scope) ifs (ok.blk s H (blk_ok ok h1).kind cl C fp) (by rw [need_blk]; exact nd.2.1) h5)
          (fun s H C cl fp => (sE el (X.blk s H scope (compEnvC scope cl C X.env) fp) (blkCe c scope) y (ok.blk s H (blk_ok ok h1).kind cl C fp) (by rw [need_blk]; exact nd.2.2) h6).e) (folded_of (chkI_set h3))) fun σ H Q q => lc_ent hv q) rfl rfl
      | [], h => exact absF h
      | ⟨_, _, _, _⟩ :: ⟨_, _, _, _⟩ :: _, h => exact absF h
    | _ => exact absF h
  | .lc2 own tg it tg2 it2 el, X, c, e, ok, nd, h => by
    cases e with
    | ListComp y gs scope p =>
      match gs, h with
      | [⟨t, i, ifs, ia⟩, ⟨t2, i2, ifs2, ia2⟩], h =>
        simp only [chkE, Bool.and_eq_true] at h
        obtain ⟨⟨⟨⟨⟨⟨⟨⟨⟨⟨⟨ha, hb⟩, hc⟩, hd⟩, h1⟩, h2⟩, h2'⟩, h3⟩, h4⟩, h5⟩, h6⟩, h7⟩ := h
        obtain rfl : ia = 0 := of_decide_eq_true ha
        obtain rfl : ia2 = 0 := of_decide_eq_true hb
        obtain rfl : ifs = [] := List.isEmpty_iff.mp hc
        obtain rfl : ifs2 = [] := List.isEmpty_iff.mp hd
        have hv : ∀ j ∈ tgS tg, j ∈ own.map (·.2) := fun j hj => of_decide_eq_true (List.all_eq_true.mp h2 j hj)
        have hv2 : ∀ j ∈ tgS tg2, j ∈ own.map (·.2) := fun j hj => of_decide_eq_true (List.all_eq_true.mp h2' j hj)
        have hy : ∀ X : Cx, PTs X [] (liftT (bs X) yesC) := fun X => ⟨fun pins s σ H Q I ⟨ds, G, Qd, hS, hG, ht, w⟩ => pts_nil.run pins s σ H Q I (w true G H .refl hG ht)⟩
        refine .val (peI (pe_lc2 ok.calm ok.nd (sI it X c i t ok nd.1 h3) (blk_ok ok h1) hv2 (fun s H C cl fp => lg (X := X.blk s H scope (compEnvC scope cl C X.env) fp) (ok.blk s H (blk_ok ok h1).kind cl C fp) tg t h4)
            (fun s H C cl fp => pts_nil)
            (fun s H C cl fp => (sI it2 (X.blk s H scope (compEnvC scope cl C X.env) fp) (blkCe c scope) i2 t2 (ok.blk s H (blk_ok ok h1).kind cl C fp) (by rw [need_blk]; exact nd.2.1) h5))
            (fun s H C cl fp => lg (X := X.blk s H scope (compEnvC scope cl C X.env) fp) (ok.blk s H (blk_ok ok h1).kind cl C fp) tg2 t2 h6)
            (fun s H C cl fp => hy _)
            (fun s H C cl fp => (sE el (X.blk s H scope (compEnvC scope cl C X.env) fp) (blkCe c scope) y (ok.blk s H (blk_ok ok h1).kind cl C fp) (by rw [need_blk]; exact nd.2.2) h7).e) (folded_of (chkI_set h3))
            (fun env => folded_of (chkI_set h5))) fun σ H Q q => lc2_ent hv q) rfl rfl
      | [], h => exact absF h
      | [⟨_, _, _, _⟩], h => exact absF h
      | ⟨_, _, _, _⟩ :: ⟨_, _, _, _⟩ :: ⟨_, _, _, _⟩ :: _, h => exact absF h
    | _ => exact absF h
theorem sA : ∀ (as : Ar) (X : Cx) (c : Ce) (es : List PySem.Expr), CxOk X c → as.need (NeedOk X) → chkA c as es = true → PA X es (liftA (bs X) (wpA as))
  | .nil, X, c, es, ok, nd, h => by
    cases es with
    | nil => exact la_nil
    | cons _ _ => exact absF h
  | .cons x r, X, c, es, ok, nd, h => by
    cases es with
    | nil => exact absF h
    | cons e es =>
      simp only [chkA, Bool.and_eq_true] at h
      exact la_cons h.1.1 (sE x X c e ok nd.1 h.1.2).e (sA r X c es ok nd.2 h.2)
theorem sO : ∀ (o : Op) (X : Cx) (c : Ce) (e : Option PySem.Expr), CxOk X c → o.need (NeedOk X) → chkO c o e = true → PO X e (liftO (bs X) (wpO o))
  | .no, X, c, e, ok, nd, h => by
    cases e with
    | none => exact lo_no
    | some _ => exact absF h
  | .yes x, X, c, e, ok, nd, h => by
    cases e with
    | none => exact absF h
    | some y => exact lo_yes (sE x X c y ok nd h).e
theorem sC : ∀ (o : Op) (X : Cx) (c : Ce) (e : List PySem.Expr), CxOk X c → o.need (NeedOk X) → chkC c o e = true → PTs X e (liftT (bs X) (wpC o))
  | .no, X, c, e, ok, nd, h => by
    cases e with
    | nil => exact ⟨fun pins s σ H Q I ⟨ds, G, Qd, hS, hG, ht, w⟩ => pts_nil.run pins s σ H Q I (w true G H .refl hG ht)⟩
    | cons _ _ => exact absF h
  | .yes x, X, c, e, ok, nd, h => by
    match e, h with
    | [y], h => exact pts_one (sE x X c y ok nd h).t
    | [], h => exact absF h
    | _ :: _ :: _, h => exact absF h
theorem sI : ∀ (it : Ib) (X : Cx) (c : Ce) (e tg : PySem.Expr), CxOk X c → it.need (NeedOk X) → chkI c it e tg = true → PI X tg e (liftI (bs X) (wpI it))
  | .seq x, X, c, e, tg, ok, nd, h => by
    simp only [chkI, Bool.and_eq_true] at h
    exact li_seq (sE x X c e ok nd h.2).e
  | .rng1 a, X, c, e, tg, ok, nd, h => by
    cases e with
    | Call g es ks p =>
      cases g with
      | Name y q =>
        match es, ks, h with
        | [z], [], h =>
          simp only [chkI, Bool.and_eq_true] at h
          have e1 : y = "range" := of_decide_eq_true h.1.1.1
          subst e1
          exact li_rng1 ok nd.1 h.1.1.2 h.1.2 (sE a X c z ok nd.2 h.2).e
        | [], _, h => exact absF h
        | [_], _ :: _, h => exact absF h
        | _ :: _ :: _, _, h => exact absF h
      | _ => exact absF h
    | _ => exact absF h
  | .rng2 a b, X, c, e, tg, ok, nd, h => by
    cases e with
    | Call g es ks p =>
      cases g with
      | Name y q =>
        match es, ks, h with
        | [z, v], [], h =>
          simp only [chkI, Bool.and_eq_true] at h
          have e1 : y = "range" := of_decide_eq_true h.1.1.1.1.1
          subst e1
          exact li_rng2 ok nd.1 h.1.1.1.1.2 h.1.1.1.2 h.1.1.2 (sE a X c z ok nd.2.1 h.1.2).e (sE b X c v ok nd.2.2 h.2).e
        | [], _, h => exact absF h
        | [_], _, h => exact absF h
        | [_, _], _ :: _, h => exact absF h
        | _ :: _ :: _ :: _, _, h => exact absF h
      | _ => exact absF h
    | _ => exact absF h
  | .enum _, _, _, _, _, _, _, h => absF h
  | .zip _ _, _, _, _, _, _, _, h => absF h
  | .items _, _, _, _, _, _, _, h => absF h
  | .vals _, _, _, _, _, _, _, h => absF h
  | .rev _, _, _, _, _, _, _, h => absF h
end
end BD

/-! BD11: the checker's word is sound for statements. -/
namespace BD
open PySem PySem.Spec PyProof.Rows L2

structure WishS (B : Bs) (G : Dh) (H : Hp) (Dd : DEnds) (D : L2.Ends) : Prop where
  nx : ∀ ds σ G' H', Frm G H G' H' → RepS B H' ds σ → RepG B H' G' → Dd.nx ds G' → D.nx σ H'
  rt : ∀ d v G' H', Frm G H G' H' → RepG B H' G' → RepV B H' d v → Dd.rt d G' → D.rt v H'
  bk : ∀ ds σ G' H', Frm G H G' H' → RepS B H' ds σ → RepG B H' G' → Dd.bk ds G' → D.bk σ H'
  ct : ∀ ds σ G' H', Frm G H G' H' → RepS B H' ds σ → RepG B H' G' → Dd.ct ds G' → D.ct σ H'
theorem WishS.later {B : Bs} {G G1 : Dh} {H H1 : Hp} {Dd : DEnds} {D : L2.Ends} (w : WishS B G H Dd D) (f : Frm G H G1 H1) : WishS B G1 H1 Dd D :=
  ⟨fun ds σ G' H' f' => w.nx ds σ G' H' (f.trans f'), fun d v G' H' f' => w.rt d v G' H' (f.trans f'), fun ds σ G' H' f' => w.bk ds σ G' H' (f.trans f'), fun ds σ G' H' f' => w.ct ds σ G' H' (f.trans f')⟩
def liftS (B : Bs) (t : DTS) : TS := fun D σ H => ∃ ds G Dd, RepS B H ds σ ∧ RepG B H G ∧ t Dd ds G ∧ WishS B G H Dd D
section
variable {X : Cx} {a b e : PySem.Expr} {pos : Pos} {te ta tb : DTE}
theorem ls_nil : PSs X [] (liftS (bs X) fun D σ G => D.nx σ G) := pssI pss_nil fun D σ H ⟨ds, G, Dd, hS, hG, ht, w⟩ => w.nx ds σ G H .refl hS hG ht
theorem ls_cons {st : PySem.Stmt} {rest : List PySem.Stmt} {t u : DTS} (h : PS X st (liftS (bs X) t)) (hr : PSs X rest (liftS (bs X) u)) : PSs X (st :: rest) (liftS (bs X) fun D σ G => t { D with nx := u D } σ G) :=
  pssI (pss_cons h hr) fun D σ H ⟨ds, G, Dd, hS, hG, ht, w⟩ =>
    ⟨ds, G, _, hS, hG, ht, ⟨fun ds' σ' G' H' f hS' hG' q => ⟨ds', G', Dd, hS', hG', q, w.later f⟩, w.rt, w.bk, w.ct⟩⟩
theorem ls_expr (h : PE X e (liftE (bs X) te)) (hn : noComp e = true) : PS X (.Expr e pos) (liftS (bs X) fun D σ G => te σ G fun _ G1 => D.nx σ G1) :=
  psI (ps_expr h (sw_false hn)) fun D σ H ⟨ds, G, Dd, hS, hG, ht, w⟩ => ⟨ds, G, _, hS, hG, ht, fun x vx G1 H1 f1 hG1 rx h1 => w.nx ds σ G1 H1 f1 (hS.keep f1.kt) hG1 h1⟩
theorem ls_ret (h : PE X e (liftE (bs X) te)) : PS X (.Return (some e) pos) (liftS (bs X) fun D σ G => te σ G D.rt) :=
  psI (ps_ret h) fun D σ H ⟨ds, G, Dd, hS, hG, ht, w⟩ => ⟨ds, G, _, hS, hG, ht, fun x vx G1 H1 f1 hG1 rx h1 => w.rt x vx G1 H1 f1 hG1 rx h1⟩
def setD (i : Nat) (te : DTE) : DTS := fun D σ G => te σ G fun x G1 => D.nx (σ.set i (some x)) G1
theorem set_ent {i : Nat} {D : L2.Ends} {σ : L2.St} {H : Hp} (h : liftS (bs X) (setD i te) D σ H) : liftE (bs X) te σ H fun x H1 => gName i x σ H1 D.nx := by
  obtain ⟨ds, G, Dd, hS, hG, ht, w⟩ := h
  exact ⟨ds, G, _, hS, hG, ht, fun x vx G1 H1 f1 hG1 rx h1 => w.nx _ _ G1 H1 f1 ((hS.keep f1.kt).set rx) hG1 h1⟩
theorem ls_set {c : Ce} (ok : CxOk X c) {i : Nat} {x : Str} {p : Pos} (hi : decide (c.N[i]? = some x) = true) (hl : locB c x = true) (h : PE X e (liftE (bs X) te)) (hn : swapsWith e (some (.Name x p)) pos.line X.env = pure false) : PS X (.Assign [.Name x p] e pos) (liftS (bs X) (setD i te)) := by
  obtain ⟨l1, l2⟩ := ok.loc hl
  exact psI (ps_set ok.nd (ok.slot hi) l1 h hn l2) fun D σ H q => set_ent q
theorem sole_tup {es : List PySem.Expr} {k : Nat} {p : Pos} {l : Nat} {env : Env} : swapsWithSole [.Tuple es k p] e l env = pure false := by
  show swapsWith e (some (.Tuple es k p)) l env = pure false
  cases e <;> rfl
theorem sole_sub {x y : PySem.Expr} {p : Pos} {l : Nat} {env : Env} : swapsWithSole [.Subscript x y p] e l env = pure false := by
  show swapsWith e (some (.Subscript x y p)) l env = pure false
  cases e <;> rfl
theorem stores_tup {es : List PySem.Expr} {k : Nat} {p : Pos} {env : Env} (h : noTup e = true) : swappedStores [.Tuple es k p] e env = pure none := by
  cases e <;> first | rfl | cases h
theorem stores_sub {x y : PySem.Expr} {p : Pos} {env : Env} : swappedStores [.Subscript x y p] e env = pure none := by
  cases e <;> rfl
def tsetD (tg : Tg) (te : DTE) : DTS := fun D σ G => te σ G fun x G1 => match asgT tg x σ with
    | some σ' => D.nx σ' G1
    | none => False
theorem ls_tset {tg : Tg} {t : PySem.Expr} (hg : PG X t (liftG (bs X) tg)) (h : PE X e (liftE (bs X) te)) (hs : swapsWithSole [t] e pos.line X.env = pure false) (hw : swappedStores [t] e X.env = pure none) (h1 : (assignEach [t] X.env).map (·.2) = [assign t X.env]) :
    PS X (.Assign [t] e pos) (liftS (bs X) (tsetD tg te)) :=
  psI (ps_asg h hg hs hw h1) fun D σ H ⟨ds, G, Dd, hS, hG, ht, w⟩ => by
    refine ⟨ds, G, _, hS, hG, ht, fun x vx G1 H1 f1 hG1 rx h1 => ?_⟩
    split at h1
    · rename_i σ' e1
      exact ⟨x, ds, σ', rx, hS.keep f1.kt, e1, fun σ2 hS2 _ => w.nx σ' σ2 G1 H1 f1 hS2 hG1 h1⟩
    · exact h1.elim
theorem ls_sub {o i : PySem.Expr} {tpos : Pos} {to ti : DTE} (hr : CRoom X) (hi1 : noSlice i = true) (ho : PE X o (liftE (bs X) to)) (hi : PE X i (liftE (bs X) ti)) (h : PE X e (liftE (bs X) te)) :
    PS X (.Assign [.Subscript o i tpos] e pos) (liftS (bs X) fun D σ G => te σ G fun z G1 => to σ G1 fun x G2 => ti σ G2 fun y G3 => dSet x y z G3 fun G4 => D.nx σ G4) :=
  psI (ps_asg h (pg_sub ho hi (do_set hr) (by cases i <;> first | (intros; rfl) | cases hi1)) sole_sub stores_sub rfl) fun D σ H ⟨ds, G, Dd, hS, hG, ht, w⟩ => by
    refine ⟨ds, G, _, hS, hG, ht, fun z vz G1 H1 f1 hG1 rz h1 => ?_⟩
    refine ⟨ds, G1, _, hS.keep f1.kt, hG1, h1, fun x vx G2 H2 f2 hG2 rx h2 => ?_⟩
    refine ⟨ds, G2, _, hS.keep (f1.kt.trans f2.kt), hG2, h2, fun y vy G3 H3 f3 hG3 ry h3 => ?_⟩
    refine ⟨x, y, z, G3, _, rx.keep f3.kt, ry, rz.keep (f2.kt.trans f3.kt), hG3, h3, fun G4 H4 f4 hG4 h4 => ?_⟩
    have k := f1.trans (f2.trans (f3.trans f4))
    exact w.nx ds σ G4 H4 k (hS.keep k.kt) hG4 h4
theorem ip_int {op : Operator} (h : augB op = true) : PIp X op (lift2 (bs X) fun x y G Q => match x, y with | .int _, .int _ => dBin op x y G Q | _, _ => False) := by
  intro pins s σ H x y v u Q I rx ry ⟨dx, dy, G, Qd, hx, hy, hG, hd, w⟩
  cases dx with
  | int i =>
    cases dy with
    | int j =>
      obtain rfl := rInt hx; obtain rfl := rInt hy
      cases op with
      | Add => exact iop_add pins s σ H _ _ v u Q I rx ry ⟨i, j, rfl, rfl, w.int hG hd⟩
      | Sub => exact iop_sub pins s σ H _ _ v u Q I rx ry ⟨i, j, rfl, rfl, w.int hG hd⟩
      | _ => exact absF h
    | _ => exact hd.elim
  | _ => exact hd.elim
def augD (i : Nat) (op : Operator) (te : DTE) : DTS := fun D σ G => match σ[i]? with
    | some (some x) => te σ G fun y G1 => match x, y with
      | .int _, .int _ => dBin op x y G1 fun z G2 => D.nx (σ.set i (some z)) G2
      | _, _ => False
    | _ => False
theorem ls_aug {c : Ce} (ok : CxOk X c) {i : Nat} {x : Str} {p : Pos} {op : Operator} (hop : augB op = true) (hi : decide (c.N[i]? = some x) = true) (hl : locB c x = true) (h : PE X e (liftE (bs X) te)) : PS X (.AugAssign (.Name x p) op e pos) (liftS (bs X) (augD i op te)) := by
  obtain ⟨l1, l2⟩ := ok.loc hl
  refine psI (ps_aug ok.nd (ok.slot hi) l1 h (ip_int hop) l2) fun D σ H ⟨ds, G, Dd, hS, hG, ht, w⟩ => ?_
  unfold augD at ht
  split at ht
  · rename_i x' e1
    obtain ⟨v, e2, rv⟩ := hS.2 i x' e1
    refine ⟨v, e2, ds, G, _, hS, hG, ht, fun y vy G1 H1 f1 hG1 ry h1 => ?_⟩
    exact ⟨x', y, G1, _, rv.keep f1.kt, ry, hG1, h1, fun z vz G2 H2 f2 hG2 rz h2 => w.nx _ _ G2 H2 (f1.trans f2) ((hS.keep (f1.kt.trans f2.kt)).set rz) hG2 h2⟩
  · exact ht.elim
theorem ls_augs {o i : PySem.Expr} {tpos : Pos} {to ti : DTE} {op : Operator} (hr : CRoom X) (hop : augB op = true) (hi1 : noSlice i = true) (ho : PE X o (liftE (bs X) to)) (hi : PE X i (liftE (bs X) ti)) (h : PE X e (liftE (bs X) te)) :
    PS X (.AugAssign (.Subscript o i tpos) op e pos) (liftS (bs X) fun D σ G => to σ G fun x G1 => ti σ G1 fun y G2 => dGet x y G2 fun old G3 => te σ G3 fun z G4 => match old, z with
      | .int _, .int _ => dBin op old z G4 fun new G5 => dSet x y new G5 fun G6 => D.nx σ G6
      | _, _ => False) := by
  have ha : ∀ ov iv new, augStore i ov iv new = (do holding [new, ov, iv] (setItem ov iv new); release [new, ov, iv] []; pure .next) := by
    intro ov iv new
    cases i <;> first | rfl | cases hi1
  refine psI (ps_augS ho hi (do_get hr) h (ip_int hop) (do_set hr) ha) fun D σ H ⟨ds, G, Dd, hS, hG, ht, w⟩ => ?_
  refine ⟨ds, G, _, hS, hG, ht, fun x vx G1 H1 f1 hG1 rx h1 => ?_⟩
  refine ⟨ds, G1, _, hS.keep f1.kt, hG1, h1, fun y vy G2 H2 f2 hG2 ry h2 => ?_⟩
  refine ⟨x, y, G2, _, rx.keep f2.kt, ry, hG2, h2, fun old vo G3 H3 f3 hG3 ro h3 => ?_⟩
  have k3 := f1.trans (f2.trans f3)
  refine ⟨ds, G3, _, hS.keep k3.kt, hG3, h3, fun z vz G4 H4 f4 hG4 rz h4 => ?_⟩
  refine ⟨old, z, G4, _, ro.keep f4.kt, rz, hG4, h4, fun new vn G5 H5 f5 hG5 rn h5 => ?_⟩
  have k35 := f3.trans (f4.trans f5)
  refine ⟨x, y, new, G5, _, rx.keep (f2.trans k35).kt, ry.keep k35.kt, rn, hG5, h5, fun G6 H6 f6 hG6 h6 => ?_⟩
  have k6 := k3.trans (f4.trans (f5.trans f6))
  exact w.nx ds σ G6 H6 k6 (hS.keep k6.kt) hG6 h6
theorem ls_if {tc : DTT} {p q : List PySem.Stmt} {t u : DTS} (hc : PT X e (liftT (bs X) tc)) (ha : PSs X p (liftS (bs X) t)) (hb : PSs X q (liftS (bs X) u)) : PS X (.If e p q pos) (liftS (bs X) fun D σ G => tc σ G fun b G1 => if b = true then t D σ G1 else u D σ G1) :=
  psI (ps_if hc ha hb) fun D σ H ⟨ds, G, Dd, hS, hG, ht, w⟩ => by
    refine ⟨ds, G, _, hS, hG, ht, fun b G1 H1 f1 hG1 h1 => ?_⟩
    show (if b = true then _ else _)
    split at h1
    · rw [if_pos (by assumption)]
      exact ⟨ds, G1, Dd, hS.keep f1.kt, hG1, h1, w.later f1⟩
    · rw [if_neg (by assumption)]
      exact ⟨ds, G1, Dd, hS.keep f1.kt, hG1, h1, w.later f1⟩
theorem ls_for {tg iter : PySem.Expr} {body : List PySem.Stmt} {wi : DTI} {g : Tg} {tb : DTS} (hp : PassesOwn (model X.prog X.w) X.A X.env X.xe) (hc : X.calm = true) (hi : PI X tg iter (liftI (bs X) wi)) (hg : PG X tg (liftG (bs X) g)) (hb : PSs X body (liftS (bs X) tb)) (hs : noSet iter = true) :
    PS X (.For tg iter body [] pos) (liftS (bs X) fun D σ G => wi σ G fun items stay G1 => forW g stay tb D items σ G1) :=
  psI (ps_for hp hc hi hg hb (folded_of hs)) fun D σ H ⟨ds, G, Dd, hS, hG, ht, w⟩ => by
    refine ⟨ds, G, _, hS, hG, ht, fun J items stay G1 H1 f1 hG1 h1 jk => ?_⟩
    refine ⟨fun i m σ H => i + m = items.length ∧ ∃ ds G, Frm G1 H1 G H ∧ RepS (bs X) H ds σ ∧ RepG (bs X) H G ∧ forW g stay tb Dd (items.drop i) ds G, ⟨items.length, by omega, ds, G1, .refl, hS.keep f1.kt, hG1, h1⟩, ?_⟩
    rintro i m σ2 H2 ⟨hm, ds2, G2, f2, hS2, hG2, h2⟩
    by_cases hi : i < items.length
    · rw [List.drop_eq_getElem_cons hi] at h2
      obtain ⟨st, h2⟩ := h2
      refine .inr ⟨jk.go i G2 H2 f2.kt hG2 st hi, fun σ H => (i + 1) + (m - 1) = items.length ∧ ∃ ds G, Frm G1 H1 G H ∧ RepS (bs X) H ds σ ∧ RepG (bs X) H G ∧ forW g stay tb Dd (items.drop (i + 1)) ds G, fun σ' H' q => ⟨m - 1, by omega, q⟩, fun x Hn hy => ?_⟩
      obtain ⟨d, e1, rx, f3, hG3⟩ := jk.yld i G2 H2 x Hn f2.kt hG2 st hi hy
      rw [List.getElem?_eq_getElem hi] at e1
      cases e1
      split at h2
      · rename_i σ' e2
        refine ⟨_, ds2, σ', rx, hS2.keep f3.kt, e2, fun σ3 hS3 _ => ?_⟩
        have f13 := f2.trans f3
        refine ⟨σ', G2, _, hS3, hG3, h2, ⟨fun ds4 σ4 G4 H4 f4 hS4 hG4 q => ⟨by omega, ds4, G4, f13.trans f4, hS4, hG4, q⟩, fun d v G4 H4 f4 hG4 r q => w.rt d v G4 H4 (f1.trans (f13.trans f4)) hG4 r q, fun ds4 σ4 G4 H4 f4 hS4 hG4 q => w.nx ds4 σ4 G4 H4 (f1.trans (f13.trans f4)) hS4 hG4 q, fun ds4 σ4 G4 H4 f4 hS4 hG4 q => ⟨by omega, ds4, G4, f13.trans f4, hS4, hG4, q⟩⟩⟩
      · exact h2.elim
    · rw [List.drop_eq_nil_of_le (by omega)] at h2
      obtain ⟨st, h2⟩ := h2
      exact .inl ⟨jk.stop i G2 H2 f2.kt hG2 st (by omega), w.nx ds2 σ2 G2 H2 (f1.trans f2) hS2 hG2 h2⟩
theorem ls_whl {body : List PySem.Stmt} {tc : DTT} {tb : DTS} (hp : PassesOwn (model X.prog X.w) X.A X.env X.xe) (hc : PT X e (liftT (bs X) tc)) (hb : PSs X body (liftS (bs X) tb)) :
    PS X (.While e body [] pos) (liftS (bs X) fun D σ G => ∃ n, whlW tc tb D n σ G) :=
  psI (ps_while hp hc hb) fun D σ H ⟨ds, G, Dd, hS, hG, ⟨n, ht⟩, w⟩ => by
    refine ⟨fun m σ' H' => ∃ ds' G', Frm G H G' H' ∧ RepS (bs X) H' ds' σ' ∧ RepG (bs X) H' G' ∧ whlW tc tb Dd m ds' G', ⟨n, ds, G, .refl, hS, hG, ht⟩, ?_⟩
    rintro m σ2 H2 ⟨ds2, G2, f2, hS2, hG2, h2⟩
    cases m with
    | zero => exact h2.elim
    | succ m =>
      refine ⟨ds2, G2, _, hS2, hG2, h2, fun b G3 H3 f3 hG3 h3 => ?_⟩
      have f23 := f2.trans f3
      show (if b = true then _ else _)
      split at h3
      · rw [if_pos (by assumption)]
        refine ⟨fun σ' H' => ∃ ds' G', Frm G H G' H' ∧ RepS (bs X) H' ds' σ' ∧ RepG (bs X) H' G' ∧ whlW tc tb Dd m ds' G', fun σ' H' q => ⟨m, Nat.lt_succ_self m, q⟩, ?_⟩
        refine ⟨ds2, G3, _, hS2.keep f3.kt, hG3, h3, ⟨fun ds4 σ4 G4 H4 f4 hS4 hG4 q => ⟨ds4, G4, f23.trans f4, hS4, hG4, q⟩, fun d v G4 H4 f4 hG4 r q => w.rt d v G4 H4 (f23.trans f4) hG4 r q, fun ds4 σ4 G4 H4 f4 hS4 hG4 q => w.nx ds4 σ4 G4 H4 (f23.trans f4) hS4 hG4 q, fun ds4 σ4 G4 H4 f4 hS4 hG4 q => ⟨ds4, G4, f23.trans f4, hS4, hG4, q⟩⟩⟩
      · rw [if_neg (by assumption)]
        exact w.nx ds2 σ2 G3 H3 f23 (hS2.keep f3.kt) hG3 h3
theorem nost_no {e : PySem.Expr} {p : Prop} (q : (match e with | .Starred value pos => true | x => false) = true) (h : nost e = true) : p := by
  cases e <;> first | exact absurd h Bool.false_ne_true | exact absurd q Bool.false_ne_true
/-- x, y = a, b -/
theorem swap2 {x y : Str} {px py : Pos} {k k2 : Nat} {p p2 : Pos} {env : Env} (hk : env.scope.kind = .function) (hx : env.scope.names.lookup x = some .local) (hy : env.scope.names.lookup y = some .local) (hl : (px.line == py.line) = true) (hne : x ≠ y) (ha : nost a = true) (hb : nost b = true)
    (h1 : ([a, b].all (foldedForSure 8)) = false) (h2 : ([a, b].all (constantsAlone 8)) = false) : swappedStores [.Tuple [.Name x px, .Name y py] k p] (.Tuple [a, b] k2 p2) env = pure (some [x, y]) := by
  have kx : env.kindOf x = some .local := hx
  have ky : env.kindOf y = some .local := hy
  have hbk : env.blockKind = .function := by unfold Env.blockKind; rw [hk]; rfl
  have hne' : (y == x) = false := beq_eq_false_iff_ne.mpr (Ne.symm hne)
  have hl2 : py.line = px.line := (beq_iff_eq.mp hl).symm
  unfold swappedStores
  simp only [hbk, h1, h2]
  simp [kx, ky, hl2, PySem.Expr.pos, hne', List.eraseDups_cons, hne, Ne.symm hne]
  rintro (h | h)
  · exact nost_no h ha
  · exact nost_no h hb
theorem swap3 {x y z : Str} {d : PySem.Expr} {px py pz : Pos} {k k2 : Nat} {p p2 : Pos} {env : Env} (hk : env.scope.kind = .function) (hx : env.scope.names.lookup x = some .local) (hy : env.scope.names.lookup y = some .local) (hz : env.scope.names.lookup z = some .local) (hl : (px.line == py.line) = true) (hl3 : (px.line == pz.line) = true) (hxy : x ≠ y) (hxz : x ≠ z) (hyz : y ≠ z) (ha : nost a = true) (hb : nost b = true) (hd : nost d = true)
    (h1 : ([a, b, d].all (foldedForSure 8)) = false) (h2 : ([a, b, d].all (constantsAlone 8)) = false) : swappedStores [.Tuple [.Name x px, .Name y py, .Name z pz] k p] (.Tuple [a, b, d] k2 p2) env = pure (some [x, y, z]) := by
  have kx : env.kindOf x = some .local := hx
  have ky : env.kindOf y = some .local := hy
  have kz : env.kindOf z = some .local := hz
  have hbk : env.blockKind = .function := by unfold Env.blockKind; rw [hk]; rfl
  have e1 : (y == x) = false := beq_eq_false_iff_ne.mpr (Ne.symm hxy)
  have e2 : (z == x) = false := beq_eq_false_iff_ne.mpr (Ne.symm hxz)
  have e3 : (z == y) = false := beq_eq_false_iff_ne.mpr (Ne.symm hyz)
  have hl2 : py.line = px.line := (beq_iff_eq.mp hl).symm
  have hl4 : pz.line = px.line := (beq_iff_eq.mp hl3).symm
  unfold swappedStores
  simp only [hbk, h1, h2]
  simp [kx, ky, kz, hl2, hl4, PySem.Expr.pos, e1, e2, e3, List.eraseDups_cons, hxy, Ne.symm hxy, hxz, Ne.symm hxz, hyz, Ne.symm hyz]
  rintro (h | h | h)
  · exact nost_no h ha
  · exact nost_no h hb
  · exact nost_no h hd
def par2D (i j : Nat) (ta : DTA) : DTS := fun D σ G => ta σ G fun l G1 => match l with
  | [x, y] => D.nx ((σ.set i (some x)).set j (some y)) G1
  | _ => False
theorem ls_par2 {c : Ce} (ok : CxOk X c) {i j : Nat} {ts vs : List PySem.Expr} {k k2 : Nat} {p p2 : Pos} {ta : DTA} (h : parB c i j ts vs = true) (ha : PA X vs (liftA (bs X) ta)) : PS X (.Assign [.Tuple ts k p] (.Tuple vs k2 p2) pos) (liftS (bs X) (par2D i j ta)) := by
  match ts, vs, h, ha with
  | [.Name x px, .Name y py], [a, b], h, ha =>
    simp only [parB, Bool.and_eq_true, Bool.not_eq_true', decide_eq_true_eq] at h
    obtain ⟨⟨⟨⟨⟨⟨⟨⟨⟨⟨h1, h2⟩, h3⟩, h4⟩, h5⟩, h6⟩, h7⟩, h8⟩, h9⟩, h10⟩, h11⟩ := h
    rw [← ok.sc] at h4 h5
    refine psI (ps_par ok.calm ok.nd (by rw [ok.n]; exact h1) (by rw [ok.n]; exact h2) h3 h4 h5 ha (swap2 ok.kind h4 h5 h6 h7 h8 h9 h10 h11)) fun D σ H ⟨ds, G, Dd, hS, hG, ht, w⟩ => ?_
    refine ⟨ds, G, _, hS, hG, ht, fun l us G1 H1 f1 hG1 hl h1 => ?_⟩
    split at h1
    · simp only [RepL] at hl
      obtain ⟨u, r, rfl, ru, v, r2, rfl, rv, rfl⟩ := hl
      exact ⟨u, v, rfl, w.nx _ _ G1 H1 f1 (((hS.keep f1.kt).set ru).set rv) hG1 h1⟩
    · exact h1.elim
def par3D (i j k : Nat) (ta : DTA) : DTS := fun D σ G => ta σ G fun l G1 => match l with
  | [x, y, z] => D.nx (((σ.set i (some x)).set j (some y)).set k (some z)) G1
  | _ => False
theorem ls_par3 {c : Ce} (ok : CxOk X c) {i j l : Nat} {ts vs : List PySem.Expr} {k k2 : Nat} {p p2 : Pos} {ta : DTA} (h : par3B c i j l ts vs = true) (ha : PA X vs (liftA (bs X) ta)) : PS X (.Assign [.Tuple ts k p] (.Tuple vs k2 p2) pos) (liftS (bs X) (par3D i j l ta)) := by
  match ts, vs, h, ha with
  | [.Name x px, .Name y py, .Name z pz], [a, b, d], h, ha =>
    simp only [par3B, Bool.and_eq_true, Bool.not_eq_true', decide_eq_true_eq] at h
    obtain ⟨⟨⟨⟨⟨⟨⟨⟨⟨⟨⟨⟨⟨⟨⟨⟨⟨⟨h1, h2⟩, h3⟩, h4⟩, h5⟩, h6⟩, h7⟩, h8⟩, h9⟩, h10⟩, h11⟩, h12⟩, h13⟩, h14⟩, h15⟩, h16⟩, h17⟩, h18⟩, h19⟩ := h
    rw [← ok.sc] at h7 h8 h9
    refine psI (ps_par3 ok.calm ok.nd (by rw [ok.n]; exact h1) (by rw [ok.n]; exact h2) (by rw [ok.n]; exact h3) h4 h5 h6 h7 h8 h9 ha (swap3 ok.kind h7 h8 h9 h10 h11 h12 h13 h14 h15 h16 h17 h18 h19)) fun D σ H ⟨ds, G, Dd, hS, hG, ht, w⟩ => ?_
    refine ⟨ds, G, _, hS, hG, ht, fun l us G1 H1 f1 hG1 hl h1 => ?_⟩
    split at h1
    · simp only [RepL] at hl
      obtain ⟨u, r, rfl, ru, v, r2, rfl, rv, x3, r3, rfl, rx, rfl⟩ := hl
      exact ⟨u, v, x3, rfl, w.nx _ _ G1 H1 f1 ((((hS.keep f1.kt).set ru).set rv).set rx) hG1 h1⟩
    · exact h1.elim
/-- name = [..]: whether it lands before the block lets go hangs on the lines -/
theorem sw_lc {elt : PySem.Expr} {gs : List Comprehension} {scope : Scope} {y : Str} {py p : Pos} {l : Nat} (hk : X.env.scope.kind = .function) : ∃ b : Bool, swapsWith (.ListComp elt gs scope p) (some (.Name y py)) l X.env = pure b ∧ (b = true → X.env.scope.names.lookup y = some .local) := by
  refine ⟨_, rfl, fun h => ?_⟩
  simp only [Bool.and_eq_true] at h
  exact eq_of_beq h.1.1.2
end
theorem noc_of {e : PySem.Expr} {a : Ex} (h : (isLc a || noComp e) = true) (h2 : isLc a = false) : noComp e = true := by rw [h2] at h; exact h
theorem set_any {X : Cx} {c : Ce} {e : Ex} (ok : CxOk X c) (nd : e.need (NeedOk X)) {i : Nat} {x : Str} {p pos : Pos} {y : PySem.Expr} (h1 : decide (c.N[i]? = some x) = true) (h2 : locB c x = true) (h3 : noComp y = true) (h : chkE c e y = true) : PS X (.Assign [.Name x p] y pos) (liftS (bs X) (setD i (wpE e))) :=
  ls_set ok h1 h2 (sE e X c y ok nd h).e (sw_false h3)
theorem set_lc {X : Cx} {c : Ce} {own : List (Str × Nat)} {tg : Tg} {it : Ib} {cd : Op} {el : Ex} (ok : CxOk X c) (nd : (Ex.lc own tg it cd el).need (NeedOk X)) {i0 : Nat} {x : Str} {p0 pos : Pos} {e : PySem.Expr} (h1' : decide (c.N[i0]? = some x) = true) (h2' : locB c x = true) (h : chkE c (Ex.lc own tg it cd el) e = true) : PS X (.Assign [.Name x p0] e pos) (liftS (bs X) (setD i0 (wpE (Ex.lc own tg it cd el)))) := by
    cases e with
    | ListComp y gs scope p =>
      obtain ⟨b, eb, el'⟩ := sw_lc (X := X) (elt := y) (gs := gs) (scope := scope) (y := x) (py := p0) (p := p) (l := pos.line) ok.kind
      cases b with
      | false => exact ls_set ok h1' h2' (sE _ X c _ ok nd h).e eb
      | true =>
      match gs, h with
      | [⟨t, i, ifs, ia⟩], h =>
        simp only [chkE, Bool.and_eq_true] at h
        obtain ⟨⟨⟨⟨⟨⟨h0, h1⟩, h2⟩, h3⟩, h4⟩, h5⟩, h6⟩ := h
        obtain rfl : ia = 0 := of_decide_eq_true h0
        have hv : ∀ j ∈ tgS tg, j ∈ own.map (·.2) := fun j hj => of_decide_eq_true (List.all_eq_true.mp h2 j hj)
        exact psI (ps_setLc ok.calm ok.nd (ok.slot h1') (el' rfl) eb (sI it X c i t ok nd.1 h3) (blk_ok ok h1) (fun s H C cl fp => lg (X := X.blk s H scope (compEnvC scope cl C X.env) fp) (ok.blk s H (blk_ok ok h1).kind cl C fp) tg t h4)
          (fun s H C cl fp => sC cd (X.blk s H scope (compEnvC scope cl C X.env) fp) (blkCe c scope) ifs (ok.blk s H (blk_ok ok h1).kind cl C fp) (by rw [need_blk]; exact nd.2.1) h5)
          (fun s H C cl fp => (sE el (X.blk s H scope (compEnvC scope cl C X.env) fp) (blkCe c scope) y (ok.blk s H (blk_ok ok h1).kind cl C fp) (by rw [need_blk]; exact nd.2.2) h6).e) (folded_of (chkI_set h3))) fun D σ H q => lc_ent hv (set_ent q)
      | [], h => exact absF h
      | ⟨_, _, _, _⟩ :: ⟨_, _, _, _⟩ :: _, h => exact absF h
    | _ => exact absF h
theorem set_lc2 {X : Cx} {c : Ce} {own : List (Str × Nat)} {tg tg2 : Tg} {it it2 : Ib} {el : Ex} (ok : CxOk X c) (nd : (Ex.lc2 own tg it tg2 it2 el).need (NeedOk X)) {i0 : Nat} {x : Str} {p0 pos : Pos} {e : PySem.Expr} (h1' : decide (c.N[i0]? = some x) = true) (h2x : locB c x = true) (h : chkE c (Ex.lc2 own tg it tg2 it2 el) e = true) : PS X (.Assign [.Name x p0] e pos) (liftS (bs X) (setD i0 (wpE (Ex.lc2 own tg it tg2 it2 el)))) := by
    cases e with
    | ListComp y gs scope p =>
      obtain ⟨b, eb, el'⟩ := sw_lc (X := X) (elt := y) (gs := gs) (scope := scope) (y := x) (py := p0) (p := p) (l := pos.line) ok.kind
      cases b with
      | false => exact ls_set ok h1' h2x (sE _ X c _ ok nd h).e eb
      | true =>
      match gs, h with
      | [⟨t, i, ifs, ia⟩, ⟨t2, i2, ifs2, ia2⟩], h =>
        simp only [chkE, Bool.and_eq_true] at h
        obtain ⟨⟨⟨⟨⟨⟨⟨⟨⟨⟨⟨ha, hb⟩, hc⟩, hd⟩, h1⟩, h2⟩, h2'⟩, h3⟩, h4⟩, h5⟩, h6⟩, h7⟩ := h
        obtain rfl : ia = 0 := of_decide_eq_true ha
        obtain rfl : ia2 = 0 := of_decide_eq_true hb
        obtain rfl : ifs = [] := List.isEmpty_iff.mp hc
        obtain rfl : ifs2 = [] := List.isEmpty_iff.mp hd
        have hv : ∀ j ∈ tgS tg, j ∈ own.map (·.2) := fun j hj => of_decide_eq_true (List.all_eq_true.mp h2 j hj)
        have hv2 : ∀ j ∈ tgS tg2, j ∈ own.map (·.2) := fun j hj => of_decide_eq_true (List.all_eq_true.mp h2' j hj)
        have hy : ∀ X : Cx, PTs X [] (liftT (bs X) yesC) := fun X => ⟨fun pins s σ H Q I ⟨ds, G, Qd, hS, hG, ht, w⟩ => pts_nil.run pins s σ H Q I (w true G H .refl hG ht)⟩
        exact psI (ps_setLc2 ok.calm ok.nd (ok.slot h1') (el' rfl) eb (sI it X c i t ok nd.1 h3) (blk_ok ok h1) hv2 (fun s H C cl fp => lg (X := X.blk s H scope (compEnvC scope cl C X.env) fp) (ok.blk s H (blk_ok ok h1).kind cl C fp) tg t h4)
            (fun s H C cl fp => pts_nil)
            (fun s H C cl fp => (sI it2 (X.blk s H scope (compEnvC scope cl C X.env) fp) (blkCe c scope) i2 t2 (ok.blk s H (blk_ok ok h1).kind cl C fp) (by rw [need_blk]; exact nd.2.1) h5))
            (fun s H C cl fp => lg (X := X.blk s H scope (compEnvC scope cl C X.env) fp) (ok.blk s H (blk_ok ok h1).kind cl C fp) tg2 t2 h6)
            (fun s H C cl fp => hy _)
            (fun s H C cl fp => (sE el (X.blk s H scope (compEnvC scope cl C X.env) fp) (blkCe c scope) y (ok.blk s H (blk_ok ok h1).kind cl C fp) (by rw [need_blk]; exact nd.2.2) h7).e) (folded_of (chkI_set h3))
            (fun env => folded_of (chkI_set h5))) fun D σ H q => lc2_ent hv (set_ent q)
      | [], h => exact absF h
      | [⟨_, _, _, _⟩], h => exact absF h
      | ⟨_, _, _, _⟩ :: ⟨_, _, _, _⟩ :: ⟨_, _, _, _⟩ :: _, h => exact absF h
    | _ => exact absF h
theorem chkTgs_star {c : Ce} : ∀ {l : List Tg} {es : List PySem.Expr}, chkTgs c l es = true → es.any (fun e => !nost e) = false
  | [], [], _ => rfl
  | [], _ :: _, h => absF h
  | _ :: _, [], h => absF h
  | t :: l, e :: es, h => by
    simp only [chkTgs, Bool.and_eq_true] at h
    rw [List.any_cons, h.1.1, chkTgs_star h.2]; rfl
theorem l_next {X : Cx} {s : PySem.Stmt} (h : PS X s tNext) : PS X s (liftS (bs X) fun D σ G => D.nx σ G) := psI h fun D σ H ⟨ds, G, Dd, hS, hG, ht, w⟩ => w.nx ds σ G H .refl hS hG ht
mutual
theorem sS : ∀ (t : Sm) (X : Cx) (c : Ce) (s : PySem.Stmt), CxOk X c → t.need (NeedOk X) → chkS c t s = true → PS X s (liftS (bs X) (wpS t))
  | .pass, X, c, s, ok, nd, h => by
    cases s with
    | Pass p => exact l_next ps_pass
    | Expr e p =>
      cases e with
      | Constant k j p =>
        cases k with
        | str x => exact l_next ps_doc
        | _ => exact absF h
      | _ => exact absF h
    | _ => exact absF h
  | .brk, X, c, s, ok, nd, h => by
    cases s with
    | Break p => exact psI ps_break fun D σ H ⟨ds, G, Dd, hS, hG, ht, w⟩ => w.bk ds σ G H .refl hS hG ht
    | _ => exact absF h
  | .cnt, X, c, s, ok, nd, h => by
    cases s with
    | Continue p => exact psI ps_continue fun D σ H ⟨ds, G, Dd, hS, hG, ht, w⟩ => w.ct ds σ G H .refl hS hG ht
    | _ => exact absF h
  | .retn, X, c, s, ok, nd, h => by
    cases s with
    | Return o p =>
      cases o with
      | none => exact psI ps_retN fun D σ H ⟨ds, G, Dd, hS, hG, ht, w⟩ => w.rt .non .non G H .refl hG (by rw [RepV]) ht
      | some _ => exact absF h
    | _ => exact absF h
  | .expr e, X, c, s, ok, nd, h => by
    cases s with
    | Expr x p =>
      simp only [chkS, Bool.and_eq_true] at h
      exact ls_expr (sE e X c x ok nd h.2).e h.1
    | _ => exact absF h
  | .ret e, X, c, s, ok, nd, h => by
    cases s with
    | Return o p =>
      cases o with
      | none => exact absF h
      | some x => exact ls_ret (sE e X c x ok nd h).e
    | _ => exact absF h
  | .set i e, X, c, s, ok, nd, h => by
    cases s with
    | Assign ts y p =>
      match ts, h with
      | [.Name x q], h =>
        simp only [chkS, Bool.and_eq_true] at h
        obtain ⟨⟨⟨h1, h2⟩, h3⟩, h4⟩ := h
        by_cases hl : isLc e = false
        · exact set_any ok nd h1 h2 (noc_of h3 hl) h4
        · cases e with
          | lc own tg it cd el => exact set_lc ok nd h1 h2 h4
          | lc2 own tg it tg2 it2 el => exact set_lc2 ok nd h1 h2 h4
          | _ => exact absurd rfl hl
    | _ => exact absF h
  | .tset tg e, X, c, s, ok, nd, h => by
    cases s with
    | Assign ts y p =>
      match ts, h with
      | [.Tuple es k q], h =>
        simp only [chkS, Bool.and_eq_true] at h
        cases tg with
        | tp l =>
          exact ls_tset (lg ok (.tp l) (.Tuple es k q) h.1.2) (sE e X c y ok nd h.2).e sole_tup (stores_tup h.1.1) rfl
        | _ => exact absF h.1.2
    | _ => exact absF h
  | .par2 i j a b, X, c, s, ok, nd, h => by
    cases s with
    | Assign ts y p =>
      match ts, y, h with
      | [.Tuple es k q], .Tuple vs k2 q2, h =>
        simp only [chkS, Bool.and_eq_true] at h
        exact ls_par2 ok h.1 (sA (.cons a (.cons b .nil)) X c vs ok ⟨nd.1, nd.2, trivial⟩ h.2)
    | _ => exact absF h
  | .par3 i j k a b d, X, c, s, ok, nd, h => by
    cases s with
    | Assign ts y p =>
      match ts, y, h with
      | [.Tuple es k q], .Tuple vs k2 q2, h =>
        simp only [chkS, Bool.and_eq_true] at h
        exact ls_par3 ok h.1 (sA (.cons a (.cons b (.cons d .nil))) X c vs ok ⟨nd.1, nd.2.1, nd.2.2, trivial⟩ h.2)
    | _ => exact absF h
  | .sub o i v, X, c, s, ok, nd, h => by
    cases s with
    | Assign ts y p =>
      match ts, h with
      | [.Subscript x z q], h =>
        simp only [chkS, Bool.and_eq_true] at h
        obtain ⟨⟨⟨h1, h2⟩, h3⟩, h4⟩ := h
        exact ls_sub ok.room h1 (sE o X c x ok nd.1 h2).e (sE i X c z ok nd.2.1 h3).e (sE v X c y ok nd.2.2 h4).e
    | _ => exact absF h
  | .aug i op e, X, c, s, ok, nd, h => by
    cases s with
    | AugAssign t op' y p =>
      cases t with
      | Name x q =>
        simp only [chkS, Bool.and_eq_true] at h
        obtain ⟨⟨⟨⟨h1, h2⟩, h3⟩, h4⟩, h5⟩ := h
        obtain rfl := of_decide_eq_true h2
        exact ls_aug ok h1 h3 h4 (sE e X c y ok nd h5).e
      | _ => exact absF h
    | _ => exact absF h
  | .augs o i op e, X, c, s, ok, nd, h => by
    cases s with
    | AugAssign t op' y p =>
      cases t with
      | Subscript x z q =>
        simp only [chkS, Bool.and_eq_true] at h
        obtain ⟨⟨⟨⟨⟨h1, h2⟩, h3⟩, h4⟩, h5⟩, h6⟩ := h
        obtain rfl := of_decide_eq_true h2
        exact ls_augs ok.room h1 h3 (sE o X c x ok nd.1 h4).e (sE i X c z ok nd.2.1 h5).e (sE e X c y ok nd.2.2 h6).e
      | _ => exact absF h
    | _ => exact absF h
  | .ifs t a b, X, c, s, ok, nd, h => by
    cases s with
    | If x p q pos =>
      simp only [chkS, Bool.and_eq_true] at h
      exact ls_if (sE t X c x ok nd.1 h.1.1).t (sB a X c p ok nd.2.1 h.1.2) (sB b X c q ok nd.2.2 h.2)
    | _ => exact absF h
  | .for tg it b, X, c, s, ok, nd, h => by
    cases s with
    | For t i p o pos =>
      cases o with
      | nil =>
        simp only [chkS, Bool.and_eq_true] at h
        obtain ⟨⟨⟨h1, h2⟩, h3⟩, h4⟩ := h
        exact ls_for ok.own ok.calm (sI it X c i t ok nd.1 h2) (lg ok tg t h3) (sB b X c p ok nd.2 h4) h1
      | cons _ _ => exact absF h
    | _ => exact absF h
  | .whl t b, X, c, s, ok, nd, h => by
    cases s with
    | While x p o pos =>
      cases o with
      | nil =>
        simp only [chkS, Bool.and_eq_true] at h
        exact ls_whl ok.own (sE t X c x ok nd.1 h.1).t (sB b X c p ok nd.2 h.2)
      | cons _ _ => exact absF h
    | _ => exact absF h
theorem sB : ∀ (t : Bl) (X : Cx) (c : Ce) (s : List PySem.Stmt), CxOk X c → t.need (NeedOk X) → chkB c t s = true → PSs X s (liftS (bs X) (wpB t))
  | .nil, X, c, s, ok, nd, h => by
    cases s with
    | nil => exact ls_nil
    | cons _ _ => exact absF h
  | .cons x r, X, c, s, ok, nd, h => by
    cases s with
    | nil => exact absF h
    | cons y l =>
      simp only [chkB, Bool.and_eq_true] at h
      have := ls_cons (sS x X c y ok nd.1 h.1) (sB r X c l ok nd.2 h.2)
      exact this
end
end BD

/-! BD12: a def by its body; the module's facts; a law's walk. -/
namespace BD
open PySem PySem.Spec PyProof.Rows L2

def retD (Q : DK) : DEnds := ⟨fun _ G' => ∃ Gf, Sub Gf G' ∧ Q .non Gf, fun d G' => ∃ Gf, Sub Gf G' ∧ Q d Gf, fun _ _ => False, fun _ _ => False⟩
def dstart (n : Nat) (l : List Dv) : DSt := l.map some ++ List.replicate (n - l.length) none

section
variable (P : Program) (w : World) (K : PySem.W.Frag) (mg : Str → Option Value) (base : Heap)
/-- a def of the module keeps the promise sp (k: how deep it calls) -/
def FnG (k : Nat) (f : Str) (sp : DSp) : Prop := ∃ (fa : Addr) (fd : FuncData) (ps : List Str), FnOk P w K mg base CX0 k fa fd ps (fun vs H Q _ => liftC ⟨K, P, w⟩ sp vs H Q) ∧ mg f = some (.ref fa) ∧ PySem.W.keepIn K (.ref fa) = true ∧ Binds K fd ps []
def NdG (k : Nat) : Need → Prop
  | .fn f sp => FnG P w K mg base k f sp
  | .gl x d => ∃ u, mg x = some u ∧ ∀ H, RepU ⟨K, P, w⟩ H d u
  | .nb x => mg x = none
end
mutual
theorem Ex.need_mono {P P' : Need → Prop} (i : ∀ n, P n → P' n) : ∀ (e : Ex), e.need P → e.need P'
  | .glob x d, h => i _ h
  | .bin _ a b, h => ⟨a.need_mono i h.1, b.need_mono i h.2⟩
  | .neg a, h => a.need_mono i h
  | .cmp _ a b, h => ⟨a.need_mono i h.1, b.need_mono i h.2⟩
  | .chn _ _ a b c, h => ⟨a.need_mono i h.1, b.need_mono i h.2.1, c.need_mono i h.2.2⟩
  | .one a, h => a.need_mono i h
  | .and a b, h => ⟨a.need_mono i h.1, b.need_mono i h.2⟩
  | .or a b, h => ⟨a.need_mono i h.1, b.need_mono i h.2⟩
  | .not a, h => a.need_mono i h
  | .ife c a b, h => ⟨c.need_mono i h.1, a.need_mono i h.2.1, b.need_mono i h.2.2⟩
  | .tup as, h => as.need_mono i h
  | .lst as, h => as.need_mono i h
  | .ix a b, h => ⟨a.need_mono i h.1, b.need_mono i h.2⟩
  | .sl a l h', h => ⟨a.need_mono i h.1, l.need_mono i h.2.1, h'.need_mono i h.2.2⟩
  | .call f sp as, h => ⟨i _ h.1, as.need_mono i h.2⟩
  | .bcl b as, h => ⟨i _ h.1, (by
      have h2 := h.2.1
      revert h2
      cases biTy b with
      | none => exact fun x => x
      | some x => exact i _), as.need_mono i h.2.2⟩
  | .mth _ o as, h => ⟨o.need_mono i h.1, as.need_mono i h.2⟩
  | .lc _ _ it c e, h => ⟨it.need_mono i h.1, c.need_mono i h.2.1, e.need_mono i h.2.2⟩
  | .lc2 _ _ it _ it2 e, h => ⟨it.need_mono i h.1, it2.need_mono i h.2.1, e.need_mono i h.2.2⟩
  | .var _, _ => trivial
  | .cint _, _ => trivial
  | .cstr _, _ => trivial
  | .cbl _, _ => trivial
  | .cnon, _ => trivial
  | .emp, _ => trivial
theorem Ar.need_mono {P P' : Need → Prop} (i : ∀ n, P n → P' n) : ∀ (e : Ar), e.need P → e.need P'
  | .nil, _ => trivial
  | .cons e r, h => ⟨e.need_mono i h.1, r.need_mono i h.2⟩
theorem Op.need_mono {P P' : Need → Prop} (i : ∀ n, P n → P' n) : ∀ (e : Op), e.need P → e.need P'
  | .no, _ => trivial
  | .yes e, h => e.need_mono i h
theorem Ib.need_mono {P P' : Need → Prop} (i : ∀ n, P n → P' n) : ∀ (e : Ib), e.need P → e.need P'
  | .seq e, h => e.need_mono i h
  | .rng1 a, h => ⟨i _ h.1, a.need_mono i h.2⟩
  | .rng2 a b, h => ⟨i _ h.1, a.need_mono i h.2.1, b.need_mono i h.2.2⟩
  | .enum a, h => ⟨i _ h.1, a.need_mono i h.2⟩
  | .zip a b, h => ⟨i _ h.1, a.need_mono i h.2.1, b.need_mono i h.2.2⟩
  | .items a, h => a.need_mono i h
  | .vals a, h => a.need_mono i h
  | .rev a, h => ⟨i _ h.1, a.need_mono i h.2⟩
end
mutual
theorem Sm.need_mono {P P' : Need → Prop} (i : ∀ n, P n → P' n) : ∀ (e : Sm), e.need P → e.need P'
  | .expr e, h => e.need_mono i h
  | .ret e, h => e.need_mono i h
  | .set _ e, h => e.need_mono i h
  | .tset _ e, h => e.need_mono i h
  | .par2 _ _ a b, h => ⟨a.need_mono i h.1, b.need_mono i h.2⟩
  | .par3 _ _ _ a b c, h => ⟨a.need_mono i h.1, b.need_mono i h.2.1, c.need_mono i h.2.2⟩
  | .sub o j v, h => ⟨o.need_mono i h.1, j.need_mono i h.2.1, v.need_mono i h.2.2⟩
  | .aug _ _ e, h => e.need_mono i h
  | .augs o j _ e, h => ⟨o.need_mono i h.1, j.need_mono i h.2.1, e.need_mono i h.2.2⟩
  | .ifs c a b, h => ⟨c.need_mono i h.1, a.need_mono i h.2.1, b.need_mono i h.2.2⟩
  | .for _ it b, h => ⟨it.need_mono i h.1, b.need_mono i h.2⟩
  | .whl c b, h => ⟨c.need_mono i h.1, b.need_mono i h.2⟩
  | .pass, _ => trivial
  | .brk, _ => trivial
  | .cnt, _ => trivial
  | .retn, _ => trivial
theorem Bl.need_mono {P P' : Need → Prop} (i : ∀ n, P n → P' n) : ∀ (e : Bl), e.need P → e.need P'
  | .nil, _ => trivial
  | .cons s r, h => ⟨s.need_mono i h.1, r.need_mono i h.2⟩
end
theorem RepS.start {B : Bs} {H : Hp} {l : List Dv} {vs : List V} (h : RepL B H l vs) (N : List Str) : RepS B H (dstart N.length l) (L2.start N vs) := by
  have hl := h.length
  unfold dstart L2.start
  refine ⟨by simp [hl], fun i d e => ?_⟩
  by_cases hi : i < l.length
  · rw [List.getElem?_append_left (by simpa using hi)] at e
    rw [List.getElem?_append_left (by simpa [hl] using hi)]
    rw [List.getElem?_map] at e
    cases e2 : l[i]? with
    | none => rw [e2] at e; cases e
    | some d' =>
      rw [e2] at e
      cases e
      obtain ⟨v, e3, r⟩ := h.get e2
      exact ⟨v, by rw [List.getElem?_map, e3]; rfl, r⟩
  · rw [List.getElem?_append_right (by simpa using hi)] at e
    simp [List.getElem?_replicate] at e
section
variable {P : Program} {w : World} {K : PySem.W.Frag} {mg : Str → Option Value} {base : Heap}
theorem FnG.mono {j k : Nat} {f : Str} {sp : DSp} (h : FnG P w K mg base j f sp) (hk : j ≤ k) : FnG P w K mg base k f sp := by
  obtain ⟨fa, fd, ps, h1, h2⟩ := h
  exact ⟨fa, fd, ps, h1.mono hk, h2⟩
/-- a def, by its body in small -/
theorem def_fn {x qual : Str} {params : Arguments} {body : List PySem.Stmt} {scope : Scope} {f : Addr} {fd : FuncData} {N ps : List Str} {t : Bl} {k : Nat} {sp : DSp}
    (F : FunD K x qual params body scope [] [] f fd) (S : C8.scC N ps scope = true) (hc : chkB ⟨N, scope, fun _ => true⟩ t body = true)
    (nd : t.need (NdG P w K mg base k)) (law : ∀ l G Q, sp l G Q → l.length = ps.length ∧ wpB t (retD Q) (dstart N.length l) G) : FnOk P w K mg base CX0 (k + 1) f fd ps (fun vs H Q _ => liftC ⟨K, P, w⟩ sp vs H Q) := by
  have S' := C8.fnScope_by S
  refine F.ok S' (fun vs H Q E ⟨l, G, Qd, hl, hG, ht, _⟩ => ?_) (fun cdv A outer s H vs Q E hr ⟨l, G, Qd, hl, hG, ht, wi⟩ => ?_)
  · rw [hl.length]; exact (law l G Qd ht).1
  · let X : Cx := (cxOf CX0 P w K mg base N qual scope f cdv A outer s H E).nox
    have ok : CxOk X ⟨N, scope, fun _ => true⟩ := ⟨rfl, rfl, S'.nd, rfl, fun _ _ => rfl, hr.units, .never, S'.kind⟩
    have nd' : t.need (NeedOk X) := t.need_mono (fun n hn => by
      cases n with
      | fn g sg =>
        obtain ⟨fa, fd', ps', h1, h2, h3, h4⟩ := hn
        exact ⟨fa, fd', ps', k, h1, h2, h3, h4, hr⟩
      | gl y d => exact hn
      | nb y => exact hn) nd
    refine ⟨liftS (bs X) (wpB t), PSs.nox (sB t X _ body ok nd' hc), dstart N.length l, G, retD Qd, RepS.start hl N, hG, (law l G Qd ht).2, ?_⟩
    refine ⟨fun ds σ G' H' fr _ hG' q => ?_, fun d v G' H' fr hG' rv q => ?_, fun _ _ _ _ _ _ _ q => q, fun _ _ _ _ _ _ _ q => q⟩
    · obtain ⟨Gf, hs, q⟩ := q
      exact wi .non .non Gf H' ⟨fr.kt, fun b o hb' hn => ⟨(fr.fr b o hb' hn).1, by
        cases e : Gf b with
        | none => rfl
        | some z => have := hs b z e; rw [(fr.fr b o hb' hn).2] at this; cases this⟩⟩ (hG'.sub hs) (by rw [RepV]) q
    · obtain ⟨Gf, hs, q⟩ := q
      exact wi d v Gf H' ⟨fr.kt, fun b o hb' hn => ⟨(fr.fr b o hb' hn).1, by
        cases e : Gf b with
        | none => rfl
        | some z => have := hs b z e; rw [(fr.fr b o hb' hn).2] at this; cases this⟩⟩ (hG'.sub hs) rv q
/-- where a def stands -/
def DefOk (K : PySem.W.Frag) (mg : Str → Option Value) (d : He.DefD) : Prop := ∃ f fd, FunD K d.name d.qual d.params d.body d.scope [] [] f fd ∧ mg d.name = some (.ref f)
theorem def_ok {x qual : Str} {params : Arguments} {body : List PySem.Stmt} {scope : Scope} {f : Addr} {fd : FuncData} {N ps : List Str} {t : Bl} {k : Nat} {sp : DSp}
    (F : FunD K x qual params body scope [] [] f fd) (hm : mg x = some (.ref f)) (hb : Binds K fd ps []) (S : C8.scC N ps scope = true) (hc : chkB ⟨N, scope, fun _ => true⟩ t body = true)
    (nd : t.need (NdG P w K mg base k)) (law : ∀ l G Q, sp l G Q → l.length = ps.length ∧ wpB t (retD Q) (dstart N.length l) G) : FnG P w K mg base (k + 1) x sp :=
  ⟨f, fd, ps, def_fn F S hc nd law, hm, F.kp, hb⟩
end
/-! ### module constants -/
mutual
def dvB (K : PySem.W.Frag) : Dv → Value → Bool
  | .non, .none => true
  | .bl b, .bool c => b == c
  | .int i, .int j _ => decide (i = j)
  | .str x, .str y _ => decide (x = y)
  | .tup l, .ref a => match K.lookup a with
    | some ⟨.type c, _, .seq its _, _⟩ => decide (c = "tuple") && (decide (its.size ≤ sizeLine) && dvsB K l its.toList)
    | _ => false
  | _, _ => false
def dvsB (K : PySem.W.Frag) : List Dv → List Value → Bool
  | [], [] => true
  | d :: ds, u :: us => dvB K d u && dvsB K ds us
  | _, _ => false
end
mutual
theorem dvB_ok {B : Bs} (H : Hp) : ∀ {d : Dv} {u : Value}, dvB B.K d u = true → RepU B H d u
  | .non, u, h => by
    cases u with
    | none => exact ⟨.non, by rw [RepV], rfl⟩
    | _ => exact absF h
  | .bl b, u, h => by
    cases u with
    | bool c => exact ⟨.bl b, by rw [RepV], by rw [eq_of_beq h]; rfl⟩
    | _ => exact absF h
  | .int i, u, h => by
    cases u with
    | int j t => exact ⟨.int i, by rw [RepV], by rw [of_decide_eq_true h]; exact ⟨_, rfl⟩⟩
    | _ => exact absF h
  | .str i, u, h => by
    cases u with
    | str j t => exact ⟨.str i, by rw [RepV], by rw [of_decide_eq_true h]; exact ⟨_, rfl⟩⟩
    | _ => exact absF h
  | .ref _, u, h => by
    cases u <;> exact absF h
  | .tup l, u, h => by
    cases u with
    | ref a =>
      rw [dvB] at h
      cases q : B.K.lookup a with
      | none => rw [q] at h; exact absF h
      | some o =>
        rw [q] at h
        obtain ⟨oc, od, dt, osl⟩ := o
        cases oc with
        | type c =>
          cases dt with
          | seq its n =>
            obtain ⟨h1, h2⟩ := He.ba (show (decide (c = "tuple") && (decide (its.size ≤ sizeLine) && dvsB B.K l its.toList)) = true from h)
            obtain ⟨h3, h4⟩ := He.ba h2
            obtain ⟨vs, hl, hv⟩ := dvsB_ok H h4
            refine ⟨.ref a, ?_, rfl⟩
            rw [RepV]
            exact ⟨a, vs, rfl, .inr ⟨_, its, n, q, congrArg Value.type (of_decide_eq_true h1), rfl, of_decide_eq_true h3, hv⟩, hl⟩
          | _ => exact absF h
        | _ => cases dt <;> exact absF h
    | _ => exact absF h
theorem dvsB_ok {B : Bs} (H : Hp) : ∀ {ds : List Dv} {us : List Value}, dvsB B.K ds us = true → ∃ vs, RepL B H ds vs ∧ Vals vs us
  | [], us, h => by
    cases us with
    | nil => exact ⟨[], .nil, .nil⟩
    | cons _ _ => exact absF h
  | d :: ds, us, h => by
    cases us with
    | nil => exact absF h
    | cons u us =>
      rw [dvsB] at h
      obtain ⟨h1, h2⟩ := He.ba h
      obtain ⟨v, rv, r⟩ := dvB_ok H h1
      obtain ⟨vs, rl, rs⟩ := dvsB_ok H h2
      exact ⟨v :: vs, .cons rv rl, .cons r rs⟩
end
def tabB (K : PySem.W.Frag) (q : Str × Dv) : Bool := match PySem.W.nsIn K mainGlobals q.1 with
  | some (some u) => dvB K q.2 u
  | _ => false
def noListB (o : Obj) : Bool := match o.cls with
  | .type c => decide (c = "list")
  | _ => false
def obsB (fa : List He.Fa) (tb : List (Str × Dv)) (fn : List He.DefD) (K : PySem.W.Frag) : He.AlD := ((fa.all fun f => f.ok K) && ((tb.all fun q => tabB K q) && ((fn.all fun d => d.ok K) && K.all fun p => !noListB p.2)), fn.map fun d => He.fnW K d.at_)
def SaysB (fa : List He.Fa) (tb : List (Str × Dv)) (fn : List He.DefD) (K : PySem.W.Frag) : Prop := obsB fa tb fn K = He.valD fn
def obsBG (n : Nat) (fa : List He.Fa) (tb : List (Str × Dv)) (fn : List He.DefD) (g : Addr → Option Obj) : He.AlD := obsB fa tb fn (He.frG g (He.asD g n))
def hookB (n : Nat) (fa : List He.Fa) (tb : List (Str × Dv)) (fn : List He.DefD) : PySem.W.Hook where
  α := He.AlD
  obs := fun s => obsBG n fa tb fn s.heap.get?
  val := fun _ => He.valD fn
  says := fun _ h => ∃ K : PySem.W.Frag, K.In h ∧ SaysB fa tb fn K
  of := fun _ _ e => ⟨_, He.frG_in, e⟩
  keeps := fun _ _ _ ⟨K, hK, c⟩ k => ⟨K, PySem.W.Frag.In.keeps hK k, c⟩
theorem obsBG_eq {n : Nat} {fa : List He.Fa} {tb : List (Str × Dv)} {fn : List He.DefD} {g : Addr → Option Obj} {s : Shared} (h : ∀ a, g a = s.heap.get? a) : obsBG n fa tb fn g = (hookB n fa tb fn).obs s := by
  have e : g = s.heap.get? := funext h
  rw [e] <;> rfl
section
variable {fa : List He.Fa} {tb : List (Str × Dv)} {fn : List He.DefD} {K : PySem.W.Frag}
theorem SaysB.fact (c : SaysB fa tb fn K) (i : Nat) {f : He.Fa} (h : fa[i]? = some f := by rfl) : f.ok K = true := by
  have c1 := (He.ba (congrArg (fun z : He.AlD => z.1) c)).1
  exact List.all_eq_true.mp c1 f (List.mem_of_getElem? h)
theorem SaysB.tab (c : SaysB fa tb fn K) (i : Nat) {f : Str × Dv} (h : tb[i]? = some f := by rfl) : tabB K f = true := by
  have c1 := (He.ba (He.ba (congrArg (fun z : He.AlD => z.1) c)).2).1
  exact List.all_eq_true.mp c1 f (List.mem_of_getElem? h)
theorem SaysB.nolist (c : SaysB fa tb fn K) {a : Addr} {o : Obj} (h : K.lookup a = some o) : o.cls ≠ .type "list" := by
  have c1 := (He.ba (He.ba (He.ba (congrArg (fun z : He.AlD => z.1) c)).2).2).2
  have hm : (a, o) ∈ K := by
    clear c c1
    induction K with
    | nil => cases h
    | cons p r ih =>
      obtain ⟨b, u⟩ := p
      by_cases e : a = b
      · subst e
        have h' : List.lookup a ((a, u) :: r) = some o := h
        rw [List.lookup_cons_self] at h'
        cases h'
        exact List.mem_cons_self
      · have h' : List.lookup a ((b, u) :: r) = some o := h
        rw [List.lookup_cons] at h'
        rw [show (a == b) = false from beq_eq_false_iff_ne.mpr e] at h'
        exact List.mem_cons_of_mem _ (ih h')
  have := List.all_eq_true.mp c1 _ hm
  intro e
  simp [noListB, e] at this
theorem SaysB.def_ (c : SaysB fa tb fn K) (i : Nat) {d : He.DefD} (h : fn[i]? = some d := by rfl) : ∃ fd, FunD K d.name d.qual d.params d.body d.scope (d.dvs K) (d.kws K) (He.fAd K d.at_) fd := by
  have c2 := (He.ba (He.ba (He.ba (congrArg (fun z : He.AlD => z.1) c)).2).2).1
  have e : fn.map (fun d => He.fnW K d.at_) = fn.map He.DefD.val := congrArg (fun z : He.AlD => z.2) c
  have e2 : (fn.map fun d => He.fnW K d.at_)[i]? = (fn.map He.DefD.val)[i]? := by rw [e]
  rw [List.getElem?_map, List.getElem?_map, h] at e2
  exact He.DefD.funD (Option.some.inj e2) (List.all_eq_true.mp c2 d (List.mem_of_getElem? h))
theorem tab_ok {P : Program} {w : World} {h : Heap} {mg : Str → Option Value} {base : Heap} {k : Nat} (X : K.In h) (G : h.Ns mainGlobals mg) {x : Str} {d : Dv} (c : tabB K (x, d) = true) : NdG P w K mg base k (.gl x d) := by
  unfold tabB at c
  dsimp only at c
  split at c
  · rename_i u e
    exact ⟨u, PySem.W.mg_of X G e, fun H => dvB_ok (B := ⟨K, P, w⟩) H c⟩
  · cases c
end
end BD

/-! BD13: a law's walk from its def's promise. -/
namespace BD
open PySem PySem.Spec PyProof.Rows L2
theorem walk_ofEB {l : PySem.W.OpenLaw} {n k : Nat} {q : Program} {loose : List Str} {XP : (Str → Option Value) → Heap → Prop} {YP : World → Heap → Prop} {d : DefRec} {x : Str}
    (hn : l.most = some n) (hn2 : n ≤ sizeLine) (hdf : d.params.defaults = []) (hr : Room k callerA)
    (F : ∀ (w : World) (mg : Str → Option Value) (fa : Addr) (h : Heap), YP w h → h.Ns mainGlobals mg → mg d.name = some (.ref fa) →
      ∃ (K : PySem.W.Frag) (fd : FuncData) (sp : Sp), K.In h ∧ (∀ (s : Shared) (u : Value), BindsTo s fd ⟨[u], []⟩ [(x, u)]) ∧
        (∀ (H : Hp) (a : Addr) (ns : List Int), ns.length ≤ n → (∀ z ∈ ns, Builtin.Int.intBits z ≤ 1048576) → Only H → SqL K H a (ns.map V.int) → sp [.ref a] H (fun v _ => v = .bl true) fun _ _ _ => False) ∧
        ∀ base : Heap, K.In base → base.Ns mainGlobals mg → FnOk l.prog w K mg base CX0 k fa fd [x] sp) :
    PySem.W.WalkO q loose XP YP l.row.toRowW d [] (fun f vs => PySem.call f vs) := by
  refine Att.attach_callB hn hdf fun w s₀ s₁ mg mb fa o pm cd doc a vs ns G Y ho hd hcd hmg hobj hints hlen hbits hg => ?_
  obtain ⟨K, fd, sp, KX, hb, hsp, hF⟩ := F w mg fa _ Y G.T.g hmg
  exact law_call KX G.T.g G.T.b G.T.builtins G.T.nolimit hg hobj hints (Nat.le_trans hlen hn2) hr hF hb (fun H hO hS => hsp H a ns hlen hbits hO hS) fun H e s' z => z
/-- the law's promise: whatever the script, it answers True -/
def spLaw (n : Nat) : DSp := fun l G Q => ∃ (a : Addr) (ns : List Int), l = [.ref a] ∧ G a = some (.fls (ns.map Dv.int)) ∧ ns.length ≤ n ∧ (∀ z ∈ ns, Builtin.Int.intBits z ≤ 1048576) ∧ ∀ G', Q (.bl true) G'
theorem law_at {K : PySem.W.Frag} {P : Program} {w : World} {fa : List He.Fa} {tb : List (Str × Dv)} {fn : List He.DefD} {n : Nat} (c : SaysB fa tb fn K) (hn : n ≤ sizeLine) (H : Hp) (a : Addr) (ns : List Int) (hl : ns.length ≤ n) (hb : ∀ z ∈ ns, Builtin.Int.intBits z ≤ 1048576)
    (hS : SqL K H a (ns.map V.int)) : liftC ⟨K, P, w⟩ (spLaw n) [.ref a] H (fun v _ => v = .bl true) := by
  have hR : Rd H a (.lst (ns.map V.int)) := by
    rcases hS with h | ⟨o, its, m, hk, hc, _⟩
    · exact h
    · exact absurd hc (c.nolist hk)
  have hv : RepL ⟨K, P, w⟩ H (ns.map Dv.int) (ns.map V.int) := by
    clear hb hl hS hR
    induction ns with
    | nil => exact .nil
    | cons n ns ih => exact .cons (by rw [RepV]) ih
  refine ⟨[.ref a], updG (fun _ => none) a (.fls (ns.map Dv.int)), fun d _ => d = .bl true, .one (by rw [RepV]), ?_, ⟨a, ns, rfl, updG_same, hl, hb, fun _ => rfl⟩, ?_⟩
  · intro b o e
    by_cases h : b = a
    · subst h
      rw [updG_same] at e
      cases e
      exact ⟨_, hR, hv⟩
    · rw [updG_ne h] at e; cases e
  · intro d v G' H' _ _ r e
    subst e
    exact rBl r
end BD

/-! BD14: wp, unfolded step by step. -/
namespace BD
open PySem L2
section
variable {i j k : Nat} {a b c : Ex} {as : Ar} {σ : DSt} {G : Dh} {Q : DK} {D : DEnds} {A : List Dv → Dh → Prop} {T : Bool → Dh → Prop}
@[simp] theorem e_var : wpE (.var i) σ G Q = (match σ[i]? with | some (some d) => Q d G | _ => False) := rfl
@[simp] theorem e_glob {x : Str} {d : Dv} : wpE (.glob x d) σ G Q = Q d G := rfl
@[simp] theorem e_cint {n : Int} : wpE (.cint n) σ G Q = Q (.int n) G := rfl
@[simp] theorem e_cbl {n : Bool} : wpE (.cbl n) σ G Q = Q (.bl n) G := rfl
@[simp] theorem e_cnon : wpE .cnon σ G Q = Q .non G := rfl
@[simp] theorem e_cstr {n : Str} : wpE (.cstr n) σ G Q = Q (.str n) G := rfl
@[simp] theorem e_neg : wpE (.neg a) σ G Q = wpE a σ G fun x G1 => match x with | .int i => Q (.int (-i)) G1 | _ => False := rfl
@[simp] theorem e_bin {op : Operator} : wpE (.bin op a b) σ G Q = wpE a σ G fun x G1 => wpE b σ G1 fun y G2 => dBin op x y G2 Q := rfl
@[simp] theorem e_cmp {op : CmpOp} : wpE (.cmp op a b) σ G Q = wpE a σ G fun x G1 => wpE b σ G1 fun y G2 => dCmp op x y G2 Q := rfl
@[simp] theorem e_chn {op op' : CmpOp} : wpE (.chn op op' a b c) σ G Q = wpE a σ G fun x G1 => wpE b σ G1 fun y G2 => dCmp op x y G2 fun t G3 => match t with
    | .bl u => if u = true then wpE c σ G3 fun z G4 => dCmp op' y z G4 Q else Q (.bl false) G3
    | _ => False := rfl
@[simp] theorem e_one : wpE (.one a) σ G Q = wpE a σ G Q := rfl
@[simp] theorem e_and : wpE (.and a b) σ G Q = wpE a σ G fun x G1 => match truD G1 x with
    | some t => if t = true then wpE b σ G1 Q else Q x G1
    | none => False := rfl
@[simp] theorem e_or : wpE (.or a b) σ G Q = wpE a σ G fun x G1 => match truD G1 x with
    | some t => if t = true then Q x G1 else wpE b σ G1 Q
    | none => False := rfl
@[simp] theorem e_not : wpE (.not a) σ G Q = wpE a σ G fun x G1 => match truD G1 x with
    | some b => Q (.bl (!b)) G1
    | none => False := rfl
@[simp] theorem e_ife : wpE (.ife c a b) σ G Q = tT (wpE c) σ G fun t G1 => if t = true then wpE a σ G1 Q else wpE b σ G1 Q := rfl
@[simp] theorem e_tup : wpE (.tup as) σ G Q = wpA as σ G fun l G1 => l.length ≤ sizeLine ∧ Q (.tup l) G1 := rfl
@[simp] theorem e_lst : wpE (.lst as) σ G Q = wpA as σ G fun l G1 => newL l G1 Q := rfl
@[simp] theorem e_emp : wpE .emp σ G Q = ∀ p r, G p = none → Q (.ref p) (updG G p (.dic r [])) := rfl
@[simp] theorem e_ix : wpE (.ix a b) σ G Q = wpE a σ G fun x G1 => wpE b σ G1 fun y G2 => dIx x y G2 Q := rfl
@[simp] theorem e_sl {lo hi : Op} : wpE (.sl a lo hi) σ G Q = wpE a σ G fun x G1 => wpO lo σ G1 fun l G2 => wpO hi σ G2 fun h G3 => dSl x l h G3 Q := rfl
@[simp] theorem e_call {f : Str} {sp : DSp} : wpE (.call f sp as) σ G Q = wpA as σ G fun l G1 => sp l G1 Q := rfl
@[simp] theorem e_bcl {f : Bi} : wpE (.bcl f as) σ G Q = wpA as σ G fun l G1 => dBi f l G1 Q := rfl
@[simp] theorem e_mth {m : Mt} : wpE (.mth m a as) σ G Q = wpE a σ G fun x G1 => ∃ k, kdD G1 x = some k ∧ mtOk m k = true ∧ wpA as σ G1 fun l G2 => kdD G2 x = some k ∧ dMt m x l G2 Q := rfl
@[simp] theorem e_lc {own : List (Str × Nat)} {tg : Tg} {it : Ib} {cd : Op} {el : Ex} : wpE (.lc own tg it cd el) σ G Q = wpI it σ G fun items stay G1 => lcW tg stay (wpC cd) (wpE el) (fun l G2 => ∀ p, G2 p = none → Q (.ref p) (updG G2 p (.lst l))) items [] (dwipe σ (own.map (·.2))) G1 := rfl
@[simp] theorem e_lc2 {own : List (Str × Nat)} {tg tg2 : Tg} {it it2 : Ib} {el : Ex} : wpE (.lc2 own tg it tg2 it2 el) σ G Q = wpI it σ G fun items stay G1 => lc2W tg stay (wpI it2) tg2 (wpE el) (fun l G2 => ∀ p, G2 p = none → Q (.ref p) (updG G2 p (.lst l))) items [] (dwipe σ (own.map (·.2))) G1 := rfl
@[simp] theorem a_nil : wpA .nil σ G A = A [] G := rfl
@[simp] theorem a_cons : wpA (.cons a as) σ G A = wpE a σ G fun x G1 => wpA as σ G1 fun l G2 => A (x :: l) G2 := rfl
@[simp] theorem o_no {q : Option Int → Dh → Prop} : wpO .no σ G q = q none G := rfl
@[simp] theorem o_yes {q : Option Int → Dh → Prop} : wpO (.yes a) σ G q = wpE a σ G fun x G1 => match x with | .int i => q (some i) G1 | _ => False := rfl
@[simp] theorem c_no : wpC .no σ G T = T true G := rfl
@[simp] theorem c_yes : wpC (.yes a) σ G T = tT (wpE a) σ G T := rfl
@[simp] theorem t_any : tT (wpE a) σ G T = wpE a σ G fun x G1 => match truD G1 x with | some b => T b G1 | none => False := rfl
@[simp] theorem i_seq {R : List Dv → (Dh → Prop) → Dh → Prop} : wpI (.seq a) σ G R = wpE a σ G fun x G1 => seqI x G1 R := rfl
@[simp] theorem i_rng1 {R : List Dv → (Dh → Prop) → Dh → Prop} : wpI (.rng1 a) σ G R = wpE a σ G fun x G1 => match x with | .int i => small62 i ∧ R (rngD 0 i) (fun _ => True) G1 | _ => False := rfl
@[simp] theorem i_rng2 {R : List Dv → (Dh → Prop) → Dh → Prop} : wpI (.rng2 a b) σ G R = wpE a σ G fun x G1 => wpE b σ G1 fun y G2 => match x, y with | .int i, .int j => small62 i ∧ small62 j ∧ R (rngD i j) (fun _ => True) G2 | _, _ => False := rfl
variable {s : Sm} {r p q : Bl} {e : Ex}
@[simp] theorem b_nil : wpB .nil D σ G = D.nx σ G := rfl
@[simp] theorem b_cons : wpB (.cons s r) D σ G = BD.wpS s ⟨fun σ' G' => wpB r D σ' G', D.rt, D.bk, D.ct⟩ σ G := rfl
@[simp] theorem s_pass : BD.wpS .pass D σ G = D.nx σ G := rfl
@[simp] theorem s_brk : BD.wpS .brk D σ G = D.bk σ G := rfl
@[simp] theorem s_cnt : BD.wpS .cnt D σ G = D.ct σ G := rfl
@[simp] theorem s_retn : BD.wpS .retn D σ G = D.rt .non G := rfl
@[simp] theorem s_expr : BD.wpS (.expr e) D σ G = wpE e σ G fun _ G1 => D.nx σ G1 := rfl
@[simp] theorem s_ret : BD.wpS (.ret e) D σ G = wpE e σ G fun x G1 => D.rt x G1 := rfl
@[simp] theorem s_set : BD.wpS (.set i e) D σ G = wpE e σ G fun x G1 => D.nx (σ.set i (some x)) G1 := rfl
@[simp] theorem s_tset {tg : Tg} : BD.wpS (.tset tg e) D σ G = wpE e σ G fun x G1 => match asgT tg x σ with
    | some σ' => D.nx σ' G1
    | none => False := rfl
@[simp] theorem s_par2 : BD.wpS (.par2 i j a b) D σ G = wpE a σ G fun x G1 => wpE b σ G1 fun y G2 => D.nx ((σ.set i (some x)).set j (some y)) G2 := rfl
@[simp] theorem s_par3 : BD.wpS (.par3 i j k a b c) D σ G = wpE a σ G fun x G1 => wpE b σ G1 fun y G2 => wpE c σ G2 fun z G3 => D.nx (((σ.set i (some x)).set j (some y)).set k (some z)) G3 := rfl
@[simp] theorem s_sub : BD.wpS (.sub a b c) D σ G = wpE c σ G fun z G1 => wpE a σ G1 fun x G2 => wpE b σ G2 fun y G3 => dSet x y z G3 fun G4 => D.nx σ G4 := rfl
@[simp] theorem s_aug {op : Operator} : BD.wpS (.aug i op e) D σ G = (match σ[i]? with
    | some (some x) => wpE e σ G fun y G1 => match x, y with
      | .int _, .int _ => dBin op x y G1 fun z G2 => D.nx (σ.set i (some z)) G2
      | _, _ => False
    | _ => False) := rfl
@[simp] theorem s_augs {op : Operator} : BD.wpS (.augs a b op e) D σ G = wpE a σ G fun x G1 => wpE b σ G1 fun y G2 => dGet x y G2 fun old G3 => wpE e σ G3 fun z G4 => match old, z with
      | .int _, .int _ => dBin op old z G4 fun new G5 => dSet x y new G5 fun G6 => D.nx σ G6
      | _, _ => False := rfl
@[simp] theorem s_ifs : BD.wpS (.ifs e p q) D σ G = tT (wpE e) σ G fun t G1 => if t = true then wpB p D σ G1 else wpB q D σ G1 := rfl
@[simp] theorem s_for {tg : Tg} {it : Ib} : BD.wpS (.for tg it p) D σ G = wpI it σ G fun items stay G1 => forW tg stay (wpB p) D items σ G1 := rfl
@[simp] theorem s_whl : BD.wpS (.whl e p) D σ G = ∃ n, whlW (tT (wpE e)) (wpB p) D n σ G := rfl
@[simp] theorem r_nx {Q : DK} : (retD Q).nx σ G = ∃ Gf, Sub Gf G ∧ Q .non Gf := rfl
@[simp] theorem r_rt {Q : DK} {d : Dv} : (retD Q).rt d G = ∃ Gf, Sub Gf G ∧ Q d Gf := rfl
end
section
variable {x y : Int} {G : Dh} {Q : DK}
@[simp] theorem d_add : dBin .Add (.int x) (.int y) G Q = Q (.int (x + y)) G := rfl
@[simp] theorem d_sub : dBin .Sub (.int x) (.int y) G Q = Q (.int (x - y)) G := rfl
@[simp] theorem d_mul : dBin .Mult (.int x) (.int y) G Q = (IntMulOk x y ∧ Q (.int (x * y)) G) := rfl
@[simp] theorem d_fdiv : dBin .FloorDiv (.int x) (.int y) G Q = (CDivW x y ∧ Q (.int (x / y)) G) := rfl
@[simp] theorem d_mod : dBin .Mod (.int x) (.int y) G Q = (0 < y ∧ Q (.int (x % y)) G) := rfl
@[simp] theorem d_pow : dBin .Pow (.int x) (.int y) G Q = (CPow x y ∧ Q (.int (x ^ y.toNat)) G) := rfl
@[simp] theorem d_shl : dBin .LShift (.int x) (.int y) G Q = (CShl x y ∧ Q (.int (x * 2 ^ y.toNat)) G) := rfl
@[simp] theorem d_shr : dBin .RShift (.int x) (.int y) G Q = (0 ≤ y ∧ Q (.int (x / 2 ^ y.toNat)) G) := rfl
@[simp] theorem d_and : dBin .BitAnd (.int x) (.int y) G Q = Q (.int (Builtin.bitAnd x y)) G := rfl
@[simp] theorem d_or : dBin .BitOr (.int x) (.int y) G Q = Q (.int (Builtin.bitOr x y)) G := rfl
@[simp] theorem d_xor : dBin .BitXor (.int x) (.int y) G Q = Q (.int (Builtin.bitXor x y)) G := rfl
@[simp] theorem d_lt : dCmp .Lt (.int x) (.int y) G Q = Q (.bl (decide (x < y))) G := rfl
@[simp] theorem d_le : dCmp .LtE (.int x) (.int y) G Q = Q (.bl (decide (x ≤ y))) G := rfl
@[simp] theorem d_gt : dCmp .Gt (.int x) (.int y) G Q = Q (.bl (decide (y < x))) G := rfl
@[simp] theorem d_ge : dCmp .GtE (.int x) (.int y) G Q = Q (.bl (decide (y ≤ x))) G := rfl
theorem eq_pures {G : Dh} {x y : Dv} (h1 : x.pure = true) (h2 : y.pure = true) (h3 : x.dep ≤ 8) (h4 : y.dep ≤ 8) : eqD G x y = some (decide (x = y)) := by
  cases x <;> cases y <;> simp_all [eqD, Dv.pure]
@[simp] theorem d_eqi : dCmp .Eq (.int x) (.int y) G Q = Q (.bl (decide (x = y))) G := by
  show (match eqD G (.int x) (.int y) with | some b => Q (.bl b) G | none => False) = _
  rw [show eqD G _ _ = some (decide (_ = _)) from eq_pures rfl rfl (Nat.le_of_ble_eq_true rfl) (Nat.le_of_ble_eq_true rfl)]
  simp
@[simp] theorem d_nei : dCmp .NotEq (.int x) (.int y) G Q = Q (.bl (!decide (x = y))) G := by
  show (match eqD G (.int x) (.int y) with | some b => Q (.bl (!b)) G | none => False) = _
  rw [show eqD G _ _ = some (decide (_ = _)) from eq_pures rfl rfl (Nat.le_of_ble_eq_true rfl) (Nat.le_of_ble_eq_true rfl)]
  simp
@[simp] theorem d_eqs {x y : Str} : dCmp .Eq (.str x) (.str y) G Q = Q (.bl (decide (x = y))) G := by
  show (match eqD G (.str x) (.str y) with | some b => Q (.bl b) G | none => False) = _
  rw [show eqD G _ _ = some (decide (_ = _)) from eq_pures rfl rfl (Nat.le_of_ble_eq_true rfl) (Nat.le_of_ble_eq_true rfl)]
  simp
@[simp] theorem d_nes {x y : Str} : dCmp .NotEq (.str x) (.str y) G Q = Q (.bl (!decide (x = y))) G := by
  show (match eqD G (.str x) (.str y) with | some b => Q (.bl (!b)) G | none => False) = _
  rw [show eqD G _ _ = some (decide (_ = _)) from eq_pures rfl rfl (Nat.le_of_ble_eq_true rfl) (Nat.le_of_ble_eq_true rfl)]
  simp
@[simp] theorem t_bl {b : Bool} : truD G (.bl b) = some b := rfl
@[simp] theorem x_tup {l : List Dv} : dIx (.tup l) (.int x) G Q = (match atI l x with | some d => Q d G | none => False) := rfl
theorem x_lst {a : Addr} {l : List Dv} (h : G a = some (.lst l)) : dIx (.ref a) (.int x) G Q = (match atI l x with | some d => Q d G | none => False) := by
  simp only [dIx, h] <;> rfl
theorem g_lst {a : Addr} {l : List Dv} (h : G a = some (.lst l)) : dGet (.ref a) (.int x) G Q = (match atI l x with | some d => Q d G | none => False) := by
  simp only [dGet, h] <;> rfl
theorem w_lst {a : Addr} {l : List Dv} {v : Dv} {q : Dh → Prop} (h : G a = some (.lst l)) : dSet (.ref a) (.int x) v G q = (match ixN l.length x with | some j => q (updG G a (.lst (l.set j v))) | none => False) := by
  simp only [dSet, h] <;> rfl
theorem upd_upd {G : Dh} {a : Addr} {o o' : Do} : updG (updG G a o) a o' = updG G a o' := by
  funext b
  by_cases h : b = a
  · subst h; rw [updG_same, updG_same]
  · rw [updG_ne h, updG_ne h, updG_ne h]
@[simp] theorem x_upd {a : Addr} {l : List Dv} : dIx (.ref a) (.int x) (updG G a (.lst l)) Q = (match atI l x with | some d => Q d (updG G a (.lst l)) | none => False) := x_lst updG_same
@[simp] theorem g_upd {a : Addr} {l : List Dv} : dGet (.ref a) (.int x) (updG G a (.lst l)) Q = (match atI l x with | some d => Q d (updG G a (.lst l)) | none => False) := g_lst updG_same
@[simp] theorem w_upd {a : Addr} {l : List Dv} {v : Dv} {q : Dh → Prop} : dSet (.ref a) (.int x) v (updG G a (.lst l)) q = (match ixN l.length x with | some j => q (updG G a (.lst (l.set j v))) | none => False) := by
  rw [w_lst updG_same]; simp only [upd_upd]
@[simp] theorem bi_int {i : Int} : dBi .int1 [.int i] G Q = Q (.int i) G := rfl
@[simp] theorem bi_intb {i : Bool} : dBi .int1 [.bl i] G Q = Q (.int (if i = true then 1 else 0)) G := rfl
@[simp] theorem bi_abs {i : Int} : dBi .abs [.int i] G Q = Q (.int (if i < 0 then -i else i)) G := rfl
theorem bi_len {x : Dv} : dBi .len [x] G Q = (match lenD G x with | some n => Q (.int n) G | none => False) := rfl
@[simp] theorem bi_lent {l : List Dv} : dBi .len [.tup l] G Q = Q (.int l.length) G := rfl
theorem bi_lenl {a : Addr} {l : List Dv} (h : G a = some (.lst l)) : dBi .len [.ref a] G Q = Q (.int l.length) G := by
  rw [bi_len]; simp [lenD, h]
theorem bi_lend {a : Addr} {r : Raw} {l : List (Dv × Dv)} (h : G a = some (.dic r l)) : dBi .len [.ref a] G Q = Q (.int l.length) G := by
  rw [bi_len]; simp [lenD, h]
end
section
variable {α : Type} {l : List α}
@[simp] theorem ix_nat {n : Nat} {i : Nat} : ixN n (i : Int) = if i < n then some i else none := by
  unfold ixN
  rw [if_pos (Int.natCast_nonneg i)]
  by_cases h : i < n
  · rw [if_pos (by omega), if_pos h]; simp
  · rw [if_neg (by omega), if_neg h]
@[simp] theorem ix_0 {n : Nat} : ixN n 0 = if 0 < n then some 0 else none := ix_nat (i := 0)
@[simp] theorem ix_1 {n : Nat} : ixN n 1 = if 1 < n then some 1 else none := ix_nat (i := 1)
theorem at_nat {i : Nat} : atI l (i : Int) = l[i]? := by
  unfold atI
  rw [ix_nat]
  by_cases h : i < l.length
  · rw [if_pos h]; rfl
  · rw [if_neg h]; simp [List.getElem?_eq_none_iff.mpr (Nat.le_of_not_lt h)]
@[simp] theorem at_0 : atI l 0 = l[0]? := at_nat (i := 0)
@[simp] theorem at_1 : atI l 1 = l[1]? := at_nat (i := 1)
@[simp] theorem at_2 : atI l 2 = l[2]? := at_nat (i := 2)
@[simp] theorem at_3 : atI l 3 = l[3]? := at_nat (i := 3)
@[simp] theorem at_4 : atI l 4 = l[4]? := at_nat (i := 4)
@[simp] theorem at_5 : atI l 5 = l[5]? := at_nat (i := 5)
@[simp] theorem at_6 : atI l 6 = l[6]? := at_nat (i := 6)
@[simp] theorem ixn_2 {n : Nat} : ixN n 2 = if 2 < n then some 2 else none := ix_nat (i := 2)
@[simp] theorem ixn_3 {n : Nat} : ixN n 3 = if 3 < n then some 3 else none := ix_nat (i := 3)
@[simp] theorem ixn_4 {n : Nat} : ixN n 4 = if 4 < n then some 4 else none := ix_nat (i := 4)
theorem at_int {x : Int} (h : 0 ≤ x) : atI l x = l[x.toNat]? := by
  obtain ⟨n, rfl⟩ := Int.eq_ofNat_of_zero_le h
  rw [at_nat]; simp
end
/-! ### side conditions -/
theorem bits_le (x : Int) : Builtin.Int.intBits x ≤ x.natAbs.log2 + 1 := by
  unfold Builtin.Int.intBits
  split <;> omega
theorem mul_bits {i j : Int} (h : Builtin.Int.intBits i + Builtin.Int.intBits j < 100000000) : IntMulOk i j := by
  have e : bitsLine = 134217728 := by decide
  unfold IntMulOk
  intro z
  rw [Bool.and_eq_true] at z
  have z2 := z.2
  unfold Builtin.Int.intTooBig at z2
  have z3 := of_decide_eq_true z2
  rw [e] at z3
  omega
theorem log_lt {x : Nat} {a : Nat} (h0 : 0 < a) (h : x < 2 ^ a) : x.log2 < a := PySem.Flt.log2_lt_of h0 h
theorem mul_ok {i j : Int} (a b : Nat) (hi : i.natAbs < 2 ^ a) (hj : j.natAbs < 2 ^ b) (h0 : 0 < a) (h1 : 0 < b) (h : a + b ≤ 1000000) : IntMulOk i j := (wide_mul hi hj h0 h1 h).ok
theorem div_ok {i j : Int} (h : 0 < j) (hj : j.natAbs < 2 ^ 8000) : CDivW i j := wide_div h hj (by decide) (by decide)
theorem mul_lr {x y : Int} (h : -(2 ^ 64) < y ∧ y < 2 ^ 64) : IntMulOk x y := .of_right (intBits_le_64 h.1 h.2)
theorem mul_ll {x y : Int} (h : -(2 ^ 64) < x ∧ x < 2 ^ 64) : IntMulOk x y := .of_left (intBits_le_64 h.1 h.2)
theorem div_s {i j : Int} (h : 0 < j ∧ j < 2 ^ 64) : CDivW i j := div_ok h.1 (by have := h.2; exact Nat.lt_of_lt_of_le (show j.natAbs < 2 ^ 64 by omega) (Nat.pow_le_pow_right (by decide) (by decide)))
end BD

/-! BD15: what the laws draw. -/
namespace BD
open PySem L2
def t_begin : Bl := (.cons (.ret (.lst (.cons (.lc [("_law_cell", 1)] (.nm 1) (.seq (.var 0)) .no (.bcl .int1 (.cons (.var 1) .nil))) (.cons (.cint 0) (.cons (.cint 0) (.cons (.cint 7) (.cons (.cint 3) .nil)))))))
  .nil)
def t_draw : Bl := (.cons (.ifs (.cmp .Gt (.ix (.var 0) (.cint 2)) (.cint 0)) (.cons (.set 3 (.ix (.var 0) (.cint 2)))
  (.cons (.sub (.var 0) (.cint 2) (.bin .FloorDiv (.var 3) (.var 1)))
  (.cons (.ret (.bin .Mod (.bcl .int1 (.cons (.var 3) .nil)) (.var 1)))
  .nil))) .nil)
  (.cons (.set 2 (.cint 0))
  (.cons (.ifs (.cmp .Lt (.ix (.var 0) (.cint 1)) (.bcl .len (.cons (.ix (.var 0) (.cint 0)) .nil))) (.cons (.set 4 (.ix (.ix (.var 0) (.cint 0)) (.ix (.var 0) (.cint 1))))
  (.cons (.set 2 (.bin .Add (.bin .Mult (.cint 2) (.bcl .abs (.cons (.var 4) .nil))) (.bcl .int1 (.cons (.cmp .Lt (.var 4) (.cint 0)) .nil))))
  .nil)) .nil)
  (.cons (.augs (.var 0) (.cint 1) .Add (.cint 1))
  (.cons (.ifs (.cmp .GtE (.var 2) (.bin .Mult (.cint 2) (.bin .Pow (.cint 10) (.cint 18)))) (.cons (.set 3 (.bin .Mod (.bcl .int1 (.cons (.bin .FloorDiv (.var 2) (.cint 2)) .nil)) (.bin .LShift (.cint 1) (.cint 6000))))
  (.cons (.sub (.var 0) (.cint 2) (.bin .FloorDiv (.var 3) (.var 1)))
  (.cons (.ret (.bin .Mod (.bcl .int1 (.cons (.var 3) .nil)) (.var 1)))
  .nil))) .nil)
  (.cons (.sub (.var 0) (.cint 3) (.bin .Mod (.bcl .int1 (.cons (.bin .Add (.bin .Add (.bin .Add (.bin .Mult (.ix (.var 0) (.cint 3)) (.cint 48271)) (.bin .Mult (.bin .Mod (.bcl .int1 (.cons (.var 2) .nil)) (.cint 2147483629)) (.cint 16807))) (.bin .Mult (.ix (.var 0) (.cint 1)) (.cint 69621))) (.cint 11)) .nil)) (.cint 2147483647)))
  (.cons (.ret (.bin .Mod (.bcl .int1 (.cons (.bin .FloorDiv (.ix (.var 0) (.cint 3)) (.cint 16)) .nil)) (.var 1)))
  .nil)))))))
def t_rare (sp_draw : DSp) : Bl := (.cons (.ret (.cmp .Eq (.call "_law_draw" sp_draw (.cons (.var 0) (.cons (.var 1) .nil))) (.bin .FloorDiv (.var 1) (.cint 2))))
  .nil)

/-- the drawer at p, its cells at q -/
structure Dr (p q : Addr) (cs : List Int) (G : Dh) : Prop where
  at_ : ∃ i c s : Int, G p = some (.lst [.ref q, .int i, .int c, .int s, .int 3]) ∧ 0 ≤ i ∧ 0 ≤ c ∧ 0 ≤ s
  cells : G q = some (.lst (cs.map .int))
  bits : ∀ z ∈ cs, Builtin.Int.intBits z ≤ 1048576
theorem Dr.ne {p q : Addr} {cs : List Int} {G : Dh} (d : Dr p q cs G) : q ≠ p := by
  intro e
  obtain ⟨i, c, s, h, _⟩ := d.at_
  have h2 := d.cells
  rw [e, h] at h2
  cases cs with
  | nil => simp at h2
  | cons x r => simp at h2
theorem Dr.keep {p q : Addr} {cs : List Int} {G G' : Dh} (d : Dr p q cs G) (hp : G' p = G p) (hq : G' q = G q) : Dr p q cs G' :=
  ⟨by obtain ⟨i, c, s, h, r⟩ := d.at_; exact ⟨i, c, s, hp.trans h, r⟩, hq.trans d.cells, d.bits⟩
/-- what a draw leaves: all but the drawer -/
def Off (p : Addr) (G G' : Dh) : Prop := ∀ a, a ≠ p → G' a = G a
theorem Off.refl {p : Addr} {G : Dh} : Off p G G := fun _ _ => rfl
theorem Off.trans {p : Addr} {G G1 G2 : Dh} (a : Off p G G1) (b : Off p G1 G2) : Off p G G2 := fun c h => (b c h).trans (a c h)
def sp_draw : DSp := fun l G Q => ∃ (p q : Addr) (cs : List Int) (many : Int), l = [.ref p, .int many] ∧ 0 < many ∧ many.natAbs < 2 ^ 8000 ∧ Dr p q cs G ∧ ∀ (r : Int) (G' : Dh), 0 ≤ r → r < many → Dr p q cs G' → Off p G G' → Q (.int r) G'
theorem Dr.put {p q : Addr} {cs : List Int} {G : Dh} {i c s : Int} (d : Dr p q cs G) (h1 : 0 ≤ i) (h2 : 0 ≤ c) (h3 : 0 ≤ s) (G0 : Dh) (h0 : Off p G G0) : Dr p q cs (updG G0 p (.lst [.ref q, .int i, .int c, .int s, .int 3])) :=
  ⟨⟨i, c, s, updG_same, h1, h2, h3⟩, by rw [updG_ne d.ne, h0 _ d.ne]; exact d.cells, d.bits⟩
theorem off_put {p : Addr} {G G0 : Dh} {o : Do} (h0 : Off p G G0) : Off p G (updG G0 p o) := fun a h => by rw [updG_ne h]; exact h0 a h
theorem law_draw (l : List Dv) (G : Dh) (Q : DK) (h : sp_draw l G Q) : l.length = 2 ∧ wpB t_draw (retD Q) (dstart 5 l) G := by
  obtain ⟨p, q, cs, many, rfl, hm, hm2, d, hQ⟩ := h
  refine ⟨rfl, ?_⟩
  obtain ⟨i, c, s, hp, hi, hc, hs⟩ := d.at_
  have hq := d.cells
  show wpB t_draw (retD Q) [some (.ref p), some (.int many), none, none, none] G
  have c0 : CPow 10 18 := by refine ⟨by decide, by decide, by decide⟩
  have c1 : CShl 1 6000 := by refine ⟨by decide, by decide⟩
  have c2 : (0 : Int) < 2 ^ 6000 := Int.pow_pos (by decide)
  have m1 : ∀ x : Int, IntMulOk x 48271 := fun x => mul_lr (by decide)
  have m2 : ∀ x : Int, IntMulOk x 69621 := fun x => mul_lr (by decide)
  have m3 : ∀ x : Int, IntMulOk x 16807 := fun x => mul_lr (by decide)
  have m4 : ∀ x : Int, IntMulOk 2 x := fun x => mul_ll (by decide)
  have v1 : ∀ x : Int, CDivW x 16 := fun x => div_s (by decide)
  have v2 : ∀ x : Int, CDivW x 2 := fun x => div_s (by decide)
  have v3 : ∀ x : Int, CDivW x many := fun x => div_ok hm hm2
  simp [t_draw, x_lst hp, w_lst hp, g_lst hp, bi_lenl hq]
  split
  · exact ⟨v3 _, hm, _, Sub.refl, hQ _ _ (Int.emod_nonneg _ (by omega)) (Int.emod_lt_of_pos _ hm) (d.put hi (Int.ediv_nonneg hc (by omega)) hs G .refl) (off_put .refl)⟩
  · split
    · rename_i h1
      have h2 : i.toNat < cs.length := by omega
      rw [x_lst hq, at_int hi, List.getElem?_map, List.getElem?_eq_getElem h2]
      generalize cs[i.toNat] = z
      simp [w_lst hp, g_lst hp, c0, c1, c2, m1, m2, m3, m4, v1, v2, v3]
      generalize (2 * if z < 0 then -z else z) + _ = size
      split
      · refine ⟨hm, _, Sub.refl, hQ _ _ (Int.emod_nonneg _ (by omega)) (Int.emod_lt_of_pos _ hm) (d.put (by omega) (Int.ediv_nonneg (Int.emod_nonneg _ (by omega)) (by omega)) hs G .refl) (off_put .refl)⟩
      · refine ⟨hm, _, Sub.refl, hQ _ _ (Int.emod_nonneg _ (by omega)) (Int.emod_lt_of_pos _ hm) (d.put (by omega) hc (Int.emod_nonneg _ (by decide)) G .refl) (off_put .refl)⟩
    · exact ⟨c0, m4 _, m1 _, m3 _, m2 _, v1 _, hm, _, Sub.refl, hQ _ _ (Int.emod_nonneg _ (by omega)) (Int.emod_lt_of_pos _ hm) (d.put (by omega) hc (Int.emod_nonneg _ (by decide)) G .refl) (off_put .refl)⟩
/-- one in many -/
def sp_rare : DSp := fun l G Q => ∃ (p q : Addr) (cs : List Int) (many : Int), l = [.ref p, .int many] ∧ 0 < many ∧ many.natAbs < 2 ^ 8000 ∧ Dr p q cs G ∧ ∀ (b : Bool) (G' : Dh), Dr p q cs G' → Off p G G' → Q (.bl b) G'
theorem law_rare (l : List Dv) (G : Dh) (Q : DK) (h : sp_rare l G Q) : l.length = 2 ∧ wpB (t_rare sp_draw) (retD Q) (dstart 2 l) G := by
  obtain ⟨p, q, cs, many, rfl, hm, hm2, d, hQ⟩ := h
  refine ⟨rfl, ?_⟩
  show wpB (t_rare sp_draw) (retD Q) [some (.ref p), some (.int many)] G
  simp [t_rare]
  refine ⟨p, q, cs, many, rfl, hm, hm2, d, fun r G' _ _ d' o => ?_⟩
  have v2 : ∀ x : Int, CDivW x 2 := fun x => div_s (by decide)
  simp [v2]
  exact ⟨_, Sub.refl, hQ _ _ d' o⟩
/-- a list comprehension without a test, whose element comes by a function of the item and leaves all as it is -/
theorem lc_map {tg : Tg} {stay : Dh → Prop} {el : DTE} {Q : List Dv → Dh → Prop} {σ : DSt} {G : Dh} {f : Dv → Dv} : ∀ (l acc : List Dv), stay G → (acc.length + l.length ≤ sizeLine) →
    (∀ d ∈ l, ∃ σ', asgT tg d σ = some σ' ∧ ∀ R : DK, R (f d) G → el σ' G R) → Q (acc ++ l.map f) G → lcW tg stay (wpC .no) el Q l acc σ G
  | [], acc, hs, _, _, h => ⟨hs, by simpa using h⟩
  | d :: r, acc, hs, hl, he, h => by
    refine ⟨hs, ?_⟩
    obtain ⟨σ', e, h1⟩ := he d List.mem_cons_self
    rw [e]
    refine h1 _ ⟨by simp at hl; omega, lc_map r (acc ++ [f d]) hs (by simp at hl ⊢; omega) (fun d' hd => he d' (List.mem_cons_of_mem _ hd)) (by simpa using h)⟩
def sp_begin : DSp := fun l G Q => ∃ (a : Addr) (ns : List Int), l = [.ref a] ∧ G a = some (.fls (ns.map Dv.int)) ∧ ns.length ≤ 1000 ∧ (∀ z ∈ ns, Builtin.Int.intBits z ≤ 1048576) ∧ ∀ p q G', Dr p q ns G' → Q (.ref p) G'
theorem law_begin (l : List Dv) (G : Dh) (Q : DK) (h : sp_begin l G Q) : l.length = 1 ∧ wpB t_begin (retD Q) (dstart 2 l) G := by
  obtain ⟨a, ns, rfl, ha, hn, hb, hQ⟩ := h
  refine ⟨rfl, ?_⟩
  show wpB t_begin (retD Q) [some (.ref a), none] G
  have sz : sizeLine = 16777216 := sizeLine_eq
  simp [t_begin, seqI, ha, dwipe]
  refine lc_map (f := id) _ [] ha (by simp; omega) (fun d hd => ?_) fun q hq => ?_
  · obtain ⟨z, _, rfl⟩ := List.mem_map.mp hd
    exact ⟨_, rfl, fun R h => by simpa using h⟩
  · simp [newL, sz]
    intro p hp
    have e : p ≠ q := fun z => by subst z; rw [updG_same] at hp; cases hp
    exact ⟨_, Sub.refl, hQ p q _ ⟨⟨0, 0, 7, updG_same, by decide, by decide, by decide⟩, by rw [updG_ne (Ne.symm e), updG_same], hb⟩⟩
end BD

/-! BD16: loops by invariants, ranges, fresh lists. -/
namespace BD
open PySem L2
/-- a loop, by what holds ahead of the i-th turn -/
theorem for_inv {tg : Tg} {stay : Dh → Prop} {body : DTS} {D : DEnds} (I : Nat → DSt → Dh → Prop) (l : List Dv)
    (h : ∀ (i : Nat) (hi : i < l.length) (σ : DSt) (G : Dh) (K : DSt → Dh → Prop), I i σ G → (∀ σ' G', I (i + 1) σ' G' → K σ' G') → stay G ∧ ∃ σ', asgT tg l[i] σ = some σ' ∧ body ⟨K, D.rt, D.nx, K⟩ σ' G)
    (e : ∀ σ G, I l.length σ G → stay G ∧ D.nx σ G) {σ : DSt} {G : Dh} (h0 : I 0 σ G) : forW tg stay body D l σ G := by
  have key : ∀ (n i : Nat) (σ : DSt) (G : Dh), i + n = l.length → I i σ G → forW tg stay body D (l.drop i) σ G := by
    intro n
    induction n with
    | zero =>
      intro i σ G hn hI
      have : i = l.length := by omega
      subst this
      rw [List.drop_eq_nil_of_le (Nat.le_refl _)]
      exact e σ G hI
    | succ n ih =>
      intro i σ G hn hI
      have hi : i < l.length := by omega
      rw [List.drop_eq_getElem_cons hi]
      obtain ⟨h1, σ', h2, h3⟩ := h i hi σ G (forW tg stay body D (l.drop (i + 1))) hI fun σ' G' q => ih (i + 1) σ' G' (by omega) q
      refine ⟨h1, ?_⟩
      rw [h2]
      exact h3
  simpa using key l.length 0 σ G (by omega) h0
/-- .. of a range -/
theorem for_rng {tg : Tg} {body : DTS} {D : DEnds} (I : Nat → DSt → Dh → Prop) (n : Nat)
    (h : ∀ (i : Nat), i < n → ∀ (σ : DSt) (G : Dh) (K : DSt → Dh → Prop), I i σ G → (∀ σ' G', I (i + 1) σ' G' → K σ' G') → ∃ σ', asgT tg (.int (i : Int)) σ = some σ' ∧ body ⟨K, D.rt, D.nx, K⟩ σ' G)
    (e : ∀ σ G, I n σ G → D.nx σ G) {σ : DSt} {G : Dh} (h0 : I 0 σ G) : forW tg (fun _ => True) body D (rngD 0 (n : Int)) σ G := by
  have e1 : rngD 0 (n : Int) = (List.range n).map fun k : Nat => Dv.int (k : Int) := by
    unfold rngD
    simp
  rw [e1]
  refine for_inv I _ (fun i hi σ G K hI hK => ⟨trivial, ?_⟩) (fun σ G hI => ⟨trivial, e σ G (by simpa using hI)⟩) h0
  have hi' : i < n := by simpa using hi
  simpa using h i hi' σ G K hI hK
theorem rng_nat {n : Nat} : rngD 0 (n : Int) = (List.range n).map fun k : Nat => Dv.int (k : Int) := by
  unfold rngD
  simp
theorem small_nat {n : Nat} (h : n < 2 ^ 62) : small62 (n : Int) := ⟨by omega, by omega⟩
theorem flat_len {α β : Type} {g : α → List β} {c : Nat} : ∀ (l : List α), (∀ a ∈ l, (g a).length ≤ c) → (l.flatMap g).length ≤ l.length * c
  | [], _ => by simp
  | a :: r, h => by
    rw [List.flatMap_cons, List.length_append, List.length_cons, Nat.add_mul, Nat.one_mul]
    have := h a List.mem_cons_self
    have := flat_len r fun b hb => h b (List.mem_cons_of_mem _ hb)
    omega
theorem flat_succ {β : Type} {g : Nat → List β} {n : Nat} : (List.range (n + 1)).flatMap g = (List.range n).flatMap g ++ g n := by
  rw [List.range_succ, List.flatMap_append]; simp
theorem Sub.upd {G G1 : Dh} {p : Addr} {o : Do} (s : Sub G G1) (h : G p = none) : Sub G (updG G1 p o) := fun a u e => by
  have : a ≠ p := fun z => by subst z; rw [h] at e; cases e
  rw [updG_ne this]; exact s a u e
theorem Sub.none {G G1 : Dh} {p : Addr} (s : Sub G G1) (h : G1 p = .none) : G p = .none := by
  cases e : G p with
  | none => rfl
  | some o => rw [s p o e] at h; cases h
theorem Sub.both {G G1 : Dh} {p : Addr} {o : Do} (s : Sub G G1) (h : G1 p = some o) : Sub (updG G p o) G1 := fun a u e => by
  by_cases z : a = p
  · subst z; rw [updG_same] at e; cases e; exact h
  · rw [updG_ne z] at e; exact s a u e
@[simp] theorem bi_tupl {G : Dh} {Q : DK} {a : Addr} {l : List Dv} : dBi .tupleOf [.ref a] (updG G a (.lst l)) Q = Q (.tup l) (updG G a (.lst l)) := by
  simp only [dBi, updG_same] <;> rfl
theorem bi_tuplh {G : Dh} {Q : DK} {a : Addr} {l : List Dv} (h : G a = some (.lst l)) : dBi .tupleOf [.ref a] G Q = Q (.tup l) G := by
  simp only [dBi, h] <;> rfl
@[simp] theorem bi_listt {G : Dh} {Q : DK} {l : List Dv} : dBi .listOf [.tup l] G Q = newL l G Q := rfl
theorem mt_ext {G : Dh} {Q : DK} {a b : Addr} {l m : List Dv} (ha : G a = some (.lst l)) (hb : G b = some (.lst m)) : dMt .extend (.ref a) [.ref b] G Q = (l.length + m.length ≤ sizeLine ∧ Q .non (updG G a (.lst (l ++ m)))) := by
  simp only [dMt, ha, hb] <;> rfl
theorem kd_lst {G : Dh} {a : Addr} {l : List Dv} (h : G a = some (.lst l)) : kdD G (.ref a) = some .lst := by
  simp only [kdD, h] <;> rfl
theorem sz : sizeLine = 16777216 := sizeLine_eq
/-- two loops of a comprehension over ranges -/
theorem lc2_map {tg tg2 : Tg} {stay : Dh → Prop} {it2 : DTI} {el : DTE} {Q : List Dv → Dh → Prop} {σ : DSt} {G : Dh} {l2 : List Dv} {f : Dv → Dv → Dv} : ∀ (l acc : List Dv), stay G → acc.length + l.length * l2.length ≤ sizeLine →
    (∀ d ∈ l, ∃ σ', asgT tg d σ = some σ' ∧ (∀ R : List Dv → (Dh → Prop) → Dh → Prop, R l2 (fun _ => True) G → it2 σ' G R) ∧ ∀ d2 ∈ l2, ∃ σ2, asgT tg2 d2 (dwipe σ' (tgS tg2)) = some σ2 ∧ ∀ R : DK, R (f d d2) G → el σ2 G R) →
    Q (acc ++ l.flatMap fun d => l2.map (f d)) G → lc2W tg stay it2 tg2 el Q l acc σ G
  | [], acc, hs, _, _, h => ⟨hs, by simpa using h⟩
  | d :: r, acc, hs, hl, he, h => by
    refine ⟨hs, ?_⟩
    obtain ⟨σ', e, h1, h2⟩ := he d List.mem_cons_self
    rw [e]
    have hz : acc.length + l2.length + r.length * l2.length ≤ sizeLine := by
      rw [List.length_cons, Nat.add_mul, Nat.one_mul] at hl; omega
    refine h1 _ ?_
    refine lc_map (f := f d) l2 acc trivial (by omega) h2 ?_
    exact lc2_map r _ hs (by simpa using hz) (fun d' hd => he d' (List.mem_cons_of_mem _ hd)) (by simpa [List.append_assoc] using h)
end BD

/-! BD17: equality and membership of trees of ints. -/
namespace BD
open PySem L2
theorem pures_of : ∀ {l : List Dv}, (∀ d ∈ l, d.pure = true) → Dv.pures l = true
  | [], _ => rfl
  | d :: r, h => by
    show (d.pure && Dv.pures r) = true
    rw [h d List.mem_cons_self, pures_of fun x hx => h x (List.mem_cons_of_mem _ hx)]; rfl
theorem dep_of {n : Nat} : ∀ {l : List Dv}, (∀ d ∈ l, d.dep ≤ n) → (Dv.tup l).dep ≤ n + 1
  | [], _ => by show 0 + 1 ≤ n + 1; omega
  | d :: r, h => by
    have h1 : d.key.depth ≤ n := h d List.mem_cons_self
    have h2 : NestedKey.depthAll (Dv.keys r) + 1 ≤ n + 1 := dep_of (l := r) fun x hx => h x (List.mem_cons_of_mem _ hx)
    show max d.key.depth (NestedKey.depthAll (Dv.keys r)) + 1 ≤ n + 1
    omega
theorem pure_ints (ns : List Int) : (Dv.tup (ns.map Dv.int)).pure = true := pures_of fun d hd => by
  obtain ⟨z, _, rfl⟩ := List.mem_map.mp hd; rfl
theorem dep_ints (ns : List Int) : (Dv.tup (ns.map Dv.int)).dep ≤ 2 := dep_of fun d hd => by
  obtain ⟨z, _, rfl⟩ := List.mem_map.mp hd
  exact Nat.le_of_ble_eq_true rfl
/-- a tree of ints, told by a list -/
structure Flat (l : List Dv) : Prop where
  pu : ∀ d ∈ l, d.pure = true
  de : ∀ d ∈ l, d.dep ≤ 7
theorem Flat.p {l : List Dv} (f : Flat l) : Dv.pures l = true := pures_of f.pu
theorem Flat.d {l : List Dv} (f : Flat l) : (Dv.tup l).dep ≤ 8 := dep_of f.de
theorem flat_map {α : Type} (f : α → List Int) (l : List α) : Flat (l.map fun a => .tup ((f a).map Dv.int)) :=
  ⟨fun d hd => by obtain ⟨z, _, rfl⟩ := List.mem_map.mp hd; exact pure_ints _, fun d hd => by obtain ⟨z, _, rfl⟩ := List.mem_map.mp hd; have := dep_ints (f z); omega⟩
section
variable {G : Dh} {Q : DK}
theorem eq_self {x : Dv} (h1 : x.pure = true) (h2 : x.dep ≤ 8) : dCmp .Eq x x G Q = Q (.bl true) G := by
  show (match eqD G x x with | some b => Q (.bl b) G | none => False) = _
  rw [eq_pures h1 h1 h2 h2]; simp
theorem ne_self {x : Dv} (h1 : x.pure = true) (h2 : x.dep ≤ 8) : dCmp .NotEq x x G Q = Q (.bl false) G := by
  show (match eqD G x x with | some b => Q (.bl (!b)) G | none => False) = _
  rw [eq_pures h1 h1 h2 h2]; simp
theorem eqd_lst {a b : Addr} {l m : List Dv} (ha : G a = some (.lst l)) (hb : G b = some (.lst m)) (fl : Flat l) (fm : Flat m) : eqD G (.ref a) (.ref b) = some (decide (l = m)) := by
  simp only [eqD, ha, hb]
  exact if_pos ⟨fl.p, fm.p, fl.d, fm.d⟩
theorem eq_lst {a b : Addr} {l m : List Dv} (ha : G a = some (.lst l)) (hb : G b = some (.lst m)) (fl : Flat l) (fm : Flat m) : dCmp .Eq (.ref a) (.ref b) G Q = Q (.bl (decide (l = m))) G := by
  show (match eqD G (.ref a) (.ref b) with | some b => Q (.bl b) G | none => False) = _
  rw [eqd_lst ha hb fl fm]
theorem ne_lst {a b : Addr} {l m : List Dv} (ha : G a = some (.lst l)) (hb : G b = some (.lst m)) (fl : Flat l) (fm : Flat m) : dCmp .NotEq (.ref a) (.ref b) G Q = Q (.bl (!decide (l = m))) G := by
  show (match eqD G (.ref a) (.ref b) with | some b => Q (.bl (!b)) G | none => False) = _
  rw [eqd_lst ha hb fl fm]
theorem ind_lst {a : Addr} {l : List Dv} {x : Dv} (ha : G a = some (.lst l)) (fl : Flat l) (h1 : x.pure = true) (h2 : x.dep ≤ 8) : inD G x (.ref a) = some (decide (x ∈ l)) := by
  simp only [inD, ha]
  exact if_pos ⟨h1, fl.p, h2, fl.d⟩
theorem notin_lst {a : Addr} {l : List Dv} {x : Dv} (ha : G a = some (.lst l)) (fl : Flat l) (h1 : x.pure = true) (h2 : x.dep ≤ 8) : dCmp .NotIn x (.ref a) G Q = Q (.bl (!decide (x ∈ l))) G := by
  show (match inD G x (.ref a) with | some b => Q (.bl (!b)) G | none => False) = _
  rw [ind_lst ha fl h1 h2]
theorem in_lst {a : Addr} {l : List Dv} {x : Dv} (ha : G a = some (.lst l)) (fl : Flat l) (h1 : x.pure = true) (h2 : x.dep ≤ 8) : dCmp .In x (.ref a) G Q = Q (.bl (decide (x ∈ l))) G := by
  show (match inD G x (.ref a) with | some b => Q (.bl b) G | none => False) = _
  rw [ind_lst ha fl h1 h2]
theorem in_dic {a : Addr} {r : Raw} {l : List (Dv × Dv)} {x : Dv} (ha : G a = some (.dic r l)) (hf : fitK l x = true) : dCmp .In x (.ref a) G Q = Q (.bl (flat1 l x)) G := by
  show (match inD G x (.ref a) with | some b => Q (.bl b) G | none => False) = _
  simp only [inD, ha, hf, if_true]
theorem set_dic {a : Addr} {r : Raw} {l : List (Dv × Dv)} {k v : Dv} {q : Dh → Prop} (ha : G a = some (.dic r l)) (hf : fitK l k = true) (hl : l.length < sizeLine) (h : ∀ r', q (updG G a (.dic r' (putK l k v)))) : dSet (.ref a) k v G q := by
  simp only [dSet, ha]
  exact ⟨hf, hl, h⟩
/-- a dict told by its keys, each True -/
def trueD (ks : List Dv) : List (Dv × Dv) := ks.map fun k => (k, .bl true)
theorem fit_true {l m : List Int} {ks : List Dv} (hk : ∀ k ∈ ks, ∃ ns : List Int, k = .tup (ns.map Dv.int)) : fitK (trueD ks) (.tup (l.map Dv.int)) = true := by
  have key : ∀ ns : List Int, isTupK (.tup (ns.map Dv.int)) = true := fun ns => by
    have h1 := pure_ints ns
    have h2 := dep_ints ns
    show (Dv.pures (ns.map Dv.int) && decide ((Dv.tup (ns.map Dv.int)).dep ≤ 8)) = true
    rw [show Dv.pures (ns.map Dv.int) = true from h1, decide_eq_true (by omega)]; rfl
  unfold fitK
  rw [Bool.or_eq_true]
  right
  rw [Bool.and_eq_true]
  refine ⟨key l, List.all_eq_true.mpr fun p hp => ?_⟩
  obtain ⟨k, hk', rfl⟩ := List.mem_map.mp hp
  obtain ⟨ns, rfl⟩ := hk k hk'
  exact key ns
theorem flat1_true {ks : List Dv} {k : Dv} : flat1 (trueD ks) k = decide (k ∈ ks) := by
  unfold flat1 trueD
  induction ks with
  | nil => rfl
  | cons x r ih =>
    simp only [List.map_cons, List.any_cons, ih]
    by_cases e : x = k
    · subst e; simp
    · have e' : ¬ k = x := fun z => e z.symm
      simp [e, e']
theorem put_true {ks : List Dv} {k : Dv} (h : k ∉ ks) : putK (trueD ks) k (.bl true) = trueD (ks ++ [k]) := by
  unfold putK
  rw [flat1_true, decide_eq_false h]
  simp [trueD]
theorem all_true {p : Addr} {α : Type} {l : List α} : dBi .all [.ref p] (updG G p (.lst (l.map fun _ => Dv.bl true))) Q = Q (.bl true) (updG G p (.lst (l.map fun _ => Dv.bl true))) := by
  have e : blsD (l.map fun _ => Dv.bl true) = some (l.map fun _ => true) := by
    induction l with
    | nil => rfl
    | cons n ns ih => show (blsD (ns.map fun _ => Dv.bl true)).map (true :: ·) = _; rw [ih]; rfl
  have e2 : (l.all fun _ => true) = true := List.all_eq_true.mpr fun _ _ => rfl
  simp [dBi, lstD, updG_same, e, e2]
end
/-- a comprehension whose test all items pass -/
theorem lc_pass {tg : Tg} {stay : Dh → Prop} {cd el : DTE} {Q : List Dv → Dh → Prop} {σ : DSt} {G : Dh} {ct : DTT} {f : Dv → Dv} : ∀ (l acc : List Dv), stay G → (acc.length + l.length ≤ sizeLine) →
    (∀ d ∈ l, ∃ σ', asgT tg d σ = some σ' ∧ (∀ R : Bool → Dh → Prop, R true G → ct σ' G R) ∧ ∀ R : DK, R (f d) G → el σ' G R) → Q (acc ++ l.map f) G → lcW tg stay ct el Q l acc σ G
  | [], acc, hs, _, _, h => ⟨hs, by simpa using h⟩
  | d :: r, acc, hs, hl, he, h => by
    refine ⟨hs, ?_⟩
    obtain ⟨σ', e, h0, h1⟩ := he d List.mem_cons_self
    rw [e]
    refine h0 _ ?_
    rw [if_pos rfl]
    refine h1 _ ⟨by simp at hl; omega, lc_pass (cd := cd) r (acc ++ [f d]) hs (by simp at hl ⊢; omega) (fun d' hd => he d' (List.mem_cons_of_mem _ hd)) (by simpa using h)⟩
end BD

/-! K70A: the law's text in small. -/
namespace K70
open PySem PySem.Spec PyProof.Rows L2 BD
def top (i : Nat) : PySem.Stmt := PySem.Challenge.pw_beatfabric_k70_fabric_sides.main.body.getD i (.Pass ⟨0, 0, 0, 0⟩)
def c_COLUMN_STEPS : Dv := (.tup [(.int 0), (.int 1), (.int 0), (.int (-1))])
def c_ROW_STEPS : Dv := (.tup [(.int (-1)), (.int 0), (.int 1), (.int 0)])
/-! tiles_of: calls -, level 1; free tuple range -/
def N_m_tiles_of : List Str := ["fabric", "y", "x"]
def t_m_tiles_of : Bl := (.cons (.ret (.bcl .tupleOf (.cons (.lc2 [("y", 1), ("x", 2)] (.nm 1) (.rng1 (.ix (.var 0) (.cint 2))) (.nm 2) (.rng1 (.ix (.var 0) (.cint 1))) (.tup (.cons (.var 2) (.cons (.var 1) .nil)))) .nil)))
  .nil)
theorem ck_m_tiles_of : chkB ⟨N_m_tiles_of, defScope (top 3), fun _ => true⟩ (t_m_tiles_of) (defBody (top 3)) = true := by kernel_rfl
theorem sc_m_tiles_of : C8.scC N_m_tiles_of ["fabric"] (defScope (top 3)) = true := by kernel_rfl
theorem ok_m_tiles_of {P : Program} {w : World} {K : PySem.W.Frag} {mg : Str → Option Value} {base : Heap} {sp : DSp} (D : DefOk K mg ⟨("tiles_of", none), "tiles_of", "tiles_of", defArgs (top 3), defBody (top 3), defScope (top 3), [], []⟩) (nb_tuple : mg "tuple" = none) (nb_range : mg "range" = none)
    (law : ∀ l G Q, sp l G Q → l.length = 1 ∧ wpB (t_m_tiles_of) (retD Q) (dstart 3 l) G) : FnG P w K mg base 1 "tiles_of" sp := by
  obtain ⟨f, fd, F, hm⟩ := D
  refine def_ok (N := N_m_tiles_of) (ps := ["fabric"]) (t := t_m_tiles_of) F hm (FunD.bindsN F fun _ _ _ _ _ _ us hl => match us, hl with | [_], _ => rfl) sc_m_tiles_of (ck_m_tiles_of) ?_ law
  simp only [t_m_tiles_of, Bl.need, Sm.need, Ex.need, Ar.need, Op.need, Ib.need, biName, biTy, true_and, and_true]
  and_intros <;> first | trivial | assumption
/-! has_tile: calls -, level 1; free  -/
def N_m_has_tile : List Str := ["fabric", "x", "y"]
def t_m_has_tile : Bl := (.cons (.ret (.and (.chn .LtE .Lt (.cint 0) (.var 1) (.ix (.var 0) (.cint 1))) (.one (.chn .LtE .Lt (.cint 0) (.var 2) (.ix (.var 0) (.cint 2))))))
  .nil)
theorem ck_m_has_tile : chkB ⟨N_m_has_tile, defScope (top 4), fun _ => true⟩ (t_m_has_tile) (defBody (top 4)) = true := by kernel_rfl
theorem sc_m_has_tile : C8.scC N_m_has_tile ["fabric", "x", "y"] (defScope (top 4)) = true := by kernel_rfl
theorem ok_m_has_tile {P : Program} {w : World} {K : PySem.W.Frag} {mg : Str → Option Value} {base : Heap} {sp : DSp} (D : DefOk K mg ⟨("has_tile", none), "has_tile", "has_tile", defArgs (top 4), defBody (top 4), defScope (top 4), [], []⟩)
    (law : ∀ l G Q, sp l G Q → l.length = 3 ∧ wpB (t_m_has_tile) (retD Q) (dstart 3 l) G) : FnG P w K mg base 1 "has_tile" sp := by
  obtain ⟨f, fd, F, hm⟩ := D
  refine def_ok (N := N_m_has_tile) (ps := ["fabric", "x", "y"]) (t := t_m_has_tile) F hm (FunD.bindsN F fun _ _ _ _ _ _ us hl => match us, hl with | [_, _, _], _ => rfl) sc_m_has_tile (ck_m_has_tile) ?_ law
  simp only [t_m_has_tile, Bl.need, Sm.need, Ex.need, Ar.need, Op.need, Ib.need, biName, biTy, true_and, and_true]
/-! beside: calls -, level 1; free  -/
def N_m_beside : List Str := ["x", "y", "side"]
def t_m_beside : Bl := (.cons (.ret (.tup (.cons (.bin .Add (.var 0) (.ix (.glob "COLUMN_STEPS" c_COLUMN_STEPS) (.var 2))) (.cons (.bin .Add (.var 1) (.ix (.glob "ROW_STEPS" c_ROW_STEPS) (.var 2))) .nil))))
  .nil)
theorem ck_m_beside : chkB ⟨N_m_beside, defScope (top 5), fun _ => true⟩ (t_m_beside) (defBody (top 5)) = true := by kernel_rfl
theorem sc_m_beside : C8.scC N_m_beside ["x", "y", "side"] (defScope (top 5)) = true := by kernel_rfl
theorem ok_m_beside {P : Program} {w : World} {K : PySem.W.Frag} {mg : Str → Option Value} {base : Heap} {sp : DSp} (D : DefOk K mg ⟨("beside", none), "beside", "beside", defArgs (top 5), defBody (top 5), defScope (top 5), [], []⟩) (gl_COLUMN_STEPS : NdG P w K mg base 0 (.gl "COLUMN_STEPS" c_COLUMN_STEPS)) (gl_ROW_STEPS : NdG P w K mg base 0 (.gl "ROW_STEPS" c_ROW_STEPS))
    (law : ∀ l G Q, sp l G Q → l.length = 3 ∧ wpB (t_m_beside) (retD Q) (dstart 3 l) G) : FnG P w K mg base 1 "beside" sp := by
  obtain ⟨f, fd, F, hm⟩ := D
  refine def_ok (N := N_m_beside) (ps := ["x", "y", "side"]) (t := t_m_beside) F hm (FunD.bindsN F fun _ _ _ _ _ _ us hl => match us, hl with | [_, _, _], _ => rfl) sc_m_beside (ck_m_beside) ?_ law
  simp only [t_m_beside, Bl.need, Sm.need, Ex.need, Ar.need, Op.need, Ib.need, biName, biTy, true_and, and_true]
  and_intros <;> first | trivial | assumption
/-! leads_out: calls beside has_tile, level 2; free  -/
def N_m_leads_out : List Str := ["fabric", "x", "y", "side", "column", "row"]
def t_m_leads_out (sp_m_beside : DSp) (sp_m_has_tile : DSp) : Bl := (.cons (.tset (.tp [(.nm 4), (.nm 5)]) (.call "beside" sp_m_beside (.cons (.var 1) (.cons (.var 2) (.cons (.var 3) .nil)))))
  (.cons (.ret (.not (.call "has_tile" sp_m_has_tile (.cons (.var 0) (.cons (.var 4) (.cons (.var 5) .nil))))))
  .nil))
theorem ck_m_leads_out (sp_m_beside : DSp) (sp_m_has_tile : DSp) : chkB ⟨N_m_leads_out, defScope (top 6), fun _ => true⟩ (t_m_leads_out sp_m_beside sp_m_has_tile) (defBody (top 6)) = true := by kernel_rfl
theorem sc_m_leads_out : C8.scC N_m_leads_out ["fabric", "x", "y", "side"] (defScope (top 6)) = true := by kernel_rfl
theorem ok_m_leads_out {P : Program} {w : World} {K : PySem.W.Frag} {mg : Str → Option Value} {base : Heap} {sp sp_m_beside sp_m_has_tile : DSp} (D : DefOk K mg ⟨("leads_out", none), "leads_out", "leads_out", defArgs (top 6), defBody (top 6), defScope (top 6), [], []⟩) (h_m_beside : FnG P w K mg base 1 "beside" sp_m_beside) (h_m_has_tile : FnG P w K mg base 1 "has_tile" sp_m_has_tile)
    (law : ∀ l G Q, sp l G Q → l.length = 4 ∧ wpB (t_m_leads_out sp_m_beside sp_m_has_tile) (retD Q) (dstart 6 l) G) : FnG P w K mg base 2 "leads_out" sp := by
  obtain ⟨f, fd, F, hm⟩ := D
  refine def_ok (N := N_m_leads_out) (ps := ["fabric", "x", "y", "side"]) (t := t_m_leads_out sp_m_beside sp_m_has_tile) F hm (FunD.bindsN F fun _ _ _ _ _ _ us hl => match us, hl with | [_, _, _, _], _ => rfl) sc_m_leads_out (ck_m_leads_out sp_m_beside sp_m_has_tile) ?_ law
  simp only [t_m_leads_out, Bl.need, Sm.need, Ex.need, Ar.need, Op.need, Ib.need, biName, biTy, true_and, and_true]
  and_intros <;> first | trivial | assumption
/-! pads_of: calls leads_out, level 3; free range tuple -/
def N_m_pads_of : List Str := ["fabric", "found", "x", "y", "side", "track"]
def t_m_pads_of (sp_m_leads_out : DSp) : Bl := (.cons (.set 1 (.lst .nil))
  (.cons (.for (.nm 2) (.rng1 (.ix (.var 0) (.cint 1))) (.cons (.for (.nm 3) (.rng1 (.ix (.var 0) (.cint 2))) (.cons (.for (.nm 4) (.rng1 (.cint 4)) (.cons (.ifs (.call "leads_out" sp_m_leads_out (.cons (.var 0) (.cons (.var 2) (.cons (.var 3) (.cons (.var 4) .nil))))) (.cons (.expr (.mth .extend (.var 1) (.cons (.lc [("track", 5)] (.nm 5) (.rng1 (.ix (.var 0) (.cint 3))) .no (.tup (.cons (.var 2) (.cons (.var 3) (.cons (.var 4) (.cons (.var 5) .nil)))))) .nil)))
  .nil) .nil)
  .nil))
  .nil))
  .nil))
  (.cons (.ret (.bcl .tupleOf (.cons (.var 1) .nil)))
  .nil)))
theorem ck_m_pads_of (sp_m_leads_out : DSp) : chkB ⟨N_m_pads_of, defScope (top 7), fun _ => true⟩ (t_m_pads_of sp_m_leads_out) (defBody (top 7)) = true := by kernel_rfl
theorem sc_m_pads_of : C8.scC N_m_pads_of ["fabric"] (defScope (top 7)) = true := by kernel_rfl
theorem ok_m_pads_of {P : Program} {w : World} {K : PySem.W.Frag} {mg : Str → Option Value} {base : Heap} {sp sp_m_leads_out : DSp} (D : DefOk K mg ⟨("pads_of", none), "pads_of", "pads_of", defArgs (top 7), defBody (top 7), defScope (top 7), [], []⟩) (h_m_leads_out : FnG P w K mg base 2 "leads_out" sp_m_leads_out) (nb_range : mg "range" = none) (nb_tuple : mg "tuple" = none)
    (law : ∀ l G Q, sp l G Q → l.length = 1 ∧ wpB (t_m_pads_of sp_m_leads_out) (retD Q) (dstart 6 l) G) : FnG P w K mg base 3 "pads_of" sp := by
  obtain ⟨f, fd, F, hm⟩ := D
  refine def_ok (N := N_m_pads_of) (ps := ["fabric"]) (t := t_m_pads_of sp_m_leads_out) F hm (FunD.bindsN F fun _ _ _ _ _ _ us hl => match us, hl with | [_], _ => rfl) sc_m_pads_of (ck_m_pads_of sp_m_leads_out) ?_ law
  simp only [t_m_pads_of, Bl.need, Sm.need, Ex.need, Ar.need, Op.need, Ib.need, biName, biTy, true_and, and_true]
  and_intros <;> first | trivial | assumption
/-! entering: calls beside has_tile, level 2; free  -/
def N_m_entering : List Str := ["fabric", "x", "y", "side", "track", "column", "row"]
def t_m_entering (sp_m_beside : DSp) (sp_m_has_tile : DSp) : Bl := (.cons (.tset (.tp [(.nm 5), (.nm 6)]) (.call "beside" sp_m_beside (.cons (.var 1) (.cons (.var 2) (.cons (.var 3) .nil)))))
  (.cons (.ifs (.call "has_tile" sp_m_has_tile (.cons (.var 0) (.cons (.var 5) (.cons (.var 6) .nil)))) (.cons (.ret (.tup (.cons (.cstr "wire") (.cons (.tup (.cons (.var 5) (.cons (.var 6) (.cons (.bin .Mod (.bin .Add (.var 3) (.cint 2)) (.cint 4)) (.cons (.var 4) .nil))))) .nil))))
  .nil) .nil)
  (.cons (.ret (.tup (.cons (.cstr "pad") (.cons (.tup (.cons (.var 1) (.cons (.var 2) (.cons (.var 3) (.cons (.var 4) .nil))))) .nil))))
  .nil)))
theorem ck_m_entering (sp_m_beside : DSp) (sp_m_has_tile : DSp) : chkB ⟨N_m_entering, defScope (top 8), fun _ => true⟩ (t_m_entering sp_m_beside sp_m_has_tile) (defBody (top 8)) = true := by kernel_rfl
theorem sc_m_entering : C8.scC N_m_entering ["fabric", "x", "y", "side", "track"] (defScope (top 8)) = true := by kernel_rfl
theorem ok_m_entering {P : Program} {w : World} {K : PySem.W.Frag} {mg : Str → Option Value} {base : Heap} {sp sp_m_beside sp_m_has_tile : DSp} (D : DefOk K mg ⟨("entering", none), "entering", "entering", defArgs (top 8), defBody (top 8), defScope (top 8), [], []⟩) (h_m_beside : FnG P w K mg base 1 "beside" sp_m_beside) (h_m_has_tile : FnG P w K mg base 1 "has_tile" sp_m_has_tile)
    (law : ∀ l G Q, sp l G Q → l.length = 5 ∧ wpB (t_m_entering sp_m_beside sp_m_has_tile) (retD Q) (dstart 7 l) G) : FnG P w K mg base 2 "entering" sp := by
  obtain ⟨f, fd, F, hm⟩ := D
  refine def_ok (N := N_m_entering) (ps := ["fabric", "x", "y", "side", "track"]) (t := t_m_entering sp_m_beside sp_m_has_tile) F hm (FunD.bindsN F fun _ _ _ _ _ _ us hl => match us, hl with | [_, _, _, _, _], _ => rfl) sc_m_entering (ck_m_entering sp_m_beside sp_m_has_tile) ?_ law
  simp only [t_m_entering, Bl.need, Sm.need, Ex.need, Ar.need, Op.need, Ib.need, biName, biTy, true_and, and_true]
  and_intros <;> first | trivial | assumption
/-! _law_begin: calls -, level 1; free int -/
def N_begin : List Str := ["_law_script", "_law_cell"]
theorem ck_begin : chkB ⟨N_begin, defScope (top 10), fun _ => true⟩ (t_begin) (defBody (top 10)) = true := by kernel_rfl
theorem sc_begin : C8.scC N_begin ["_law_script"] (defScope (top 10)) = true := by kernel_rfl
theorem ok_begin {P : Program} {w : World} {K : PySem.W.Frag} {mg : Str → Option Value} {base : Heap} {sp : DSp} (D : DefOk K mg ⟨("_law_begin", none), "_law_begin", "_law_begin", defArgs (top 10), defBody (top 10), defScope (top 10), [], []⟩) (nb_int : mg "int" = none)
    (law : ∀ l G Q, sp l G Q → l.length = 1 ∧ wpB (t_begin) (retD Q) (dstart 2 l) G) : FnG P w K mg base 1 "_law_begin" sp := by
  obtain ⟨f, fd, F, hm⟩ := D
  refine def_ok (N := N_begin) (ps := ["_law_script"]) (t := t_begin) F hm (FunD.bindsN F fun _ _ _ _ _ _ us hl => match us, hl with | [_], _ => rfl) sc_begin (ck_begin) ?_ law
  simp only [t_begin, Bl.need, Sm.need, Ex.need, Ar.need, Op.need, Ib.need, biName, biTy, true_and, and_true]
  and_intros <;> first | trivial | assumption
/-! _law_draw: calls -, level 1; free int len abs -/
def N_draw : List Str := ["_law_d", "_law_many", "_law_size", "_law_found", "_law_cell"]
theorem ck_draw : chkB ⟨N_draw, defScope (top 11), fun _ => true⟩ (t_draw) (defBody (top 11)) = true := by kernel_rfl
theorem sc_draw : C8.scC N_draw ["_law_d", "_law_many"] (defScope (top 11)) = true := by kernel_rfl
theorem ok_draw {P : Program} {w : World} {K : PySem.W.Frag} {mg : Str → Option Value} {base : Heap} {sp : DSp} (D : DefOk K mg ⟨("_law_draw", none), "_law_draw", "_law_draw", defArgs (top 11), defBody (top 11), defScope (top 11), [], []⟩) (nb_int : mg "int" = none) (nb_len : mg "len" = none) (nb_abs : mg "abs" = none)
    (law : ∀ l G Q, sp l G Q → l.length = 2 ∧ wpB (t_draw) (retD Q) (dstart 5 l) G) : FnG P w K mg base 1 "_law_draw" sp := by
  obtain ⟨f, fd, F, hm⟩ := D
  refine def_ok (N := N_draw) (ps := ["_law_d", "_law_many"]) (t := t_draw) F hm (FunD.bindsN F fun _ _ _ _ _ _ us hl => match us, hl with | [_, _], _ => rfl) sc_draw (ck_draw) ?_ law
  simp only [t_draw, Bl.need, Sm.need, Ex.need, Ar.need, Op.need, Ib.need, biName, biTy, true_and, and_true]
  and_intros <;> first | trivial | assumption
/-! _law_rare: calls _law_draw, level 2; free  -/
def N_rare : List Str := ["_law_d", "_law_many"]
theorem ck_rare (sp_draw : DSp) : chkB ⟨N_rare, defScope (top 12), fun _ => true⟩ (t_rare sp_draw) (defBody (top 12)) = true := by kernel_rfl
theorem sc_rare : C8.scC N_rare ["_law_d", "_law_many"] (defScope (top 12)) = true := by kernel_rfl
theorem ok_rare {P : Program} {w : World} {K : PySem.W.Frag} {mg : Str → Option Value} {base : Heap} {sp sp_draw : DSp} (D : DefOk K mg ⟨("_law_rare", none), "_law_rare", "_law_rare", defArgs (top 12), defBody (top 12), defScope (top 12), [], []⟩) (h_draw : FnG P w K mg base 1 "_law_draw" sp_draw)
    (law : ∀ l G Q, sp l G Q → l.length = 2 ∧ wpB (t_rare sp_draw) (retD Q) (dstart 2 l) G) : FnG P w K mg base 2 "_law_rare" sp := by
  obtain ⟨f, fd, F, hm⟩ := D
  refine def_ok (N := N_rare) (ps := ["_law_d", "_law_many"]) (t := t_rare sp_draw) F hm (FunD.bindsN F fun _ _ _ _ _ _ us hl => match us, hl with | [_, _], _ => rfl) sc_rare (ck_rare sp_draw) ?_ law
  simp only [t_rare, Bl.need, Sm.need, Ex.need, Ar.need, Op.need, Ib.need, biName, biTy, true_and, and_true]
  and_intros <;> first | trivial | assumption
/-! _law_is_int: calls -, level 1; free isinstance int bool -/
def N_is_int : List Str := ["_law_thing"]
def t_is_int : Bl := (.cons (.ret (.and (.bcl .isInt (.cons (.var 0) .nil)) (.one (.not (.bcl .isBool (.cons (.var 0) .nil))))))
  .nil)
theorem ck_is_int : chkB ⟨N_is_int, defScope (top 13), fun _ => true⟩ (t_is_int) (defBody (top 13)) = true := by kernel_rfl
theorem sc_is_int : C8.scC N_is_int ["_law_thing"] (defScope (top 13)) = true := by kernel_rfl
theorem ok_is_int {P : Program} {w : World} {K : PySem.W.Frag} {mg : Str → Option Value} {base : Heap} {sp : DSp} (D : DefOk K mg ⟨("_law_is_int", none), "_law_is_int", "_law_is_int", defArgs (top 13), defBody (top 13), defScope (top 13), [], []⟩) (nb_isinstance : mg "isinstance" = none) (nb_int : mg "int" = none) (nb_bool : mg "bool" = none)
    (law : ∀ l G Q, sp l G Q → l.length = 1 ∧ wpB (t_is_int) (retD Q) (dstart 1 l) G) : FnG P w K mg base 1 "_law_is_int" sp := by
  obtain ⟨f, fd, F, hm⟩ := D
  refine def_ok (N := N_is_int) (ps := ["_law_thing"]) (t := t_is_int) F hm (FunD.bindsN F fun _ _ _ _ _ _ us hl => match us, hl with | [_], _ => rfl) sc_is_int (ck_is_int) ?_ law
  simp only [t_is_int, Bl.need, Sm.need, Ex.need, Ar.need, Op.need, Ib.need, biName, biTy, true_and, and_true]
  and_intros <;> first | trivial | assumption
/-! _law_is_ints: calls _law_is_int, level 2; free isinstance tuple all -/
def N_is_ints : List Str := ["_law_row", "_law_part"]
def t_is_ints (sp_is_int : DSp) : Bl := (.cons (.ret (.and (.bcl .isTuple (.cons (.var 0) .nil)) (.one (.bcl .all (.cons (.lc [("_law_part", 1)] (.nm 1) (.seq (.var 0)) .no (.call "_law_is_int" sp_is_int (.cons (.var 1) .nil))) .nil)))))
  .nil)
theorem ck_is_ints (sp_is_int : DSp) : chkB ⟨N_is_ints, defScope (top 14), fun _ => true⟩ (t_is_ints sp_is_int) (defBody (top 14)) = true := by kernel_rfl
theorem sc_is_ints : C8.scC N_is_ints ["_law_row"] (defScope (top 14)) = true := by kernel_rfl
theorem ok_is_ints {P : Program} {w : World} {K : PySem.W.Frag} {mg : Str → Option Value} {base : Heap} {sp sp_is_int : DSp} (D : DefOk K mg ⟨("_law_is_ints", none), "_law_is_ints", "_law_is_ints", defArgs (top 14), defBody (top 14), defScope (top 14), [], []⟩) (h_is_int : FnG P w K mg base 1 "_law_is_int" sp_is_int) (nb_isinstance : mg "isinstance" = none) (nb_tuple : mg "tuple" = none) (nb_all : mg "all" = none)
    (law : ∀ l G Q, sp l G Q → l.length = 1 ∧ wpB (t_is_ints sp_is_int) (retD Q) (dstart 2 l) G) : FnG P w K mg base 2 "_law_is_ints" sp := by
  obtain ⟨f, fd, F, hm⟩ := D
  refine def_ok (N := N_is_ints) (ps := ["_law_row"]) (t := t_is_ints sp_is_int) F hm (FunD.bindsN F fun _ _ _ _ _ _ us hl => match us, hl with | [_], _ => rfl) sc_is_ints (ck_is_ints sp_is_int) ?_ law
  simp only [t_is_ints, Bl.need, Sm.need, Ex.need, Ar.need, Op.need, Ib.need, biName, biTy, true_and, and_true]
  and_intros <;> first | trivial | assumption
/-! _law_fabric: calls _law_draw, level 2; free  -/
def N_fabric : List Str := ["_law_d", "_law_most", "_law_widest", "_law_columns", "_law_rows"]
def t_fabric (sp_draw : DSp) : Bl := (.cons (.set 3 (.bin .Add (.cint 1) (.call "_law_draw" sp_draw (.cons (.var 0) (.cons (.var 1) .nil)))))
  (.cons (.set 4 (.bin .Add (.cint 1) (.call "_law_draw" sp_draw (.cons (.var 0) (.cons (.var 1) .nil)))))
  (.cons (.ret (.tup (.cons (.cstr "fabric") (.cons (.var 3) (.cons (.var 4) (.cons (.bin .Add (.cint 1) (.call "_law_draw" sp_draw (.cons (.var 0) (.cons (.var 2) .nil)))) (.cons (.bin .Add (.cint 2) (.call "_law_draw" sp_draw (.cons (.var 0) (.cons (.cint 3) .nil)))) .nil)))))))
  .nil)))
theorem ck_fabric (sp_draw : DSp) : chkB ⟨N_fabric, defScope (top 15), fun _ => true⟩ (t_fabric sp_draw) (defBody (top 15)) = true := by kernel_rfl
theorem sc_fabric : C8.scC N_fabric ["_law_d", "_law_most", "_law_widest"] (defScope (top 15)) = true := by kernel_rfl
theorem ok_fabric {P : Program} {w : World} {K : PySem.W.Frag} {mg : Str → Option Value} {base : Heap} {sp sp_draw : DSp} (D : DefOk K mg ⟨("_law_fabric", none), "_law_fabric", "_law_fabric", defArgs (top 15), defBody (top 15), defScope (top 15), [], []⟩) (h_draw : FnG P w K mg base 1 "_law_draw" sp_draw)
    (law : ∀ l G Q, sp l G Q → l.length = 3 ∧ wpB (t_fabric sp_draw) (retD Q) (dstart 5 l) G) : FnG P w K mg base 2 "_law_fabric" sp := by
  obtain ⟨f, fd, F, hm⟩ := D
  refine def_ok (N := N_fabric) (ps := ["_law_d", "_law_most", "_law_widest"]) (t := t_fabric sp_draw) F hm (FunD.bindsN F fun _ _ _ _ _ _ us hl => match us, hl with | [_, _, _], _ => rfl) sc_fabric (ck_fabric sp_draw) ?_ law
  simp only [t_fabric, Bl.need, Sm.need, Ex.need, Ar.need, Op.need, Ib.need, biName, biTy, true_and, and_true]
  and_intros <;> first | trivial | assumption
/-! _law_all_tiles: calls -, level 1; free range int -/
def N_all_tiles : List Str := ["_law_fabric_here", "_law_n"]
def t_all_tiles : Bl := (.cons (.ret (.lc [("_law_n", 1)] (.nm 1) (.rng1 (.bin .Mult (.ix (.var 0) (.cint 1)) (.ix (.var 0) (.cint 2)))) .no (.tup (.cons (.bin .Mod (.bcl .int1 (.cons (.var 1) .nil)) (.ix (.var 0) (.cint 1))) (.cons (.bin .FloorDiv (.var 1) (.ix (.var 0) (.cint 1))) .nil)))))
  .nil)
theorem ck_all_tiles : chkB ⟨N_all_tiles, defScope (top 16), fun _ => true⟩ (t_all_tiles) (defBody (top 16)) = true := by kernel_rfl
theorem sc_all_tiles : C8.scC N_all_tiles ["_law_fabric_here"] (defScope (top 16)) = true := by kernel_rfl
theorem ok_all_tiles {P : Program} {w : World} {K : PySem.W.Frag} {mg : Str → Option Value} {base : Heap} {sp : DSp} (D : DefOk K mg ⟨("_law_all_tiles", none), "_law_all_tiles", "_law_all_tiles", defArgs (top 16), defBody (top 16), defScope (top 16), [], []⟩) (nb_range : mg "range" = none) (nb_int : mg "int" = none)
    (law : ∀ l G Q, sp l G Q → l.length = 1 ∧ wpB (t_all_tiles) (retD Q) (dstart 2 l) G) : FnG P w K mg base 1 "_law_all_tiles" sp := by
  obtain ⟨f, fd, F, hm⟩ := D
  refine def_ok (N := N_all_tiles) (ps := ["_law_fabric_here"]) (t := t_all_tiles) F hm (FunD.bindsN F fun _ _ _ _ _ _ us hl => match us, hl with | [_], _ => rfl) sc_all_tiles (ck_all_tiles) ?_ law
  simp only [t_all_tiles, Bl.need, Sm.need, Ex.need, Ar.need, Op.need, Ib.need, biName, biTy, true_and, and_true]
  and_intros <;> first | trivial | assumption
/-! _law_behind: calls -, level 1; free  -/
def N_behind : List Str := ["_law_x", "_law_y", "_law_side"]
def t_behind : Bl := (.cons (.ifs (.cmp .Eq (.var 2) (.cint 0)) (.cons (.ret (.tup (.cons (.var 0) (.cons (.bin .Sub (.var 1) (.cint 1)) .nil))))
  .nil) .nil)
  (.cons (.ifs (.cmp .Eq (.var 2) (.cint 1)) (.cons (.ret (.tup (.cons (.bin .Add (.var 0) (.cint 1)) (.cons (.var 1) .nil))))
  .nil) .nil)
  (.cons (.ifs (.cmp .Eq (.var 2) (.cint 2)) (.cons (.ret (.tup (.cons (.var 0) (.cons (.bin .Add (.var 1) (.cint 1)) .nil))))
  .nil) .nil)
  (.cons (.ret (.tup (.cons (.bin .Sub (.var 0) (.cint 1)) (.cons (.var 1) .nil))))
  .nil))))
theorem ck_behind : chkB ⟨N_behind, defScope (top 17), fun _ => true⟩ (t_behind) (defBody (top 17)) = true := by kernel_rfl
theorem sc_behind : C8.scC N_behind ["_law_x", "_law_y", "_law_side"] (defScope (top 17)) = true := by kernel_rfl
theorem ok_behind {P : Program} {w : World} {K : PySem.W.Frag} {mg : Str → Option Value} {base : Heap} {sp : DSp} (D : DefOk K mg ⟨("_law_behind", none), "_law_behind", "_law_behind", defArgs (top 17), defBody (top 17), defScope (top 17), [], []⟩)
    (law : ∀ l G Q, sp l G Q → l.length = 3 ∧ wpB (t_behind) (retD Q) (dstart 3 l) G) : FnG P w K mg base 1 "_law_behind" sp := by
  obtain ⟨f, fd, F, hm⟩ := D
  refine def_ok (N := N_behind) (ps := ["_law_x", "_law_y", "_law_side"]) (t := t_behind) F hm (FunD.bindsN F fun _ _ _ _ _ _ us hl => match us, hl with | [_, _, _], _ => rfl) sc_behind (ck_behind) ?_ law
  simp only [t_behind, Bl.need, Sm.need, Ex.need, Ar.need, Op.need, Ib.need, biName, biTy, true_and, and_true]
/-! _law_all_pads: calls _law_all_tiles _law_behind, level 2; free range sorted -/
def N_all_pads : List Str := ["_law_fabric_here", "_law_found", "_law_tile", "_law_side", "_law_x", "_law_y", "_law_track"]
def t_all_pads (sp_all_tiles : DSp) (sp_behind : DSp) : Bl := (.cons (.set 1 (.lst .nil))
  (.cons (.for (.nm 2) (.seq (.call "_law_all_tiles" sp_all_tiles (.cons (.var 0) .nil))) (.cons (.for (.nm 3) (.rng1 (.cint 4)) (.cons (.tset (.tp [(.nm 4), (.nm 5)]) (.call "_law_behind" sp_behind (.cons (.ix (.var 2) (.cint 0)) (.cons (.ix (.var 2) (.cint 1)) (.cons (.var 3) .nil)))))
  (.cons (.ifs (.not (.and (.chn .LtE .Lt (.cint 0) (.var 4) (.ix (.var 0) (.cint 1))) (.one (.chn .LtE .Lt (.cint 0) (.var 5) (.ix (.var 0) (.cint 2)))))) (.cons (.expr (.mth .extend (.var 1) (.cons (.lc [("_law_track", 6)] (.nm 6) (.rng1 (.ix (.var 0) (.cint 3))) .no (.tup (.cons (.ix (.var 2) (.cint 0)) (.cons (.ix (.var 2) (.cint 1)) (.cons (.var 3) (.cons (.var 6) .nil)))))) .nil)))
  .nil) .nil)
  .nil)))
  .nil))
  (.cons (.ret (.bcl .sorted (.cons (.var 1) .nil)))
  .nil)))
theorem ck_all_pads (sp_all_tiles : DSp) (sp_behind : DSp) : chkB ⟨N_all_pads, defScope (top 18), fun _ => true⟩ (t_all_pads sp_all_tiles sp_behind) (defBody (top 18)) = true := by kernel_rfl
theorem sc_all_pads : C8.scC N_all_pads ["_law_fabric_here"] (defScope (top 18)) = true := by kernel_rfl
theorem ok_all_pads {P : Program} {w : World} {K : PySem.W.Frag} {mg : Str → Option Value} {base : Heap} {sp sp_all_tiles sp_behind : DSp} (D : DefOk K mg ⟨("_law_all_pads", none), "_law_all_pads", "_law_all_pads", defArgs (top 18), defBody (top 18), defScope (top 18), [], []⟩) (h_all_tiles : FnG P w K mg base 1 "_law_all_tiles" sp_all_tiles) (h_behind : FnG P w K mg base 1 "_law_behind" sp_behind) (nb_range : mg "range" = none) (nb_sorted : mg "sorted" = none)
    (law : ∀ l G Q, sp l G Q → l.length = 1 ∧ wpB (t_all_pads sp_all_tiles sp_behind) (retD Q) (dstart 7 l) G) : FnG P w K mg base 2 "_law_all_pads" sp := by
  obtain ⟨f, fd, F, hm⟩ := D
  refine def_ok (N := N_all_pads) (ps := ["_law_fabric_here"]) (t := t_all_pads sp_all_tiles sp_behind) F hm (FunD.bindsN F fun _ _ _ _ _ _ us hl => match us, hl with | [_], _ => rfl) sc_all_pads (ck_all_pads sp_all_tiles sp_behind) ?_ law
  simp only [t_all_pads, Bl.need, Sm.need, Ex.need, Ar.need, Op.need, Ib.need, biName, biTy, true_and, and_true]
  and_intros <;> first | trivial | assumption
/-! _law_is_told: calls _law_is_ints, level 3; free isinstance tuple len str -/
def N_is_told : List Str := ["_law_told"]
def t_is_told (sp_is_ints : DSp) : Bl := (.cons (.ifs (.or (.not (.bcl .isTuple (.cons (.var 0) .nil))) (.or (.cmp .NotEq (.bcl .len (.cons (.var 0) .nil)) (.cint 2)) (.one (.not (.bcl .isStr (.cons (.ix (.var 0) (.cint 0)) .nil)))))) (.cons (.ret (.cbl false))
  .nil) .nil)
  (.cons (.ret (.and (.call "_law_is_ints" sp_is_ints (.cons (.ix (.var 0) (.cint 1)) .nil)) (.one (.cmp .Eq (.bcl .len (.cons (.ix (.var 0) (.cint 1)) .nil)) (.cint 4)))))
  .nil))
theorem ck_is_told (sp_is_ints : DSp) : chkB ⟨N_is_told, defScope (top 19), fun _ => true⟩ (t_is_told sp_is_ints) (defBody (top 19)) = true := by kernel_rfl
theorem sc_is_told : C8.scC N_is_told ["_law_told"] (defScope (top 19)) = true := by kernel_rfl
theorem ok_is_told {P : Program} {w : World} {K : PySem.W.Frag} {mg : Str → Option Value} {base : Heap} {sp sp_is_ints : DSp} (D : DefOk K mg ⟨("_law_is_told", none), "_law_is_told", "_law_is_told", defArgs (top 19), defBody (top 19), defScope (top 19), [], []⟩) (h_is_ints : FnG P w K mg base 2 "_law_is_ints" sp_is_ints) (nb_isinstance : mg "isinstance" = none) (nb_tuple : mg "tuple" = none) (nb_len : mg "len" = none) (nb_str : mg "str" = none)
    (law : ∀ l G Q, sp l G Q → l.length = 1 ∧ wpB (t_is_told sp_is_ints) (retD Q) (dstart 1 l) G) : FnG P w K mg base 3 "_law_is_told" sp := by
  obtain ⟨f, fd, F, hm⟩ := D
  refine def_ok (N := N_is_told) (ps := ["_law_told"]) (t := t_is_told sp_is_ints) F hm (FunD.bindsN F fun _ _ _ _ _ _ us hl => match us, hl with | [_], _ => rfl) sc_is_told (ck_is_told sp_is_ints) ?_ law
  simp only [t_is_told, Bl.need, Sm.need, Ex.need, Ar.need, Op.need, Ib.need, biName, biTy, true_and, and_true]
  and_intros <;> first | trivial | assumption
/-! _law_sides_fit: calls _law_all_pads _law_all_tiles entering _law_is_told _law_behind, level 4; free range int len -/
def N_sides_fit : List Str := ["_law_fabric_here", "_law_pads", "_law_wires", "_law_met", "_law_tile", "_law_inner", "_law_number", "_law_told", "_law_own", "_law_wire", "_law_side", "_law_track", "_law_x", "_law_y", "_law_facing", "_law_other"]
def t_sides_fit (sp_all_pads : DSp) (sp_all_tiles : DSp) (sp_m_entering : DSp) (sp_is_told : DSp) (sp_behind : DSp) : Bl := (.cons (.set 1 (.call "_law_all_pads" sp_all_pads (.cons (.var 0) .nil)))
  (.cons (.set 2 .emp)
  (.cons (.set 3 .emp)
  (.cons (.for (.nm 4) (.seq (.call "_law_all_tiles" sp_all_tiles (.cons (.var 0) .nil))) (.cons (.for (.nm 6) (.rng1 (.bin .Mult (.cint 4) (.ix (.var 0) (.cint 3)))) (.cons (.par2 10 11 (.bin .FloorDiv (.var 6) (.ix (.var 0) (.cint 3))) (.bin .Mod (.bcl .int1 (.cons (.var 6) .nil)) (.ix (.var 0) (.cint 3))))
  (.cons (.set 7 (.call "entering" sp_m_entering (.cons (.var 0) (.cons (.ix (.var 4) (.cint 0)) (.cons (.ix (.var 4) (.cint 1)) (.cons (.var 10) (.cons (.var 11) .nil)))))))
  (.cons (.ifs (.not (.call "_law_is_told" sp_is_told (.cons (.var 7) .nil))) (.cons (.ret (.cbl false))
  .nil) .nil)
  (.cons (.set 8 (.tup (.cons (.ix (.var 4) (.cint 0)) (.cons (.ix (.var 4) (.cint 1)) (.cons (.var 10) (.cons (.var 11) .nil))))))
  (.cons (.ifs (.cmp .Eq (.ix (.var 7) (.cint 0)) (.cstr "pad")) (.cons (.ifs (.or (.cmp .NotEq (.ix (.var 7) (.cint 1)) (.var 8)) (.or (.cmp .NotIn (.var 8) (.var 1)) (.one (.cmp .In (.var 8) (.var 3))))) (.cons (.ret (.cbl false))
  .nil) .nil)
  (.cons (.sub (.var 3) (.var 8) (.cbl true))
  .nil)) (.cons (.tset (.tp [(.nm 12), (.nm 13), (.nm 14), (.nm 15)]) (.ix (.var 7) (.cint 1)))
  (.cons (.ifs (.or (.cmp .NotEq (.ix (.var 7) (.cint 0)) (.cstr "wire")) (.or (.cmp .In (.ix (.var 7) (.cint 1)) (.var 2)) (.or (.cmp .NotEq (.var 15) (.var 11)) (.one (.cmp .NotEq (.bin .BitAnd (.bin .Sub (.var 14) (.var 10)) (.cint 3)) (.cint 2)))))) (.cons (.ret (.cbl false))
  .nil) .nil)
  (.cons (.ifs (.or (.cmp .NotEq (.tup (.cons (.var 12) (.cons (.var 13) .nil))) (.call "_law_behind" sp_behind (.cons (.ix (.var 4) (.cint 0)) (.cons (.ix (.var 4) (.cint 1)) (.cons (.var 10) .nil))))) (.one (.cmp .NotEq (.call "_law_behind" sp_behind (.cons (.var 12) (.cons (.var 13) (.cons (.var 14) .nil)))) (.var 4)))) (.cons (.ret (.cbl false))
  .nil) .nil)
  (.cons (.sub (.var 2) (.ix (.var 7) (.cint 1)) (.cbl true))
  .nil)))))
  .nil))))))
  .nil))
  (.cons (.ifs (.cmp .NotEq (.bcl .len (.cons (.var 3) .nil)) (.bcl .len (.cons (.var 1) .nil))) (.cons (.ret (.cbl false))
  .nil) .nil)
  (.cons (.set 5 (.lc [("_law_wire", 9)] (.nm 9) (.seq (.var 2)) (.yes (.and (.chn .LtE .Lt (.cint 0) (.ix (.var 9) (.cint 0)) (.ix (.var 0) (.cint 1))) (.one (.chn .LtE .Lt (.cint 0) (.ix (.var 9) (.cint 1)) (.ix (.var 0) (.cint 2)))))) (.var 9)))
  (.cons (.ret (.and (.cmp .Eq (.bcl .len (.cons (.var 5) .nil)) (.bcl .len (.cons (.var 2) .nil))) (.one (.cmp .Eq (.bin .Add (.bcl .len (.cons (.var 2) .nil)) (.bcl .len (.cons (.var 1) .nil))) (.bin .Mult (.bin .Mult (.bin .Mult (.cint 4) (.ix (.var 0) (.cint 1))) (.ix (.var 0) (.cint 2))) (.ix (.var 0) (.cint 3)))))))
  .nil)))))))
theorem ck_sides_fit (sp_all_pads : DSp) (sp_all_tiles : DSp) (sp_m_entering : DSp) (sp_is_told : DSp) (sp_behind : DSp) : chkB ⟨N_sides_fit, defScope (top 20), fun _ => true⟩ (t_sides_fit sp_all_pads sp_all_tiles sp_m_entering sp_is_told sp_behind) (defBody (top 20)) = true := by kernel_rfl
theorem sc_sides_fit : C8.scC N_sides_fit ["_law_fabric_here"] (defScope (top 20)) = true := by kernel_rfl
theorem ok_sides_fit {P : Program} {w : World} {K : PySem.W.Frag} {mg : Str → Option Value} {base : Heap} {sp sp_all_pads sp_all_tiles sp_m_entering sp_is_told sp_behind : DSp} (D : DefOk K mg ⟨("_law_sides_fit", none), "_law_sides_fit", "_law_sides_fit", defArgs (top 20), defBody (top 20), defScope (top 20), [], []⟩) (h_all_pads : FnG P w K mg base 3 "_law_all_pads" sp_all_pads) (h_all_tiles : FnG P w K mg base 3 "_law_all_tiles" sp_all_tiles) (h_m_entering : FnG P w K mg base 3 "entering" sp_m_entering) (h_is_told : FnG P w K mg base 3 "_law_is_told" sp_is_told) (h_behind : FnG P w K mg base 3 "_law_behind" sp_behind) (nb_range : mg "range" = none) (nb_int : mg "int" = none) (nb_len : mg "len" = none)
    (law : ∀ l G Q, sp l G Q → l.length = 1 ∧ wpB (t_sides_fit sp_all_pads sp_all_tiles sp_m_entering sp_is_told sp_behind) (retD Q) (dstart 16 l) G) : FnG P w K mg base 4 "_law_sides_fit" sp := by
  obtain ⟨f, fd, F, hm⟩ := D
  refine def_ok (N := N_sides_fit) (ps := ["_law_fabric_here"]) (t := t_sides_fit sp_all_pads sp_all_tiles sp_m_entering sp_is_told sp_behind) F hm (FunD.bindsN F fun _ _ _ _ _ _ us hl => match us, hl with | [_], _ => rfl) sc_sides_fit (ck_sides_fit sp_all_pads sp_all_tiles sp_m_entering sp_is_told sp_behind) ?_ law
  simp only [t_sides_fit, Bl.need, Sm.need, Ex.need, Ar.need, Op.need, Ib.need, biName, biTy, true_and, and_true]
  and_intros <;> first | trivial | assumption
/-! _law_lists_fit: calls tiles_of _law_is_ints _law_all_tiles pads_of _law_all_pads, level 4; free isinstance tuple all list -/
def N_lists_fit : List Str := ["_law_fabric_here", "_law_told", "_law_tile", "_law_pad"]
def t_lists_fit (sp_m_tiles_of : DSp) (sp_is_ints : DSp) (sp_all_tiles : DSp) (sp_m_pads_of : DSp) (sp_all_pads : DSp) : Bl := (.cons (.set 1 (.call "tiles_of" sp_m_tiles_of (.cons (.var 0) .nil)))
  (.cons (.ifs (.or (.not (.bcl .isTuple (.cons (.var 1) .nil))) (.one (.not (.bcl .all (.cons (.lc [("_law_tile", 2)] (.nm 2) (.seq (.var 1)) .no (.call "_law_is_ints" sp_is_ints (.cons (.var 2) .nil))) .nil))))) (.cons (.ret (.cbl false))
  .nil) .nil)
  (.cons (.ifs (.cmp .NotEq (.bcl .listOf (.cons (.var 1) .nil)) (.call "_law_all_tiles" sp_all_tiles (.cons (.var 0) .nil))) (.cons (.ret (.cbl false))
  .nil) .nil)
  (.cons (.set 1 (.call "pads_of" sp_m_pads_of (.cons (.var 0) .nil)))
  (.cons (.ifs (.or (.not (.bcl .isTuple (.cons (.var 1) .nil))) (.one (.not (.bcl .all (.cons (.lc [("_law_pad", 3)] (.nm 3) (.seq (.var 1)) .no (.call "_law_is_ints" sp_is_ints (.cons (.var 3) .nil))) .nil))))) (.cons (.ret (.cbl false))
  .nil) .nil)
  (.cons (.ret (.cmp .Eq (.bcl .listOf (.cons (.var 1) .nil)) (.call "_law_all_pads" sp_all_pads (.cons (.var 0) .nil))))
  .nil))))))
theorem ck_lists_fit (sp_m_tiles_of : DSp) (sp_is_ints : DSp) (sp_all_tiles : DSp) (sp_m_pads_of : DSp) (sp_all_pads : DSp) : chkB ⟨N_lists_fit, defScope (top 21), fun _ => true⟩ (t_lists_fit sp_m_tiles_of sp_is_ints sp_all_tiles sp_m_pads_of sp_all_pads) (defBody (top 21)) = true := by kernel_rfl
theorem sc_lists_fit : C8.scC N_lists_fit ["_law_fabric_here"] (defScope (top 21)) = true := by kernel_rfl
theorem ok_lists_fit {P : Program} {w : World} {K : PySem.W.Frag} {mg : Str → Option Value} {base : Heap} {sp sp_m_tiles_of sp_is_ints sp_all_tiles sp_m_pads_of sp_all_pads : DSp} (D : DefOk K mg ⟨("_law_lists_fit", none), "_law_lists_fit", "_law_lists_fit", defArgs (top 21), defBody (top 21), defScope (top 21), [], []⟩) (h_m_tiles_of : FnG P w K mg base 3 "tiles_of" sp_m_tiles_of) (h_is_ints : FnG P w K mg base 3 "_law_is_ints" sp_is_ints) (h_all_tiles : FnG P w K mg base 3 "_law_all_tiles" sp_all_tiles) (h_m_pads_of : FnG P w K mg base 3 "pads_of" sp_m_pads_of) (h_all_pads : FnG P w K mg base 3 "_law_all_pads" sp_all_pads) (nb_isinstance : mg "isinstance" = none) (nb_tuple : mg "tuple" = none) (nb_all : mg "all" = none) (nb_list : mg "list" = none)
    (law : ∀ l G Q, sp l G Q → l.length = 1 ∧ wpB (t_lists_fit sp_m_tiles_of sp_is_ints sp_all_tiles sp_m_pads_of sp_all_pads) (retD Q) (dstart 4 l) G) : FnG P w K mg base 4 "_law_lists_fit" sp := by
  obtain ⟨f, fd, F, hm⟩ := D
  refine def_ok (N := N_lists_fit) (ps := ["_law_fabric_here"]) (t := t_lists_fit sp_m_tiles_of sp_is_ints sp_all_tiles sp_m_pads_of sp_all_pads) F hm (FunD.bindsN F fun _ _ _ _ _ _ us hl => match us, hl with | [_], _ => rfl) sc_lists_fit (ck_lists_fit sp_m_tiles_of sp_is_ints sp_all_tiles sp_m_pads_of sp_all_pads) ?_ law
  simp only [t_lists_fit, Bl.need, Sm.need, Ex.need, Ar.need, Op.need, Ib.need, biName, biTy, true_and, and_true]
  and_intros <;> first | trivial | assumption
/-! law: calls _law_begin _law_rare _law_fabric _law_lists_fit _law_sides_fit, level 5; free  -/
def N_m_law : List Str := ["_law_script", "_law_d", "_law_is_large", "_law_fabric_here", "_law_other"]
def t_m_law (sp_begin : DSp) (sp_rare : DSp) (sp_fabric : DSp) (sp_lists_fit : DSp) (sp_sides_fit : DSp) : Bl := (.cons (.set 1 (.call "_law_begin" sp_begin (.cons (.var 0) .nil)))
  (.cons (.set 2 (.call "_law_rare" sp_rare (.cons (.var 1) (.cons (.cint 9) .nil))))
  (.cons (.set 3 (.call "_law_fabric" sp_fabric (.cons (.var 1) (.cons (.ife (.var 2) (.cint 8) (.cint 4)) (.cons (.ife (.var 2) (.cint 12) (.cint 3)) .nil)))))
  (.cons (.set 4 (.call "_law_fabric" sp_fabric (.cons (.var 1) (.cons (.cint 3) (.cons (.cint 2) .nil)))))
  (.cons (.ifs (.or (.not (.call "_law_lists_fit" sp_lists_fit (.cons (.var 3) .nil))) (.one (.not (.call "_law_lists_fit" sp_lists_fit (.cons (.var 4) .nil))))) (.cons (.ret (.cbl false))
  .nil) .nil)
  (.cons (.ifs (.or (.not (.call "_law_sides_fit" sp_sides_fit (.cons (.var 3) .nil))) (.one (.not (.call "_law_sides_fit" sp_sides_fit (.cons (.var 4) .nil))))) (.cons (.ret (.cbl false))
  .nil) .nil)
  (.cons (.ret (.call "_law_lists_fit" sp_lists_fit (.cons (.var 3) .nil)))
  .nil)))))))
theorem ck_m_law (sp_begin : DSp) (sp_rare : DSp) (sp_fabric : DSp) (sp_lists_fit : DSp) (sp_sides_fit : DSp) : chkB ⟨N_m_law, defScope (top 22), fun _ => true⟩ (t_m_law sp_begin sp_rare sp_fabric sp_lists_fit sp_sides_fit) (defBody (top 22)) = true := by kernel_rfl
theorem sc_m_law : C8.scC N_m_law ["_law_script"] (defScope (top 22)) = true := by kernel_rfl
theorem ok_law {P : Program} {w : World} {K : PySem.W.Frag} {mg : Str → Option Value} {base : Heap} {f : Addr} {fd : FuncData} {sp sp_begin sp_rare sp_fabric sp_lists_fit sp_sides_fit : DSp} (F : FunD K "law" "law" (defArgs (top 22)) (defBody (top 22)) (defScope (top 22)) [] [] f fd) (h_begin : FnG P w K mg base 4 "_law_begin" sp_begin) (h_rare : FnG P w K mg base 4 "_law_rare" sp_rare) (h_fabric : FnG P w K mg base 4 "_law_fabric" sp_fabric) (h_lists_fit : FnG P w K mg base 4 "_law_lists_fit" sp_lists_fit) (h_sides_fit : FnG P w K mg base 4 "_law_sides_fit" sp_sides_fit)
    (law : ∀ l G Q, sp l G Q → l.length = 1 ∧ wpB (t_m_law sp_begin sp_rare sp_fabric sp_lists_fit sp_sides_fit) (retD Q) (dstart 5 l) G) : FnOk P w K mg base CX0 5 f fd ["_law_script"] (fun vs H Q _ => liftC ⟨K, P, w⟩ sp vs H Q) := by
  refine def_fn (N := N_m_law) (ps := ["_law_script"]) (t := t_m_law sp_begin sp_rare sp_fabric sp_lists_fit sp_sides_fit) F sc_m_law (ck_m_law sp_begin sp_rare sp_fabric sp_lists_fit sp_sides_fit) ?_ law
  simp only [t_m_law, Bl.need, Sm.need, Ex.need, Ar.need, Op.need, Ib.need, biName, biTy, true_and, and_true]
  and_intros <;> first | trivial | assumption
end K70

/-! K70B: what the law's defs do, one after the other. -/
namespace K70
open PySem L2 BD
def fabD (X Y T : Nat) (k : Int) : Dv := .tup [.str "fabric", .int X, .int Y, .int T, .int k]
def tD (t : Nat × Nat) : Dv := .tup [.int t.1, .int t.2]
def qD (e : Nat × Nat × Nat × Nat) : Dv := .tup [.int e.1, .int e.2.1, .int e.2.2.1, .int e.2.2.2]
def tilesL (X Y : Nat) : List (Nat × Nat) := (List.range Y).flatMap fun y => (List.range X).map fun x => (x, y)
def nbx (x : Int) (s : Nat) : Int := match s with | 0 => x | 1 => x + 1 | 2 => x | _ => x - 1
def nby (y : Int) (s : Nat) : Int := match s with | 0 => y - 1 | 1 => y | 2 => y + 1 | _ => y
def inF (X Y : Nat) (x y : Int) : Bool := decide (0 ≤ x ∧ x < X ∧ 0 ≤ y ∧ y < Y)
def out (X Y : Nat) (x y s : Nat) : Bool := !inF X Y (nbx x s) (nby y s)
def rowL (X Y T x y s : Nat) : List (Nat × Nat × Nat × Nat) := if out X Y x y s = true then (List.range T).map fun k => (x, y, s, k) else []
def padsL (X Y T : Nat) : List (Nat × Nat × Nat × Nat) := (List.range X).flatMap fun x => (List.range Y).flatMap fun y => (List.range 4).flatMap fun s => rowL X Y T x y s
def foundL (X Y T : Nat) : List (Nat × Nat × Nat × Nat) := (tilesL X Y).flatMap fun t => (List.range 4).flatMap fun s => rowL X Y T t.1 t.2 s
def sp_m_tiles_of : DSp := fun l G Q => ∃ (X Y T : Nat) (k : Int), l = [fabD X Y T k] ∧ X ≤ 8 ∧ Y ≤ 8 ∧ Q (.tup ((tilesL X Y).map tD)) G
def sp_m_has_tile : DSp := fun l G Q => ∃ (X Y T : Nat) (k x y : Int), l = [fabD X Y T k, .int x, .int y] ∧ Q (.bl (inF X Y x y)) G
def sp_m_beside : DSp := fun l G Q => ∃ (x y : Int) (s : Nat), l = [.int x, .int y, .int s] ∧ s < 4 ∧ Q (.tup [.int (nbx x s), .int (nby y s)]) G
def sp_m_leads_out : DSp := fun l G Q => ∃ (X Y T : Nat) (k x y : Int) (s : Nat), l = [fabD X Y T k, .int x, .int y, .int s] ∧ s < 4 ∧ Q (.bl (!inF X Y (nbx x s) (nby y s))) G
def sp_m_pads_of : DSp := fun l G Q => ∃ (X Y T : Nat) (k : Int), l = [fabD X Y T k] ∧ X ≤ 8 ∧ Y ≤ 8 ∧ T ≤ 12 ∧ Q (.tup ((padsL X Y T).map qD)) G
def entD (X Y : Nat) (x y : Int) (s : Nat) (t : Int) : Dv := if inF X Y (nbx x s) (nby y s) = true then .tup [.str "wire", .tup [.int (nbx x s), .int (nby y s), .int (((s : Int) + 2) % 4), .int t]] else .tup [.str "pad", .tup [.int x, .int y, .int s, .int t]]
def sp_m_entering : DSp := fun l G Q => ∃ (X Y T : Nat) (k x y : Int) (s : Nat) (t : Int), l = [fabD X Y T k, .int x, .int y, .int s, .int t] ∧ s < 4 ∧ Q (entD X Y x y s t) G
def sp_is_int : DSp := fun l G Q => ∃ i : Int, l = [.int i] ∧ Q (.bl true) G
def sp_is_ints : DSp := fun l G Q => ∃ ns : List Int, l = [.tup (ns.map Dv.int)] ∧ ns.length ≤ 1000 ∧ Q (.bl true) G
def sp_fabric : DSp := fun l G Q => ∃ (p q : Addr) (cs : List Int) (m w : Int), l = [.ref p, .int m, .int w] ∧ 0 < m ∧ m ≤ 8 ∧ 0 < w ∧ w ≤ 12 ∧ Dr p q cs G ∧ ∀ (X Y T : Nat) (k : Int) (G' : Dh), 1 ≤ X → X ≤ 8 → 1 ≤ Y → Y ≤ 8 → 1 ≤ T → T ≤ 12 → Dr p q cs G' → Q (fabD X Y T k) G'
def sp_all_tiles : DSp := fun l G Q => ∃ (X Y T : Nat) (k : Int), l = [fabD X Y T k] ∧ 1 ≤ X ∧ X ≤ 8 ∧ Y ≤ 8 ∧ ∀ p, G p = none → Q (.ref p) (updG G p (.lst ((tilesL X Y).map tD)))
def sp_behind : DSp := sp_m_beside
def sp_all_pads : DSp := fun l G Q => ∃ (X Y T : Nat) (k : Int), l = [fabD X Y T k] ∧ 1 ≤ X ∧ X ≤ 8 ∧ Y ≤ 8 ∧ T ≤ 12 ∧ ∀ p, G p = none → Q (.ref p) (updG G p (.lst ((padsL X Y T).map qD)))
def sp_is_told : DSp := fun l G Q => ∃ (z : Str) (ns : List Int), l = [.tup [.str z, .tup (ns.map Dv.int)]] ∧ ns.length = 4 ∧ Q (.bl true) G
def sp_lists_fit : DSp := fun l G Q => ∃ (X Y T : Nat) (k : Int), l = [fabD X Y T k] ∧ 1 ≤ X ∧ X ≤ 8 ∧ 1 ≤ Y ∧ Y ≤ 8 ∧ 1 ≤ T ∧ T ≤ 12 ∧ Q (.bl true) G
def sp_sides_fit : DSp := sp_lists_fit

theorem law_m_tiles_of (l : List Dv) (G : Dh) (Q : DK) (h : sp_m_tiles_of l G Q) : l.length = 1 ∧ wpB t_m_tiles_of (retD Q) (dstart 3 l) G := by
  obtain ⟨X, Y, T, k, rfl, hX, hY, hQ⟩ := h
  refine ⟨rfl, ?_⟩
  show wpB t_m_tiles_of (retD Q) [some (fabD X Y T k), none, none] G
  simp [t_m_tiles_of, fabD, dwipe]
  refine ⟨small_nat (by omega), ?_⟩
  rw [rng_nat]
  refine lc2_map (l2 := (List.range X).map fun k : Nat => Dv.int (k : Int)) (f := fun d d2 => .tup [d2, d]) _ [] trivial (by
    have := Nat.mul_le_mul hY hX
    simp [sz]; omega) (fun d hd => ?_) fun p hp => ?_
  · refine ⟨_, rfl, fun R hR => ?_, fun d2 hd2 => ⟨_, rfl, fun R hR => ?_⟩⟩
    · simp
      exact ⟨small_nat (by omega), by rw [rng_nat]; exact hR⟩
    · simpa [tgS, tgsS, dwipe, sz] using hR
  · have e : (((List.range Y).map fun k : Nat => Dv.int (k : Int)).flatMap fun d => ((List.range X).map fun k : Nat => Dv.int (k : Int)).map fun d2 => Dv.tup [d2, d]) = (tilesL X Y).map tD := by
      unfold tilesL
      rw [List.flatMap_map, List.map_flatMap]
      simp [List.map_map, Function.comp_def, tD]
    simp
    rw [← e] at hQ
    exact ⟨G, .upd .refl hp, by simpa using hQ⟩
theorem law_m_has_tile (l : List Dv) (G : Dh) (Q : DK) (h : sp_m_has_tile l G Q) : l.length = 3 ∧ wpB t_m_has_tile (retD Q) (dstart 3 l) G := by
  obtain ⟨X, Y, T, k, x, y, rfl, hQ⟩ := h
  refine ⟨rfl, ?_⟩
  show wpB t_m_has_tile (retD Q) [some (fabD X Y T k), some (.int x), some (.int y)] G
  have go : ∀ b : Bool, b = inF X Y x y → ∃ Gf, Sub Gf G ∧ Q (.bl b) Gf := fun b e => ⟨G, .refl, by rw [e]; exact hQ⟩
  unfold inF at go
  by_cases a : 0 ≤ x <;> by_cases b : x < X <;> by_cases c : 0 ≤ y <;> by_cases d : y < Y <;> simp [t_m_has_tile, fabD, a, b, c, d] <;> exact go _ (by simp [a, b, c, d])
theorem law_m_beside (l : List Dv) (G : Dh) (Q : DK) (h : sp_m_beside l G Q) : l.length = 3 ∧ wpB t_m_beside (retD Q) (dstart 3 l) G := by
  obtain ⟨x, y, s, rfl, hs, hQ⟩ := h
  refine ⟨rfl, ?_⟩
  show wpB t_m_beside (retD Q) [some (.int x), some (.int y), some (.int s)] G
  have : s = 0 ∨ s = 1 ∨ s = 2 ∨ s = 3 := by omega
  rcases this with rfl | rfl | rfl | rfl <;> simp [t_m_beside, c_COLUMN_STEPS, c_ROW_STEPS, sz] <;> exact ⟨G, .refl, by simpa [nbx, nby, Int.sub_eq_add_neg] using hQ⟩
theorem law_m_leads_out (l : List Dv) (G : Dh) (Q : DK) (h : sp_m_leads_out l G Q) : l.length = 4 ∧ wpB (t_m_leads_out sp_m_beside sp_m_has_tile) (retD Q) (dstart 6 l) G := by
  obtain ⟨X, Y, T, k, x, y, s, rfl, hs, hQ⟩ := h
  refine ⟨rfl, ?_⟩
  show wpB (t_m_leads_out sp_m_beside sp_m_has_tile) (retD Q) [some (fabD X Y T k), some (.int x), some (.int y), some (.int s), none, none] G
  simp [t_m_leads_out]
  refine ⟨x, y, s, rfl, hs, ?_⟩
  simp [asgT, asgTs]
  refine ⟨X, Y, T, k, _, _, rfl, ?_⟩
  simp
  exact ⟨G, .refl, hQ⟩
theorem law_m_entering (l : List Dv) (G : Dh) (Q : DK) (h : sp_m_entering l G Q) : l.length = 5 ∧ wpB (t_m_entering sp_m_beside sp_m_has_tile) (retD Q) (dstart 7 l) G := by
  obtain ⟨X, Y, T, k, x, y, s, t, rfl, hs, hQ⟩ := h
  refine ⟨rfl, ?_⟩
  show wpB (t_m_entering sp_m_beside sp_m_has_tile) (retD Q) [some (fabD X Y T k), some (.int x), some (.int y), some (.int s), some (.int t), none, none] G
  simp [t_m_entering]
  refine ⟨x, y, s, rfl, hs, ?_⟩
  simp [asgT, asgTs]
  refine ⟨X, Y, T, k, _, _, rfl, ?_⟩
  unfold entD at hQ
  simp [sz]
  split <;> rename_i hc
  · rw [if_pos hc] at hQ; exact ⟨G, .refl, hQ⟩
  · rw [if_neg hc] at hQ; exact ⟨G, .refl, hQ⟩
theorem law_is_int (l : List Dv) (G : Dh) (Q : DK) (h : sp_is_int l G Q) : l.length = 1 ∧ wpB t_is_int (retD Q) (dstart 1 l) G := by
  obtain ⟨i, rfl, hQ⟩ := h
  refine ⟨rfl, ?_⟩
  show wpB t_is_int (retD Q) [some (.int i)] G
  have h1 : ∀ Q' : DK, dBi .isInt [.int i] G Q' = Q' (.bl true) G := fun _ => rfl
  have h2 : ∀ Q' : DK, dBi .isBool [.int i] G Q' = Q' (.bl false) G := fun _ => rfl
  simp [t_is_int, h1, h2]
  exact ⟨G, .refl, hQ⟩
theorem law_is_ints (l : List Dv) (G : Dh) (Q : DK) (h : sp_is_ints l G Q) : l.length = 1 ∧ wpB (t_is_ints sp_is_int) (retD Q) (dstart 2 l) G := by
  obtain ⟨ns, rfl, hl, hQ⟩ := h
  refine ⟨rfl, ?_⟩
  show wpB (t_is_ints sp_is_int) (retD Q) [some (.tup (ns.map Dv.int)), none] G
  have h1 : ∀ (L : List Dv) (Q' : DK), dBi .isTuple [.tup L] G Q' = Q' (.bl true) G := fun _ _ => rfl
  simp [t_is_ints, h1, seqI, dwipe]
  refine lc_map (f := fun _ => .bl true) _ [] trivial (by simp [sz]; omega) (fun d hd => ?_) fun p hp => ?_
  · obtain ⟨z, _, rfl⟩ := List.mem_map.mp hd
    exact ⟨_, rfl, fun R h => by simp; exact ⟨z, rfl, h⟩⟩
  · have e : blsD (ns.map fun _ => Dv.bl true) = some (ns.map fun _ => true) := by
      clear hl hQ
      induction ns with
      | nil => rfl
      | cons n ns ih => show (blsD (ns.map fun _ => Dv.bl true)).map (true :: ·) = _; rw [ih]; rfl
    have h2 : ∀ Q' : DK, dBi .all [.ref p] (updG G p (.lst (ns.map fun _ => Dv.bl true))) Q' = Q' (.bl true) (updG G p (.lst (ns.map fun _ => Dv.bl true))) := fun Q' => by
      have e2 : (ns.all fun _ => true) = true := List.all_eq_true.mpr fun _ _ => rfl
      simp [dBi, lstD, updG_same, e, e2]
    simp [List.map_map, Function.comp_def, h2]
    exact ⟨G, .upd .refl hp, hQ⟩
theorem law_fabric (l : List Dv) (G : Dh) (Q : DK) (h : sp_fabric l G Q) : l.length = 3 ∧ wpB (t_fabric sp_draw) (retD Q) (dstart 5 l) G := by
  obtain ⟨p, q, cs, m, w, rfl, h1, h2, h3, h4, d, hQ⟩ := h
  refine ⟨rfl, ?_⟩
  show wpB (t_fabric sp_draw) (retD Q) [some (.ref p), some (.int m), some (.int w), none, none] G
  have nb : ∀ z : Int, 0 < z → z ≤ 12 → z.natAbs < 2 ^ 8000 := fun z _ _ => Nat.lt_of_lt_of_le (show z.natAbs < 2 ^ 4 by omega) (Nat.pow_le_pow_right (by decide) (by decide))
  simp [t_fabric]
  refine ⟨p, q, cs, m, rfl, h1, nb _ h1 (by omega), d, fun a G1 a1 a2 d1 _ => ?_⟩
  simp
  refine ⟨p, q, cs, m, rfl, h1, nb _ h1 (by omega), d1, fun b G2 b1 b2 d2 _ => ?_⟩
  simp
  refine ⟨p, q, cs, w, rfl, h3, nb _ h3 h4, d2, fun c G3 c1 c2 d3 _ => ?_⟩
  simp
  refine ⟨p, q, cs, 3, rfl, by decide, nb _ (by decide) (by decide), d3, fun e G4 e1 e2 d4 _ => ?_⟩
  simp [sz]
  refine ⟨G4, .refl, ?_⟩
  have := hQ (1 + a).toNat (1 + b).toNat (1 + c).toNat (2 + e) G4 (by omega) (by omega) (by omega) (by omega) (by omega) (by omega) d4
  unfold fabD at this
  rwa [Int.toNat_of_nonneg (by omega), Int.toNat_of_nonneg (by omega), Int.toNat_of_nonneg (by omega)] at this
theorem law_behind (l : List Dv) (G : Dh) (Q : DK) (h : sp_behind l G Q) : l.length = 3 ∧ wpB t_behind (retD Q) (dstart 3 l) G := by
  obtain ⟨x, y, s, rfl, hs, hQ⟩ := h
  refine ⟨rfl, ?_⟩
  show wpB t_behind (retD Q) [some (.int x), some (.int y), some (.int s)] G
  have : s = 0 ∨ s = 1 ∨ s = 2 ∨ s = 3 := by omega
  rcases this with rfl | rfl | rfl | rfl <;> simp [t_behind, sz] <;> exact ⟨G, .refl, by simpa [nbx, nby] using hQ⟩
theorem tiles_mod {X Y : Nat} (h : 1 ≤ X) : ((List.range (X * Y)).map fun n => (n % X, n / X)) = tilesL X Y := by
  induction Y with
  | zero => simp [tilesL]
  | succ Y ih =>
    unfold tilesL at ih ⊢
    rw [flat_succ, ← ih, Nat.mul_succ, List.range_add, List.map_append, List.map_map]
    congr 1
    refine List.map_congr_left fun k hk => ?_
    have hk' : k < X := by simpa using hk
    show ((X * Y + k) % X, (X * Y + k) / X) = (k, Y)
    rw [Nat.mul_add_mod, Nat.mod_eq_of_lt hk', Nat.mul_add_div (by omega), Nat.div_eq_of_lt hk', Nat.add_zero]
theorem law_all_tiles (l : List Dv) (G : Dh) (Q : DK) (h : sp_all_tiles l G Q) : l.length = 1 ∧ wpB t_all_tiles (retD Q) (dstart 2 l) G := by
  obtain ⟨X, Y, T, k, rfl, h1, hX, hY, hQ⟩ := h
  refine ⟨rfl, ?_⟩
  show wpB t_all_tiles (retD Q) [some (fabD X Y T k), none] G
  have hm := Nat.mul_le_mul hX hY
  simp [t_all_tiles, fabD, dwipe]
  refine ⟨mul_lr (by omega), ?_⟩
  rw [show ((X : Int) * (Y : Int)) = ((X * Y : Nat) : Int) by simp]
  refine ⟨small_nat (by omega), ?_⟩
  rw [rng_nat]
  refine lc_map (f := fun d => match d with | .int n => .tup [.int (n % X), .int (n / X)] | _ => .non) _ [] trivial (by simp [sz]; omega) (fun d hd => ?_) fun p hp => ?_
  · obtain ⟨z, _, rfl⟩ := List.mem_map.mp hd
    refine ⟨_, rfl, fun R h => ?_⟩
    simp [sz]
    exact ⟨by omega, div_s (by omega), h⟩
  · refine ⟨_, .refl, ?_⟩
    have e : (((List.range (X * Y)).map fun k : Nat => Dv.int (k : Int)).map fun d => match d with | .int n => Dv.tup [.int (n % X), .int (n / X)] | _ => .non) = (tilesL X Y).map tD := by
      rw [← tiles_mod h1, List.map_map, List.map_map]
      rfl
    rw [List.nil_append, e]
    exact hQ p hp
end K70

/-! K70C: the pads. -/
namespace K70
open PySem L2 BD
section
variable (X Y T : Nat)
def gY (x y : Nat) : List (Nat × Nat × Nat × Nat) := (List.range 4).flatMap fun s => rowL X Y T x y s
def gX (x : Nat) : List (Nat × Nat × Nat × Nat) := (List.range Y).flatMap fun y => gY X Y T x y
def L1 (i : Nat) : List (Nat × Nat × Nat × Nat) := (List.range i).flatMap fun x => gX X Y T x
def L2' (i j : Nat) : List (Nat × Nat × Nat × Nat) := L1 X Y T i ++ (List.range j).flatMap fun y => gY X Y T i y
def L3 (i j s : Nat) : List (Nat × Nat × Nat × Nat) := L2' X Y T i j ++ (List.range s).flatMap fun s => rowL X Y T i j s
end
section
variable {X Y T : Nat}
theorem row_len {x y s : Nat} (h : T ≤ 12) : (rowL X Y T x y s).length ≤ 12 := by
  unfold rowL; split <;> simp <;> omega
theorem rows_len {x y s : Nat} (h : T ≤ 12) : ((List.range s).flatMap fun s => rowL X Y T x y s).length ≤ s * 12 := by
  have := flat_len (g := fun s => rowL X Y T x y s) (c := 12) (List.range s) fun a _ => row_len h
  simpa using this
theorem gY_len {x y : Nat} (h : T ≤ 12) : (gY X Y T x y).length ≤ 48 := rows_len h
theorem gYs_len {x j : Nat} (h : T ≤ 12) : ((List.range j).flatMap fun y => gY X Y T x y).length ≤ j * 48 := by
  have := flat_len (g := fun y => gY X Y T x y) (c := 48) (List.range j) fun a _ => gY_len h
  simpa using this
theorem gX_len {x : Nat} (h : T ≤ 12) (hY : Y ≤ 8) : (gX X Y T x).length ≤ 384 := by
  have := gYs_len (X := X) (Y := Y) (x := x) (j := Y) h
  unfold gX; omega
theorem L1_len {i : Nat} (h : T ≤ 12) (hY : Y ≤ 8) : (L1 X Y T i).length ≤ i * 384 := by
  have := flat_len (g := fun x => gX X Y T x) (c := 384) (List.range i) fun a _ => gX_len h hY
  rw [List.length_range] at this
  exact this
theorem L3_len {i j s : Nat} (h : T ≤ 12) (hY : Y ≤ 8) (hi : i ≤ 8) (hj : j ≤ 8) (hs : s ≤ 4) : (L3 X Y T i j s).length ≤ 5000 := by
  unfold L3 L2'
  have h1 := L1_len (X := X) (i := i) h hY
  have h2 := gYs_len (X := X) (Y := Y) (x := i) (j := j) h
  have h3 := rows_len (X := X) (Y := Y) (x := i) (y := j) (s := s) h
  simp only [List.length_append]
  omega
theorem L3_0 {i j : Nat} : L3 X Y T i j 0 = L2' X Y T i j := by simp [L3]
theorem L3_4 {i j : Nat} : L3 X Y T i j 4 = L2' X Y T i (j + 1) := by
  unfold L3 L2'
  rw [flat_succ (g := fun y => gY X Y T i y) (n := j), ← List.append_assoc]; rfl
theorem L3_s {i j s : Nat} : L3 X Y T i j (s + 1) = L3 X Y T i j s ++ rowL X Y T i j s := by
  unfold L3
  rw [flat_succ, List.append_assoc]
theorem L2_0 {i : Nat} : L2' X Y T i 0 = L1 X Y T i := by simp [L2']
theorem L2_Y {i : Nat} : L2' X Y T i Y = L1 X Y T (i + 1) := by
  unfold L2' L1
  rw [flat_succ]; rfl
theorem L1_X : L1 X Y T X = padsL X Y T := rfl
end
theorem law_m_pads_of (l : List Dv) (G : Dh) (Q : DK) (h : sp_m_pads_of l G Q) : l.length = 1 ∧ wpB (t_m_pads_of sp_m_leads_out) (retD Q) (dstart 6 l) G := by
  obtain ⟨X, Y, T, k, rfl, hX, hY, hT, hQ⟩ := h
  refine ⟨rfl, ?_⟩
  show wpB (t_m_pads_of sp_m_leads_out) (retD Q) [some (fabD X Y T k), none, none, none, none, none] G
  have f1 : ∀ (G : Dh) (Q : DK), dIx (fabD X Y T k) (.int 1) G Q = Q (.int X) G := fun _ _ => by simp [fabD]
  have f2 : ∀ (G : Dh) (Q : DK), dIx (fabD X Y T k) (.int 2) G Q = Q (.int Y) G := fun _ _ => by simp [fabD]
  have f3 : ∀ (G : Dh) (Q : DK), dIx (fabD X Y T k) (.int 3) G Q = Q (.int T) G := fun _ _ => by simp [fabD]
  simp [t_m_pads_of, newL, f1]
  intro p hp
  refine ⟨small_nat (by omega), ?_⟩
  refine for_rng (fun i σ G1 => ∃ a b c, σ = [some (fabD X Y T k), some (.ref p), a, b, c, none] ∧ Sub G G1 ∧ G1 p = some (.lst ((L1 X Y T i).map qD))) X (fun i hi σ G1 K hI hK => ?_) (fun σ G1 hI => ?_) ⟨none, none, none, rfl, .upd .refl hp, by simp [updG_same, L1]⟩
  · obtain ⟨a, b, c, rfl, s1, e1⟩ := hI
    refine ⟨_, rfl, ?_⟩
    simp [f2]
    refine ⟨small_nat (by omega), ?_⟩
    refine for_rng (fun j σ G2 => ∃ b c, σ = [some (fabD X Y T k), some (.ref p), some (.int (i : Int)), b, c, none] ∧ Sub G G2 ∧ G2 p = some (.lst ((L2' X Y T i j).map qD))) Y (fun j hj σ G2 K2 hI2 hK2 => ?_) (fun σ G2 hI2 => ?_) ⟨b, c, rfl, s1, by rw [L2_0]; exact e1⟩
    · obtain ⟨b, c, rfl, s2, e2⟩ := hI2
      refine ⟨_, rfl, ?_⟩
      simp
      refine ⟨small_nat (n := 4) (by decide), ?_⟩
      refine for_rng (n := 4) (fun s σ G3 => ∃ c, σ = [some (fabD X Y T k), some (.ref p), some (.int (i : Int)), some (.int (j : Int)), c, none] ∧ Sub G G3 ∧ G3 p = some (.lst ((L3 X Y T i j s).map qD))) (fun s hs σ G3 K3 hI3 hK3 => ?_) (fun σ G3 hI3 => ?_) ⟨c, rfl, s2, by rw [L3_0]; exact e2⟩
      · obtain ⟨c, rfl, s3, e3⟩ := hI3
        refine ⟨_, rfl, ?_⟩
        simp
        refine ⟨X, Y, T, k, i, j, s, rfl, hs, ?_⟩
        simp
        split
        · rename_i ho
          have hr : rowL X Y T i j s = [] := by unfold rowL out; simp [ho]
          exact hK3 _ _ ⟨_, rfl, s3, by rw [L3_s, hr]; simpa using e3⟩
        · rename_i ho
          have hr : rowL X Y T i j s = (List.range T).map fun k => (i, j, s, k) := by unfold rowL out; simp [ho]
          have hl := L3_len (X := X) (i := i) (j := j) (s := s) hT hY (by omega) (by omega) (by omega)
          refine ⟨_, kd_lst e3, rfl, ?_⟩
          simp [f3]
          refine ⟨small_nat (by omega), ?_⟩
          rw [rng_nat]
          refine lc_map (f := fun d => .tup [.int i, .int j, .int s, d]) _ [] trivial (by simp [sz]; omega) (fun d hd => ?_) fun q hq => ?_
          · exact ⟨_, rfl, fun R h => by simpa [dwipe, sz] using h⟩
          · have hpq : p ≠ q := fun z => by subst z; rw [e3] at hq; cases hq
            have e4 : updG G3 q (.lst ([] ++ ((List.range T).map fun k : Nat => Dv.int (k : Int)).map fun d => Dv.tup [.int i, .int j, .int s, d])) p = some (.lst ((L3 X Y T i j s).map qD)) := by rw [updG_ne hpq]; exact e3
            refine ⟨kd_lst e4, ?_⟩
            rw [mt_ext e4 updG_same]
            refine ⟨by simp [sz]; omega, ?_⟩
            refine hK3 _ _ ⟨_, rfl, .upd (.upd s3 (s3.none hq)) hp, ?_⟩
            rw [updG_same, L3_s, hr]
            simp [List.map_map, Function.comp_def, qD]
      · obtain ⟨c, rfl, s3, e3⟩ := hI3
        exact hK2 _ _ ⟨_, _, rfl, s3, by rw [← L3_4]; exact e3⟩
    · obtain ⟨b, c, rfl, s2, e2⟩ := hI2
      exact hK _ _ ⟨_, _, _, rfl, s2, by rw [← L2_Y]; exact e2⟩
  · obtain ⟨a, b, c, rfl, s1, e1⟩ := hI
    simp [bi_tuplh e1]
    exact ⟨G, s1, by rw [L1_X]; exact hQ⟩
end K70

/-! K70D: the law's own pads, sorted. -/
namespace K70
open PySem L2 BD
theorem flat_app {β γ : Type} (f g : β → List γ) : ∀ m : List β, (m.flatMap fun b => f b ++ g b).Perm (m.flatMap f ++ m.flatMap g)
  | [] => by simp
  | b :: m => by
    simp only [List.flatMap_cons]
    have h := flat_app f g m
    have h2 : (f b ++ g b ++ m.flatMap fun b => f b ++ g b).Perm (f b ++ g b ++ (m.flatMap f ++ m.flatMap g)) := h.append_left _
    refine h2.trans ?_
    rw [List.append_assoc, List.append_assoc]
    refine List.Perm.append_left _ ?_
    rw [← List.append_assoc, ← List.append_assoc]
    exact List.perm_append_comm.append_right _
theorem flat_swap {α β γ : Type} (f : α → β → List γ) (m : List β) : ∀ l : List α, (l.flatMap fun a => m.flatMap fun b => f a b).Perm (m.flatMap fun b => l.flatMap fun a => f a b)
  | [] => by
    have : (m.flatMap fun _ => ([] : List γ)) = [] := by induction m with
      | nil => rfl
      | cons _ _ ih => simpa using ih
    simp
  | a :: l => by
    simp only [List.flatMap_cons]
    exact ((flat_swap f m l).append_left _).trans (flat_app _ _ m).symm
theorem found_perm {X Y T : Nat} : (foundL X Y T).Perm (padsL X Y T) := by
  have e : foundL X Y T = (List.range Y).flatMap fun y => (List.range X).flatMap fun x => gY X Y T x y := by
    unfold foundL tilesL
    rw [List.flatMap_assoc]
    congr 1
    funext y
    rw [List.flatMap_map]
    rfl
  rw [e]
  exact flat_swap (fun y x => gY X Y T x y) _ _
theorem row_mem {X Y T x y s : Nat} {e : Nat × Nat × Nat × Nat} (h : e ∈ rowL X Y T x y s) : e.1 = x ∧ e.2.1 = y ∧ e.2.2.1 = s ∧ e.2.2.2 < T ∧ out X Y x y s = true := by
  unfold rowL at h
  split at h
  · obtain ⟨k, hk, rfl⟩ := List.mem_map.mp h
    exact ⟨rfl, rfl, rfl, by simpa using hk, by assumption⟩
  · simp at h
theorem gY_mem {X Y T x y : Nat} {e : Nat × Nat × Nat × Nat} (h : e ∈ gY X Y T x y) : e.1 = x ∧ e.2.1 = y := by
  obtain ⟨s, _, h⟩ := List.mem_flatMap.mp h
  exact ⟨(row_mem h).1, (row_mem h).2.1⟩
theorem gX_mem {X Y T x : Nat} {e : Nat × Nat × Nat × Nat} (h : e ∈ gX X Y T x) : e.1 = x := by
  obtain ⟨y, _, h⟩ := List.mem_flatMap.mp h
  exact (gY_mem h).1
def LtQ (e f : Nat × Nat × Nat × Nat) : Prop := e.1 < f.1 ∨ (e.1 = f.1 ∧ (e.2.1 < f.2.1 ∨ (e.2.1 = f.2.1 ∧ (e.2.2.1 < f.2.2.1 ∨ (e.2.2.1 = f.2.2.1 ∧ e.2.2.2 < f.2.2.2)))))
theorem pads_pw {X Y T : Nat} : (padsL X Y T).Pairwise LtQ := by
  refine List.pairwise_flatMap.mpr ⟨fun x _ => ?_, List.pairwise_lt_range.imp fun {a b} h e he f hf => .inl ?_⟩
  · refine List.pairwise_flatMap.mpr ⟨fun y _ => ?_, List.pairwise_lt_range.imp fun {a b} h e he f hf => .inr ?_⟩
    · refine List.pairwise_flatMap.mpr ⟨fun s _ => ?_, List.pairwise_lt_range.imp fun {a b} h e he f hf => .inr ?_⟩
      · unfold rowL
        split
        · exact List.pairwise_map.mpr (List.pairwise_lt_range.imp fun {a b} h => .inr ⟨rfl, .inr ⟨rfl, .inr ⟨rfl, h⟩⟩⟩)
        · exact .nil
      · have a1 := row_mem he; have a2 := row_mem hf
        exact ⟨by omega, .inr ⟨by omega, .inl (by omega)⟩⟩
    · have a1 := gY_mem he; have a2 := gY_mem hf
      exact ⟨by omega, .inl (by omega)⟩
  · have a1 := gX_mem he; have a2 := gX_mem hf
    omega
def qI (e : Nat × Nat × Nat × Nat) : List Int := [(e.1 : Int), e.2.1, e.2.2.1, e.2.2.2]
theorem qD_I (e : Nat × Nat × Nat × Nat) : qD e = .tup ((qI e).map Dv.int) := rfl
theorem lt_q {e f : Nat × Nat × Nat × Nat} (h : LtQ e f) : ltD (qD f) (qD e) = false := by
  rw [qD_I, qD_I, ltD_ltL]
  unfold LtQ at h
  simp only [qI, ltL]
  repeat' split
  all_goals first | rfl | (apply decide_eq_false; omega) | omega
theorem ltL_anti : ∀ {a b : List Int}, ltL a b = false → ltL b a = false → a = b
  | [], [], _, _ => rfl
  | [], _ :: _, h, _ => by simp [ltL] at h
  | _ :: _, [], _, h => by simp [ltL] at h
  | x :: r, y :: t, h1, h2 => by
    unfold ltL at h1 h2
    by_cases e : x = y
    · rw [if_pos e] at h1; rw [if_pos e.symm] at h2
      rw [e, ltL_anti h1 h2]
    · rw [if_neg e] at h1; rw [if_neg (Ne.symm e)] at h2
      have := of_decide_eq_false h1; have := of_decide_eq_false h2
      omega
/-- tuples of ints stand in one order only -/
theorem sorted_one {l m : List (List Int)} {n : List Dv} (hp : n.Perm (l.map fun ns => .tup (ns.map Dv.int))) (hm : m.Perm l) (hs : n.Pairwise fun x y => ltD y x = false) (hw : (m.map fun ns => Dv.tup (ns.map Dv.int)).Pairwise fun x y => ltD y x = false) : n = m.map fun ns => .tup (ns.map Dv.int) := by
  have hmem : ∀ a ∈ n, ∃ ns : List Int, a = .tup (ns.map Dv.int) := fun a ha => by
    obtain ⟨ns, _, e⟩ := List.mem_map.mp (hp.mem_iff.mp ha)
    exact ⟨ns, e.symm⟩
  refine List.Perm.eq_of_pairwise (le := fun x y => ltD y x = false) (fun a b ha hb h1 h2 => ?_) hs hw (hp.trans (hm.map _).symm)
  obtain ⟨ns, rfl⟩ := hmem a ha
  obtain ⟨ms, _, rfl⟩ := List.mem_map.mp hb
  rw [ltD_ltL] at h1 h2
  rw [ltL_anti h2 h1]
theorem pads_sorted {X Y T : Nat} {n : List Dv} (hp : n.Perm ((foundL X Y T).map qD)) (hs : n.Pairwise fun x y => ltD y x = false) : n = (padsL X Y T).map qD := by
  have e1 : ∀ l : List (Nat × Nat × Nat × Nat), l.map qD = (l.map qI).map fun ns => Dv.tup (ns.map Dv.int) := fun l => by rw [List.map_map]; rfl
  rw [e1] at hp ⊢
  refine sorted_one hp (found_perm.symm.map qI) hs ?_
  rw [← e1]
  exact List.pairwise_map.mpr (pads_pw.imp fun h => lt_q h)
theorem sort_ok {l : List (Nat × Nat × Nat × Nat)} : sortOk (l.map qD) = true := by
  unfold sortOk
  rw [Bool.or_eq_true]
  left
  rw [List.all_eq_true]
  intro d hd
  obtain ⟨e, _, rfl⟩ := List.mem_map.mp hd
  rfl
theorem bi_sort {G : Dh} {Q : DK} {a : Addr} {l : List Dv} (h : G a = some (.lst l)) : dBi .sorted [.ref a] G Q = (sortOk l = true ∧ ∀ m : List Dv, m.Perm l → m.Pairwise (fun x y => ltD y x = false) → newL m G Q) := by
  simp only [dBi, lstD, h] <;> rfl
theorem tiles_len {X Y : Nat} (h : 1 ≤ X) : (tilesL X Y).length = X * Y := by
  rw [← tiles_mod h]; simp
theorem pads_len {X Y T : Nat} (hX : X ≤ 8) (hY : Y ≤ 8) (hT : T ≤ 12) : (padsL X Y T).length ≤ 5000 := by
  have := L1_len (X := X) (i := X) hT hY
  rw [L1_X] at this
  omega
theorem law_all_pads (l : List Dv) (G : Dh) (Q : DK) (h : sp_all_pads l G Q) : l.length = 1 ∧ wpB (t_all_pads sp_all_tiles sp_behind) (retD Q) (dstart 7 l) G := by
  obtain ⟨X, Y, T, k, rfl, h1, hX, hY, hT, hQ⟩ := h
  refine ⟨rfl, ?_⟩
  show wpB (t_all_pads sp_all_tiles sp_behind) (retD Q) [some (fabD X Y T k), none, none, none, none, none, none] G
  have f1 : ∀ (G : Dh) (Q : DK), dIx (fabD X Y T k) (.int 1) G Q = Q (.int X) G := fun _ _ => by simp [fabD]
  have f2 : ∀ (G : Dh) (Q : DK), dIx (fabD X Y T k) (.int 2) G Q = Q (.int Y) G := fun _ _ => by simp [fabD]
  have f3 : ∀ (G : Dh) (Q : DK), dIx (fabD X Y T k) (.int 3) G Q = Q (.int T) G := fun _ _ => by simp [fabD]
  have tl : (tilesL X Y).length ≤ 64 := by rw [tiles_len h1]; exact Nat.mul_le_mul hX hY
  simp [t_all_pads, newL]
  intro p hp
  refine ⟨X, Y, T, k, rfl, h1, hX, hY, fun r hr => ?_⟩
  have hpr : p ≠ r := fun z => by subst z; rw [updG_same] at hr; cases hr
  have hr0 : G r = none := by rw [updG_ne (Ne.symm hpr)] at hr; exact hr
  simp [seqI, updG_same]
  refine for_inv (fun i σ G1 => ∃ a b c d, σ = [some (fabD X Y T k), some (.ref p), a, b, c, d, none] ∧ Sub G G1 ∧ G1 r = some (.lst ((tilesL X Y).map tD)) ∧ G1 p = some (.lst ((((tilesL X Y).take i).flatMap fun t => gY X Y T t.1 t.2).map qD))) _ (fun i hi σ G1 K hI hK => ?_) (fun σ G1 hI => ?_) ⟨none, none, none, none, rfl, .upd (.upd .refl hp) hr0, updG_same, by rw [updG_ne hpr, updG_same]; simp⟩
  · obtain ⟨a, b, c, d, rfl, s1, e0, e1⟩ := hI
    have hi' : i < (tilesL X Y).length := by simpa using hi
    refine ⟨e0, _, rfl, ?_⟩
    rw [List.getElem_map]
    generalize ht : (tilesL X Y)[i] = t
    obtain ⟨x, y⟩ := t
    have bl : (((tilesL X Y).take i).flatMap fun t => gY X Y T t.1 t.2).length ≤ 3072 := by
      have := flat_len (g := fun t : Nat × Nat => gY X Y T t.1 t.2) (c := 48) ((tilesL X Y).take i) fun a _ => gY_len hT
      rw [List.length_take] at this
      have : min i (tilesL X Y).length ≤ 64 := by omega
      have : min i (tilesL X Y).length * 48 ≤ 64 * 48 := Nat.mul_le_mul_right _ this
      omega
    simp
    refine ⟨small_nat (n := 4) (by decide), ?_⟩
    refine for_rng (n := 4) (fun s σ G3 => ∃ b c d, σ = [some (fabD X Y T k), some (.ref p), some (tD (x, y)), b, c, d, none] ∧ Sub G G3 ∧ G3 r = some (.lst ((tilesL X Y).map tD)) ∧ G3 p = some (.lst ((((tilesL X Y).take i).flatMap fun t => gY X Y T t.1 t.2).map qD ++ ((List.range s).flatMap fun s => rowL X Y T x y s).map qD))) (fun s hs σ G3 K3 hI3 hK3 => ?_) (fun σ G3 hI3 => ?_) ⟨b, c, d, rfl, s1, e0, by simpa using e1⟩
    · obtain ⟨b, c, d, rfl, s3, e3, e4⟩ := hI3
      refine ⟨_, rfl, ?_⟩
      have t0 : ∀ (G : Dh) (Q : DK), dIx (tD (x, y)) (.int 0) G Q = Q (.int x) G := fun _ _ => by simp [tD]
      have t1 : ∀ (G : Dh) (Q : DK), dIx (tD (x, y)) (.int 1) G Q = Q (.int y) G := fun _ _ => by simp [tD]
      have rl := rows_len (X := X) (Y := Y) (x := x) (y := y) (s := s) hT
      simp [t0, t1]
      refine ⟨x, y, s, rfl, hs, ?_⟩
      simp [asgT, asgTs, f1, f2]
      have yes : out X Y x y s = true → BD.wpS (.expr (.mth .extend (.var 1) (.cons (.lc [("_law_track", 6)] (.nm 6) (.rng1 (.ix (.var 0) (.cint 3))) .no (.tup (.cons (.ix (.var 2) (.cint 0)) (.cons (.ix (.var 2) (.cint 1)) (.cons (.var 3) (.cons (.var 6) .nil)))))) .nil))) ⟨K3, fun d G => ∃ Gf, Sub Gf G ∧ Q d Gf, K3, K3⟩ [some (fabD X Y T k), some (.ref p), some (tD (x, y)), some (.int s), some (.int (nbx x s)), some (.int (nby y s)), none] G3 := by
        intro ho
        have hr : rowL X Y T x y s = (List.range T).map fun k => (x, y, s, k) := by unfold rowL; simp [ho]
        simp
        refine ⟨_, kd_lst e4, rfl, ?_⟩
        simp [f3]
        refine ⟨small_nat (by omega), ?_⟩
        rw [rng_nat]
        refine lc_map (f := fun d => .tup [.int x, .int y, .int s, d]) _ [] trivial (by simp [sz]; omega) (fun d hd => ?_) fun q hq => ?_
        · exact ⟨_, rfl, fun R h => by simpa [dwipe, sz, t0, t1] using h⟩
        · have hpq : p ≠ q := fun z => by subst z; rw [e4] at hq; cases hq
          have hrq : r ≠ q := fun z => by subst z; rw [e3] at hq; cases hq
          have e5 := (updG_ne (G := G3) (o := .lst ([] ++ ((List.range T).map fun k : Nat => Dv.int (k : Int)).map fun d => Dv.tup [.int x, .int y, .int s, d])) hpq).trans e4
          refine ⟨kd_lst e5, ?_⟩
          rw [mt_ext e5 updG_same]
          refine ⟨by simp only [List.length_append, List.length_map, List.length_range, List.nil_append, sz]; omega, ?_⟩
          refine hK3 _ _ ⟨_, _, _, rfl, .upd (.upd s3 (s3.none hq)) hp, ?_, ?_⟩
          · rw [updG_ne (Ne.symm hpr), updG_ne hrq]; exact e3
          · rw [updG_same, flat_succ, hr]
            simp [List.map_map, Function.comp_def, qD]
      have no : out X Y x y s = false → K3 [some (fabD X Y T k), some (.ref p), some (tD (x, y)), some (.int s), some (.int (nbx x s)), some (.int (nby y s)), none] G3 := by
        intro ho
        have hr : rowL X Y T x y s = [] := by unfold rowL; simp [ho]
        exact hK3 _ _ ⟨_, _, _, rfl, s3, e3, by rw [flat_succ, hr]; simpa using e4⟩
      unfold out inF at yes no
      by_cases a : 0 ≤ nbx x s <;> by_cases b : nbx x s < X <;> by_cases c : 0 ≤ nby y s <;> by_cases d : nby y s < Y <;> simp [a, b, c, d, f1, f2, f3, t0, t1] at yes no ⊢ <;> first | exact yes | exact no
    · obtain ⟨b, c, d, rfl, s3, e3, e4⟩ := hI3
      refine hK _ _ ⟨_, _, _, _, rfl, s3, e3, ?_⟩
      rw [List.take_succ_eq_append_getElem hi', List.flatMap_append, ht, e4, List.map_append]
      simp [gY]
  · obtain ⟨a, b, c, d, rfl, s1, e0, e1⟩ := hI
    refine ⟨e0, ?_⟩
    rw [List.length_map, List.take_length] at e1
    simp [bi_sort e1]
    refine ⟨sort_ok, fun m hm hs => ?_⟩
    have em := pads_sorted (X := X) (Y := Y) (T := T) hm hs
    subst em
    refine ⟨by have := pads_len hX hY hT; simp [sz]; omega, fun q hq => ⟨_, .both (.upd s1 (s1.none hq)) updG_same, hQ q (s1.none hq)⟩⟩
end K70

/-! K70E: the lists fit. -/
namespace K70
open PySem L2 BD
theorem law_is_told (l : List Dv) (G : Dh) (Q : DK) (h : sp_is_told l G Q) : l.length = 1 ∧ wpB (t_is_told sp_is_ints) (retD Q) (dstart 1 l) G := by
  obtain ⟨z, ns, rfl, hl, hQ⟩ := h
  refine ⟨rfl, ?_⟩
  show wpB (t_is_told sp_is_ints) (retD Q) [some (.tup [.str z, .tup (ns.map Dv.int)])] G
  have h1 : ∀ (L : List Dv) (Q' : DK), dBi .isTuple [.tup L] G Q' = Q' (.bl true) G := fun _ _ => rfl
  have h2 : ∀ (L : Str) (Q' : DK), dBi .isStr [.str L] G Q' = Q' (.bl true) G := fun _ _ => rfl
  simp [t_is_told, h1, h2]
  refine ⟨ns, rfl, by omega, ?_⟩
  simp [hl]
  exact ⟨G, .refl, hQ⟩
theorem flat_t {X Y : Nat} : Flat ((tilesL X Y).map tD) := flat_map (fun t : Nat × Nat => [(t.1 : Int), t.2]) _
theorem flat_q {l : List (Nat × Nat × Nat × Nat)} : Flat (l.map qD) := flat_map qI _
theorem law_lists_fit (l : List Dv) (G : Dh) (Q : DK) (h : sp_lists_fit l G Q) : l.length = 1 ∧ wpB (t_lists_fit sp_m_tiles_of sp_is_ints sp_all_tiles sp_m_pads_of sp_all_pads) (retD Q) (dstart 4 l) G := by
  obtain ⟨X, Y, T, k, rfl, h1, hX, h2, hY, h3, hT, hQ⟩ := h
  refine ⟨rfl, ?_⟩
  show wpB (t_lists_fit sp_m_tiles_of sp_is_ints sp_all_tiles sp_m_pads_of sp_all_pads) (retD Q) [some (fabD X Y T k), none, none, none] G
  have i1 : ∀ (L : List Dv) (G : Dh) (Q' : DK), dBi .isTuple [.tup L] G Q' = Q' (.bl true) G := fun _ _ _ => rfl
  have tl : (tilesL X Y).length ≤ 64 := by rw [tiles_len h1]; exact Nat.mul_le_mul hX hY
  have pl := pads_len (X := X) (Y := Y) (T := T) hX hY hT
  simp [t_lists_fit, i1]
  refine ⟨X, Y, T, k, rfl, hX, hY, ?_⟩
  simp [i1, seqI]
  refine lc_map (f := fun _ => .bl true) _ [] trivial (by simp [sz]; omega) (fun d hd => ?_) fun p hp => ?_
  · obtain ⟨t, _, rfl⟩ := List.mem_map.mp hd
    exact ⟨_, rfl, fun R h => by simp [dwipe]; exact ⟨[(t.1 : Int), t.2], rfl, by simp, h⟩⟩
  · rw [List.nil_append, all_true]
    simp [newL, sz]
    refine ⟨by omega, fun q hq => ?_⟩
    refine ⟨X, Y, T, k, rfl, h1, hX, hY, fun r hr => ?_⟩
    generalize hG1 : updG G p _ = G1 at *
    have s1 : Sub G G1 := by subst hG1; exact .upd .refl hp
    have hqr : q ≠ r := fun z => by subst z; rw [updG_same] at hr; cases hr
    rw [ne_lst ((updG_ne hqr).trans updG_same) updG_same flat_t flat_t]
    simp
    refine ⟨X, Y, T, k, rfl, hX, hY, hT, ?_⟩
    have s2 : Sub G (updG (updG G1 q (.lst ((tilesL X Y).map tD))) r (.lst ((tilesL X Y).map tD))) := .upd (.upd s1 (s1.none hq)) ((Sub.upd s1 (s1.none hq)).none hr)
    generalize updG (updG G1 q (.lst ((tilesL X Y).map tD))) r (.lst ((tilesL X Y).map tD)) = G2 at *
    simp [i1, seqI]
    refine lc_map (f := fun _ => .bl true) _ [] trivial (by simp [sz]; omega) (fun d hd => ?_) fun p2 hp2 => ?_
    · obtain ⟨e, _, rfl⟩ := List.mem_map.mp hd
      exact ⟨_, rfl, fun R h => by simp [dwipe]; exact ⟨qI e, rfl, by simp [qI], h⟩⟩
    · rw [List.nil_append, all_true]
      simp [newL, sz]
      refine ⟨by omega, fun q2 hq2 => ?_⟩
      refine ⟨X, Y, T, k, rfl, h1, hX, hY, hT, fun r2 hr2 => ?_⟩
      have hqr2 : q2 ≠ r2 := fun z => by subst z; rw [updG_same] at hr2; cases hr2
      show dCmp CmpOp.Eq (Dv.ref q2) (Dv.ref r2) _ _
      rw [eq_lst ((updG_ne hqr2).trans updG_same) updG_same flat_q flat_q]
      simp
      exact ⟨G, .upd (.upd (.upd s2 (s2.none hp2)) ((Sub.upd s2 (s2.none hp2)).none hq2)) ((Sub.upd (Sub.upd s2 (s2.none hp2)) ((Sub.upd s2 (s2.none hp2)).none hq2)).none hr2), hQ⟩
end K70

/-! K70F: the sides, counted. -/
namespace K70
open PySem L2 BD
abbrev Qd := Nat × Nat × Nat × Nat
def eN (T : Nat) (t : Nat × Nat) (n : Nat) : Qd := (t.1, t.2, n / T, n % T)
def allL (X Y T : Nat) : List Qd := (tilesL X Y).flatMap fun t => (List.range (4 * T)).map (eN T t)
def isOut (X Y : Nat) (e : Qd) : Bool := out X Y e.1 e.2.1 e.2.2.1
def wD (e : Qd) : Dv := .tup [.int (nbx e.1 e.2.2.1), .int (nby e.2.1 e.2.2.1), .int (((e.2.2.1 : Int) + 2) % 4), .int e.2.2.2]
def wI (e : Qd) : List Int := [nbx e.1 e.2.2.1, nby e.2.1 e.2.2.1, ((e.2.2.1 : Int) + 2) % 4, e.2.2.2]
section
variable {X Y T : Nat}
theorem blk (hT : 1 ≤ T) (t : Nat × Nat) : (List.range (4 * T)).map (eN T t) = (List.range 4).flatMap fun s => (List.range T).map fun k => (t.1, t.2, s, k) := by
  have h := congrArg (List.map fun p : Nat × Nat => ((t.1, t.2, p.2, p.1) : Qd)) (tiles_mod (X := T) (Y := 4) hT)
  rw [List.map_map] at h
  rw [Nat.mul_comm 4 T]
  refine h.trans ?_
  unfold tilesL
  rw [List.map_flatMap]
  congr 1
  funext s
  rw [List.map_map]; rfl
theorem row_filter {x y s : Nat} : ((List.range T).map fun k => ((x, y, s, k) : Qd)).filter (isOut X Y) = rowL X Y T x y s := by
  unfold rowL
  rw [List.filter_map]
  have : (isOut X Y ∘ fun k => ((x, y, s, k) : Qd)) = fun _ => out X Y x y s := rfl
  rw [this]
  cases out X Y x y s
  · simp
  · rw [if_pos rfl, List.filter_eq_self.mpr fun _ _ => rfl]
theorem all_filter (hT : 1 ≤ T) : (allL X Y T).filter (isOut X Y) = foundL X Y T := by
  unfold allL foundL
  rw [List.filter_flatMap]
  congr 1
  funext t
  rw [blk hT, List.filter_flatMap]
  congr 1
  funext s
  exact row_filter
theorem all_len (h1 : 1 ≤ X) : (allL X Y T).length = X * Y * (4 * T) := by
  unfold allL
  have : ∀ l : List (Nat × Nat), (l.flatMap fun t => (List.range (4 * T)).map (eN T t)).length = l.length * (4 * T) := by
    intro l
    induction l with
    | nil => simp
    | cons a r ih => rw [List.flatMap_cons, List.length_append, ih, List.length_cons, Nat.add_mul]; simp; omega
  rw [this, tiles_len h1]
theorem tiles_nodup : (tilesL X Y).Nodup := by
  refine List.pairwise_flatMap.mpr ⟨fun y _ => ?_, List.pairwise_lt_range.imp fun {a b} h e he f hf => ?_⟩
  · exact List.pairwise_map.mpr (List.pairwise_lt_range.imp fun {a b} h e => by cases e; omega)
  · obtain ⟨_, _, rfl⟩ := List.mem_map.mp he
    obtain ⟨_, _, rfl⟩ := List.mem_map.mp hf
    intro e; cases e; omega
theorem eN_inj {t : Nat × Nat} {n m : Nat} (h : eN T t n = eN T t m) : n = m := by
  simp only [eN, Prod.mk.injEq, true_and] at h
  rw [← Nat.div_add_mod n T, ← Nat.div_add_mod m T, h.1, h.2]
theorem all_nodup : (allL X Y T).Nodup := by
  refine List.pairwise_flatMap.mpr ⟨fun t _ => ?_, tiles_nodup.imp fun {a b} h e he f hf => ?_⟩
  · exact List.pairwise_map.mpr (List.pairwise_lt_range.imp fun {a b} h e => by have := eN_inj e; omega)
  · obtain ⟨_, _, rfl⟩ := List.mem_map.mp he
    obtain ⟨_, _, rfl⟩ := List.mem_map.mp hf
    intro e
    simp only [eN, Prod.mk.injEq] at e
    exact h (Prod.ext e.1 e.2.1)
theorem tiles_mem {t : Nat × Nat} (h : t ∈ tilesL X Y) : t.1 < X ∧ t.2 < Y := by
  obtain ⟨y, hy, h⟩ := List.mem_flatMap.mp h
  obtain ⟨x, hx, rfl⟩ := List.mem_map.mp h
  exact ⟨by simpa using hx, by simpa using hy⟩
theorem all_mem (hT : 1 ≤ T) {e : Qd} (h : e ∈ allL X Y T) : e.1 < X ∧ e.2.1 < Y ∧ e.2.2.1 < 4 ∧ e.2.2.2 < T := by
  obtain ⟨t, ht, h⟩ := List.mem_flatMap.mp h
  obtain ⟨n, hn, rfl⟩ := List.mem_map.mp h
  have hn' : n < 4 * T := by simpa using hn
  exact ⟨(tiles_mem ht).1, (tiles_mem ht).2, Nat.div_lt_of_lt_mul (by rw [Nat.mul_comm]; exact hn'), Nat.mod_lt _ (by omega)⟩
theorem qD_inj {e f : Qd} (h : qD e = qD f) : e = f := by
  simp only [qD, Dv.tup.injEq, List.cons.injEq, Dv.int.injEq, and_true] at h
  obtain ⟨a, b, c, d⟩ := h
  obtain ⟨e1, e2, e3, e4⟩ := e
  obtain ⟨f1, f2, f3, f4⟩ := f
  simp only at a b c d
  simp only [Prod.mk.injEq]
  omega
theorem wD_inj {e f : Qd} (he : e.2.2.1 < 4) (hf : f.2.2.1 < 4) (h : wD e = wD f) : e = f := by
  simp only [wD, Dv.tup.injEq, List.cons.injEq, Dv.int.injEq, and_true] at h
  obtain ⟨a, b, c, d⟩ := h
  obtain ⟨e1, e2, e3, e4⟩ := e
  obtain ⟨f1, f2, f3, f4⟩ := f
  simp only at a b c d he hf
  have hs : e3 = f3 := by omega
  subst hs
  have : e3 = 0 ∨ e3 = 1 ∨ e3 = 2 ∨ e3 = 3 := by omega
  rcases this with rfl | rfl | rfl | rfl <;> simp [nbx, nby] at a b <;> (refine Prod.ext ?_ (Prod.ext ?_ (Prod.ext rfl ?_)) <;> simp <;> omega)
/-- the entries ahead of the j-th of the i-th tile -/
def P (X Y T i j : Nat) (t : Nat × Nat) : List Qd := ((tilesL X Y).take i).flatMap (fun t => (List.range (4 * T)).map (eN T t)) ++ (List.range j).map (eN T t)
theorem P_next {i j : Nat} {t : Nat × Nat} : P X Y T i (j + 1) t = P X Y T i j t ++ [eN T t j] := by
  unfold P
  rw [List.range_succ, List.map_append, List.append_assoc]; rfl
theorem P_end {i : Nat} (hi : i < (tilesL X Y).length) {t' : Nat × Nat} : P X Y T i (4 * T) (tilesL X Y)[i] = P X Y T (i + 1) 0 t' := by
  unfold P
  rw [List.take_succ_eq_append_getElem hi, List.flatMap_append]
  simp
theorem P_all {t : Nat × Nat} : P X Y T (tilesL X Y).length 0 t = allL X Y T := by
  unfold P allL
  simp
theorem P_pre {i j : Nat} (hi : i < (tilesL X Y).length) (hj : j < 4 * T) : ∃ R, allL X Y T = P X Y T i j (tilesL X Y)[i] ++ eN T (tilesL X Y)[i] j :: R := by
  have e1 : tilesL X Y = (tilesL X Y).take i ++ (tilesL X Y)[i] :: (tilesL X Y).drop (i + 1) := by
    rw [← List.drop_eq_getElem_cons hi, List.take_append_drop]
  have e2 : List.range (4 * T) = List.range j ++ j :: (List.range (4 * T)).drop (j + 1) := by
    have h : j < (List.range (4 * T)).length := by simpa using hj
    have h2 := List.drop_eq_getElem_cons h
    rw [List.getElem_range] at h2
    rw [← h2]
    conv => lhs; rw [← List.take_append_drop j (List.range (4 * T))]
    rw [List.take_range, Nat.min_eq_left (by omega)]
  refine ⟨((List.range (4 * T)).drop (j + 1)).map (eN T (tilesL X Y)[i]) ++ ((tilesL X Y).drop (i + 1)).flatMap fun t => (List.range (4 * T)).map (eN T t), ?_⟩
  have e3 : ∀ t, (List.range (4 * T)).map (eN T t) = (List.range j).map (eN T t) ++ eN T t j :: ((List.range (4 * T)).drop (j + 1)).map (eN T t) := fun t => by
    conv => lhs; rw [e2]
    rw [List.map_append, List.map_cons]
  unfold allL P
  conv => lhs; rw [e1]
  rw [List.flatMap_append, List.flatMap_cons, e3 (tilesL X Y)[i]]
  simp [List.append_assoc]
theorem fresh_q {i j : Nat} (hi : i < (tilesL X Y).length) (hj : j < 4 * T) : qD (eN T (tilesL X Y)[i] j) ∉ ((P X Y T i j (tilesL X Y)[i]).filter (isOut X Y)).map qD := by
  obtain ⟨R, e⟩ := P_pre (T := T) hi hj
  have h := all_nodup (X := X) (Y := Y) (T := T)
  rw [e] at h
  intro hm
  obtain ⟨f, hf, e2⟩ := List.mem_map.mp hm
  have := qD_inj e2
  subst this
  exact (List.nodup_append.mp h).2.2 _ ((List.mem_filter.mp hf).1) _ List.mem_cons_self rfl
theorem fresh_w (hT : 1 ≤ T) {i j : Nat} (hi : i < (tilesL X Y).length) (hj : j < 4 * T) : wD (eN T (tilesL X Y)[i] j) ∉ ((P X Y T i j (tilesL X Y)[i]).filter fun e => !isOut X Y e).map wD := by
  obtain ⟨R, e⟩ := P_pre (T := T) hi hj
  have h := all_nodup (X := X) (Y := Y) (T := T)
  have hm := fun f => all_mem (X := X) (Y := Y) hT (e := f)
  rw [e] at h hm
  intro hm'
  obtain ⟨f, hf, e2⟩ := List.mem_map.mp hm'
  have hf' := (List.mem_filter.mp hf).1
  have := wD_inj (hm f (List.mem_append_left _ hf')).2.2.1 (hm _ (List.mem_append_right _ List.mem_cons_self)).2.2.1 e2
  subst this
  exact (List.nodup_append.mp h).2.2 _ hf' _ List.mem_cons_self rfl
theorem e_mem {i j : Nat} (hi : i < (tilesL X Y).length) (hj : j < 4 * T) : eN T (tilesL X Y)[i] j ∈ allL X Y T := by
  obtain ⟨R, e⟩ := P_pre (T := T) hi hj
  rw [e]; exact List.mem_append_right _ List.mem_cons_self
theorem pad_mem (hT : 1 ≤ T) {e : Qd} (h : e ∈ allL X Y T) (ho : isOut X Y e = true) : qD e ∈ (padsL X Y T).map qD := by
  refine List.mem_map.mpr ⟨e, found_perm.mem_iff.mp ?_, rfl⟩
  rw [← all_filter hT]
  exact List.mem_filter.mpr ⟨h, ho⟩
theorem out_len (hT : 1 ≤ T) : ((allL X Y T).filter (isOut X Y)).length = (padsL X Y T).length := by rw [all_filter hT]; exact found_perm.length_eq
theorem sum_len (h1 : 1 ≤ X) (hT : 1 ≤ T) : ((allL X Y T).filter fun e => !isOut X Y e).length + (padsL X Y T).length = X * Y * (4 * T) := by
  rw [← out_len hT, ← all_len h1]
  have : ∀ l : List Qd, (l.filter fun e => !isOut X Y e).length + (l.filter (isOut X Y)).length = l.length := by
    intro l
    induction l with
    | nil => rfl
    | cons a r ih =>
      by_cases h : isOut X Y a = true
      · rw [List.filter_cons_of_neg (by simp [h]), List.filter_cons_of_pos h, List.length_cons, List.length_cons]; omega
      · rw [List.filter_cons_of_pos (by simp [h]), List.filter_cons_of_neg h, List.length_cons, List.length_cons]; omega
  exact this _
end
end K70

/-! K70G: the sides fit; the law. -/
namespace K70
open PySem L2 BD
theorem back_x {x s : Nat} (h : s < 4) : nbx (nbx x s) ((s + 2) % 4) = x := by
  have : s = 0 ∨ s = 1 ∨ s = 2 ∨ s = 3 := by omega
  rcases this with rfl | rfl | rfl | rfl <;> simp [nbx] <;> omega
theorem back_y {y s : Nat} (h : s < 4) : nby (nby y s) ((s + 2) % 4) = y := by
  have : s = 0 ∨ s = 1 ∨ s = 2 ∨ s = 3 := by omega
  rcases this with rfl | rfl | rfl | rfl <;> simp [nby] <;> omega
theorem mask {s : Nat} (h : s < 4) : Builtin.bitAnd (((s : Int) + 2) % 4 - s) 3 = 2 := by
  have : s = 0 ∨ s = 1 ∨ s = 2 ∨ s = 3 := by omega
  rcases this with rfl | rfl | rfl | rfl <;> decide
theorem keys_q {l : List Qd} : ∀ k ∈ l.map qD, ∃ ns : List Int, k = .tup (ns.map Dv.int) := fun k hk => by
  obtain ⟨e, _, rfl⟩ := List.mem_map.mp hk; exact ⟨qI e, rfl⟩
theorem keys_w {l : List Qd} : ∀ k ∈ l.map wD, ∃ ns : List Int, k = .tup (ns.map Dv.int) := fun k hk => by
  obtain ⟨e, _, rfl⟩ := List.mem_map.mp hk; exact ⟨wI e, rfl⟩
theorem ent_pad {X Y x y s k : Nat} (h : isOut X Y (x, y, s, k) = true) : entD X Y x y s k = .tup [.str "pad", .tup [.int x, .int y, .int s, .int k]] := by
  have h' : inF X Y (nbx x s) (nby y s) = false := by simpa [isOut, out] using h
  unfold entD; rw [if_neg (by simp [h'])]
theorem ent_wire {X Y x y s k : Nat} (h : isOut X Y (x, y, s, k) = false) : entD X Y x y s k = .tup [.str "wire", .tup [.int (nbx x s), .int (nby y s), .int (((s : Int) + 2) % 4), .int k]] := by
  have h' : inF X Y (nbx x s) (nby y s) = true := by simpa [isOut, out] using h
  unfold entD; rw [if_pos h']
/-- the dicts as they stand behind the entries l -/
structure St (X Y T : Nat) (fab : Dv) (ap aw am ar : Addr) (G0 G : Dh) (l : List Qd) : Prop where
  s : Sub G0 G
  p : G ap = some (.lst ((padsL X Y T).map qD))
  r : G ar = some (.lst ((tilesL X Y).map tD))
  w : ∃ rw', G aw = some (.dic rw' (trueD ((l.filter fun e => !isOut X Y e).map wD)))
  m : ∃ rm, G am = some (.dic rm (trueD ((l.filter (isOut X Y)).map qD)))
theorem law_sides_fit (l : List Dv) (G : Dh) (Q : DK) (h : sp_sides_fit l G Q) : l.length = 1 ∧ wpB (t_sides_fit sp_all_pads sp_all_tiles sp_m_entering sp_is_told sp_behind) (retD Q) (dstart 16 l) G := by
  obtain ⟨X, Y, T, k0, rfl, h1, hX, h2, hY, h3, hT, hQ⟩ := h
  refine ⟨rfl, ?_⟩
  show wpB (t_sides_fit sp_all_pads sp_all_tiles sp_m_entering sp_is_told sp_behind) (retD Q) [some (fabD X Y T k0), none, none, none, none, none, none, none, none, none, none, none, none, none, none, none] G
  have f1 : ∀ (G : Dh) (Q : DK), dIx (fabD X Y T k0) (.int 1) G Q = Q (.int X) G := fun _ _ => by simp [fabD]
  have f2 : ∀ (G : Dh) (Q : DK), dIx (fabD X Y T k0) (.int 2) G Q = Q (.int Y) G := fun _ _ => by simp [fabD]
  have f3 : ∀ (G : Dh) (Q : DK), dIx (fabD X Y T k0) (.int 3) G Q = Q (.int T) G := fun _ _ => by simp [fabD]
  have tl : (tilesL X Y).length ≤ 64 := by rw [tiles_len h1]; exact Nat.mul_le_mul hX hY
  have al : (allL X Y T).length ≤ 64 * 48 := by rw [all_len h1]; exact Nat.mul_le_mul (Nat.mul_le_mul hX hY) (by omega)
  have pl := pads_len (X := X) (Y := Y) (T := T) hX hY hT
  simp [t_sides_fit]
  refine ⟨X, Y, T, k0, rfl, h1, hX, hY, hT, fun ap hap aw rwa rwb haw am rma rmb ham => ?_⟩
  refine ⟨X, Y, T, k0, rfl, h1, hX, hY, fun ar har => ?_⟩
  have n1 : ap ≠ aw := fun z => by subst z; rw [updG_same] at haw; cases haw
  have n3 : aw ≠ am := fun z => by subst z; rw [updG_same] at ham; cases ham
  have n2 : ap ≠ am := fun z => by subst z; rw [updG_ne n1, updG_same] at ham; cases ham
  have n6 : am ≠ ar := fun z => by subst z; rw [updG_same] at har; cases har
  have n5 : aw ≠ ar := fun z => by subst z; rw [updG_ne n3, updG_same] at har; cases har
  have n4 : ap ≠ ar := fun z => by subst z; rw [updG_ne n2, updG_ne n1, updG_same] at har; cases har
  have g2 : G aw = none := by rw [updG_ne (Ne.symm n1)] at haw; exact haw
  have g3 : G am = none := by rw [updG_ne (Ne.symm n3), updG_ne (Ne.symm n2)] at ham; exact ham
  have g4 : G ar = none := by rw [updG_ne (Ne.symm n6), updG_ne (Ne.symm n5), updG_ne (Ne.symm n4)] at har; exact har
  simp [seqI, updG_same]
  have st0 : St X Y T (fabD X Y T k0) ap aw am ar G (updG (updG (updG (updG G ap (.lst ((padsL X Y T).map qD))) aw (.dic (rwa, rwb) [])) am (.dic (rma, rmb) [])) ar (.lst ((tilesL X Y).map tD))) [] :=
    ⟨.upd (.upd (.upd (.upd .refl hap) g2) g3) g4, by rw [updG_ne n4, updG_ne n2, updG_ne n1, updG_same], updG_same, ⟨(rwa, rwb), by rw [updG_ne n5, updG_ne n3, updG_same]; rfl⟩, (rma, rmb), by rw [updG_ne n6, updG_same]; rfl⟩
  refine for_inv (fun i σ G1 => ∃ a4 a6 a7 a8 a10 a11 a12 a13 a14 a15, σ = [some (fabD X Y T k0), some (.ref ap), some (.ref aw), some (.ref am), a4, none, a6, a7, a8, none, a10, a11, a12, a13, a14, a15] ∧ St X Y T (fabD X Y T k0) ap aw am ar G G1 (P X Y T i 0 (0, 0))) _ (fun i hi σ G1 K hI hK => ?_) (fun σ G1 hI => ?_) ⟨_, _, _, _, _, _, _, _, _, _, rfl, st0⟩
  · obtain ⟨a4, a6, a7, a8, a10, a11, a12, a13, a14, a15, rfl, s1⟩ := hI
    have hi' : i < (tilesL X Y).length := by simpa using hi
    refine ⟨s1.r, _, rfl, ?_⟩
    rw [List.getElem_map]
    simp [f3]
    refine ⟨mul_lr (by omega), ?_⟩
    rw [show ((4 : Int) * (T : Int)) = ((4 * T : Nat) : Int) by simp]
    refine ⟨small_nat (by omega), ?_⟩
    have hP0 : P X Y T i 0 (0, 0) = P X Y T i 0 (tilesL X Y)[i] := by unfold P; simp
    rw [hP0] at s1
    refine for_rng (fun j σ G2 => ∃ a6 a7 a8 a10 a11 a12 a13 a14 a15, σ = [some (fabD X Y T k0), some (.ref ap), some (.ref aw), some (.ref am), some (tD (tilesL X Y)[i]), none, a6, a7, a8, none, a10, a11, a12, a13, a14, a15] ∧ St X Y T (fabD X Y T k0) ap aw am ar G G2 (P X Y T i j (tilesL X Y)[i])) (4 * T) (fun j hj σ G2 K2 hI2 hK2 => ?_) (fun σ G2 hI2 => ?_) ⟨_, _, _, _, _, _, _, _, _, rfl, s1⟩
    · obtain ⟨a6, a7, a8, a10, a11, a12, a13, a14, a15, rfl, s2⟩ := hI2
      have fq := fresh_q (X := X) (Y := Y) (T := T) hi' hj
      have fw := fresh_w (X := X) (Y := Y) (T := T) h3 hi' hj
      have em := e_mem (X := X) (Y := Y) (T := T) hi' hj
      have pm := pad_mem (X := X) (Y := Y) (T := T) h3 em
      have hm := all_mem h3 em
      have hpl : (P X Y T i j (tilesL X Y)[i]).length ≤ 64 * 48 := by
        obtain ⟨R, e⟩ := P_pre (T := T) hi' hj
        rw [e, List.length_append] at al
        omega
      rw [P_next] at hK2
      generalize P X Y T i j (tilesL X Y)[i] = L at *
      generalize (tilesL X Y)[i] = t at *
      obtain ⟨x, y⟩ := t
      have hs : j / T < 4 := hm.2.2.1
      have c1 : ((j : Int) / (T : Int)) = ((j / T : Nat) : Int) := by simp
      have c2 : ((j : Int) % (T : Int)) = ((j % T : Nat) : Int) := by simp
      have eq4 : eN T (x, y) j = (x, y, j / T, j % T) := rfl
      rw [eq4] at fq fw em pm hm hK2
      clear eq4
      generalize j / T = s at *
      generalize j % T = k at *
      have t0 : ∀ (G : Dh) (Q : DK), dIx (tD (x, y)) (.int 0) G Q = Q (.int x) G := fun _ _ => by simp [tD]
      have t1 : ∀ (G : Dh) (Q : DK), dIx (tD (x, y)) (.int 1) G Q = Q (.int y) G := fun _ _ => by simp [tD]
      refine ⟨_, rfl, ?_⟩
      simp [f3, c1, c2]
      refine ⟨div_s (by omega), by omega, ?_⟩
      simp [t0, t1]
      refine ⟨X, Y, T, k0, x, y, s, k, rfl, hs, ?_⟩
      obtain ⟨r1, hw⟩ := s2.w
      obtain ⟨r2, hmm⟩ := s2.m
      have hlm : ((L.filter (isOut X Y)).map qD).length ≤ L.length := by rw [List.length_map]; exact List.length_filter_le ..
      have hlw : ((L.filter fun e => !isOut X Y e).map wD).length ≤ L.length := by rw [List.length_map]; exact List.length_filter_le ..
      have hwp : (("wire" : Str) = "pad") = False := by simp; decide
      cases ho : isOut X Y (x, y, s, k) with
      | true =>
        rw [ent_pad ho]
        have q1 : ∀ (G : Dh) (Q : DK), dCmp .NotEq (.tup [.int x, .int y, .int s, .int k]) (.tup [.int x, .int y, .int s, .int k]) G Q = Q (.bl false) G := fun G Q => ne_self (pure_ints (qI (x, y, s, k))) (by have := dep_ints (qI (x, y, s, k)); exact Nat.le_trans this (by decide))
        have q2 : ∀ (Q : DK), dCmp .NotIn (.tup [.int x, .int y, .int s, .int k]) (.ref ap) G2 Q = Q (.bl false) G2 := fun Q => by
          refine (notin_lst s2.p flat_q (pure_ints (qI (x, y, s, k))) (by have := dep_ints (qI (x, y, s, k)); exact Nat.le_trans this (by decide))).trans ?_
          show Q (.bl (!decide (qD (x, y, s, k) ∈ (padsL X Y T).map qD))) G2 = _
          rw [decide_eq_true (pm ho)]; rfl
        have q3 : ∀ (Q : DK), dCmp .In (.tup [.int x, .int y, .int s, .int k]) (.ref am) G2 Q = Q (.bl false) G2 := fun Q => by
          refine (in_dic hmm (fit_true (m := []) (l := qI (x, y, s, k)) keys_q)).trans ?_
          show Q (.bl (flat1 _ (qD (x, y, s, k)))) G2 = _
          rw [flat1_true, decide_eq_false fq]
        simp
        refine ⟨"pad", qI (x, y, s, k), rfl, rfl, ?_⟩
        simp [t0, t1, sz, q1, q2, q3]
        refine set_dic hmm (fit_true (m := []) (l := qI (x, y, s, k)) keys_q) (by simp only [trueD, List.length_map, sz] at hlm ⊢; omega) fun r' => ?_
        refine hK2 _ _ ⟨_, _, _, _, _, _, _, _, _, rfl, ⟨s2.s.upd g3, by rw [updG_ne n2]; exact s2.p, by rw [updG_ne (Ne.symm n6)]; exact s2.r, ⟨r1, ?_⟩, ⟨r', ?_⟩⟩⟩
        · rw [updG_ne n3, hw, List.filter_append]
          simp [ho]
        · have ef : ((L ++ [(x, y, s, k)]).filter (isOut X Y)).map qD = (L.filter (isOut X Y)).map qD ++ [qD (x, y, s, k)] := by rw [List.filter_append]; simp [ho]
          rw [updG_same, ef]; exact congrArg (fun z => some (Do.dic r' z)) (put_true fq)
      | false =>
        rw [ent_wire ho]
        have q3 : ∀ (Q : DK), dCmp .In (.tup [.int (nbx x s), .int (nby y s), .int (((s : Int) + 2) % 4), .int k]) (.ref aw) G2 Q = Q (.bl false) G2 := fun Q => by
          refine (in_dic hw (fit_true (m := []) (l := wI (x, y, s, k)) keys_w)).trans ?_
          show Q (.bl (flat1 _ (wD (x, y, s, k)))) G2 = _
          rw [flat1_true, decide_eq_false fw]
        have q4 : ∀ (a b : Int) (G : Dh) (Q : DK), dCmp .NotEq (.tup [.int a, .int b]) (.tup [.int a, .int b]) G Q = Q (.bl false) G := fun a b G Q => ne_self (pure_ints [a, b]) (by have := dep_ints [a, b]; exact Nat.le_trans this (by decide))
        have c3 : (((s : Int) + 2) % 4) = (((s + 2) % 4 : Nat) : Int) := by simp
        simp
        refine ⟨"wire", wI (x, y, s, k), rfl, rfl, ?_⟩
        simp [t0, t1, sz, hwp, asgT, asgTs, q3, mask hs]
        refine ⟨x, y, s, rfl, hs, ?_⟩
        simp [q4]
        refine ⟨nbx x s, nby y s, (s + 2) % 4, by rw [c3], Nat.mod_lt _ (by decide), ?_⟩
        rw [back_x hs, back_y hs]
        show dCmp .NotEq (.tup [.int x, .int y]) (.tup [.int x, .int y]) _ _
        rw [q4]
        simp
        refine set_dic hw (fit_true (m := []) (l := wI (x, y, s, k)) keys_w) (by simp only [trueD, List.length_map, sz] at hlw ⊢; omega) fun r' => ?_
        refine hK2 _ _ ⟨_, _, _, _, _, _, _, _, _, rfl, ⟨s2.s.upd g2, by rw [updG_ne n1]; exact s2.p, by rw [updG_ne (Ne.symm n5)]; exact s2.r, ⟨r', ?_⟩, ⟨r2, ?_⟩⟩⟩
        · have ef : ((L ++ [(x, y, s, k)]).filter fun e => !isOut X Y e).map wD = (L.filter fun e => !isOut X Y e).map wD ++ [wD (x, y, s, k)] := by rw [List.filter_append]; simp [ho]
          rw [updG_same, ef]; exact congrArg (fun z => some (Do.dic r' z)) (put_true fw)
        · rw [updG_ne (Ne.symm n3), hmm, List.filter_append]
          simp [ho]
    · obtain ⟨a6, a7, a8, a10, a11, a12, a13, a14, a15, rfl, s2⟩ := hI2
      exact hK _ _ ⟨_, _, _, _, _, _, _, _, _, _, rfl, by rw [← P_end hi']; exact s2⟩
  · obtain ⟨a4, a6, a7, a8, a10, a11, a12, a13, a14, a15, rfl, s1⟩ := hI
    refine ⟨s1.r, ?_⟩
    rw [List.length_map, P_all] at s1
    obtain ⟨r1, hw⟩ := s1.w
    obtain ⟨r2, hmm⟩ := s1.m
    have e1 := out_len (X := X) (Y := Y) h3
    have e2 := sum_len (X := X) (Y := Y) (T := T) h1 h3
    have lw : ((allL X Y T).filter fun e => !isOut X Y e).length ≤ 64 * 48 := Nat.le_trans (List.length_filter_le ..) al
    have l1 : ∀ (Q : DK), dBi .len [.ref am] G1 Q = Q (.int ((padsL X Y T).length : Nat)) G1 := fun Q => by
      rw [bi_lend hmm]; simp [trueD, e1]
    have l2 : ∀ (Q : DK), dBi .len [.ref ap] G1 Q = Q (.int ((padsL X Y T).length : Nat)) G1 := fun Q => by
      rw [bi_lenl s1.p]; simp
    have kt : ∀ ks : List Dv, (trueD ks).map (fun x => x.1) = ks := fun ks => by unfold trueD; rw [List.map_map]; simp [Function.comp_def]
    simp [l1, l2, seqI, hw]
    refine ⟨fun a b hab => ?_, ?_⟩
    · obtain ⟨k, hk, e⟩ := List.mem_map.mp hab
      cases e
      obtain ⟨ns, rfl⟩ := keys_w _ hk
      rfl
    rw [kt]
    have lW : (((allL X Y T).filter fun e => !isOut X Y e).map wD).length = ((allL X Y T).filter fun e => !isOut X Y e).length := List.length_map ..
    refine lc_pass (cd := fun _ _ _ => True) (f := id) _ [] hw (by rw [lW]; simp only [List.length_nil, sz]; omega) (fun d hd => ?_) fun p hp => ?_
    · obtain ⟨e, he, rfl⟩ := List.mem_map.mp hd
      have ho := (List.mem_filter.mp he).2
      have h' : inF X Y (nbx e.1 e.2.2.1) (nby e.2.1 e.2.2.1) = true := by simpa [isOut, out] using ho
      obtain ⟨i1, i2, i3, i4⟩ := of_decide_eq_true h'
      refine ⟨_, rfl, fun R hR => ?_, fun R hR => ?_⟩
      · simp [dwipe, wD, f1, f2, i1, i2, i3, i4]
        exact hR
      · simpa [dwipe] using hR
    · have p1 : aw ≠ p := fun z => by subst z; rw [hw] at hp; cases hp
      have p2 : ap ≠ p := fun z => by subst z; rw [s1.p] at hp; cases hp
      rw [List.nil_append, List.map_id]
      generalize hW : ((allL X Y T).filter fun e => !isOut X Y e).map wD = W at *
      have e3 : (trueD W).length = W.length := by simp [trueD]
      have b1 : ∀ (Q : DK), dBi .len [.ref aw] (updG G1 p (.lst W)) Q = Q (.int (W.length : Nat)) (updG G1 p (.lst W)) := fun Q => by
        rw [bi_lend ((updG_ne p1).trans hw), e3]
      have b2 : ∀ (Q : DK), dBi .len [.ref ap] (updG G1 p (.lst W)) Q = Q (.int ((padsL X Y T).length : Nat)) (updG G1 p (.lst W)) := fun Q => by
        rw [bi_lenl ((updG_ne p2).trans s1.p), List.length_map]
      have b3 : ∀ (Q : DK), dBi .len [.ref p] (updG G1 p (.lst W)) Q = Q (.int (W.length : Nat)) (updG G1 p (.lst W)) := fun Q => bi_lenl updG_same
      have mX : IntMulOk 4 (X : Int) := mul_lr (by omega)
      have mY : IntMulOk (4 * (X : Int)) (Y : Int) := mul_lr (by omega)
      have mT : IntMulOk (4 * (X : Int) * (Y : Int)) (T : Int) := mul_lr (by omega)
      have e4 : ((W.length : Int) + (padsL X Y T).length = 4 * (X : Int) * Y * T) = True := by
        rw [← lW] at e2
        have e5 : ((W.length + (padsL X Y T).length : Nat) : Int) = ((X * Y * (4 * T) : Nat) : Int) := by rw [e2]
        rw [Int.natCast_add] at e5
        rw [e5]
        simp only [Int.natCast_mul]
        simp [Int.mul_assoc, Int.mul_comm, Int.mul_left_comm]
      simp [b1, b2, b3, f1, f2, f3, mX, mY, mT, e4]
      exact ⟨G, .upd s1.s (s1.s.none hp), hQ⟩
theorem law_m_law (l : List Dv) (G : Dh) (Q : DK) (h : spLaw 63 l G Q) : l.length = 1 ∧ wpB (t_m_law sp_begin sp_rare sp_fabric sp_lists_fit sp_sides_fit) (retD Q) (dstart 5 l) G := by
  obtain ⟨a, ns, rfl, ha, hn, hb, hQ⟩ := h
  refine ⟨rfl, ?_⟩
  show wpB (t_m_law sp_begin sp_rare sp_fabric sp_lists_fit sp_sides_fit) (retD Q) [some (.ref a), none, none, none, none] G
  simp [t_m_law]
  refine ⟨a, ns, rfl, ha, by omega, hb, fun p q G1 d1 => ?_⟩
  simp
  refine ⟨p, q, ns, 9, rfl, by decide, Nat.lt_of_lt_of_le (show (9 : Nat) < 2 ^ 4 by decide) (Nat.pow_le_pow_right (by decide) (by decide)), d1, fun b G2 d2 _ => ?_⟩
  have fin : ∀ (X Y T X' Y' T' : Nat) (k k' : Int) (G3 : Dh), 1 ≤ X → X ≤ 8 → 1 ≤ Y → Y ≤ 8 → 1 ≤ T → T ≤ 12 → 1 ≤ X' → X' ≤ 8 → 1 ≤ Y' → Y' ≤ 8 → 1 ≤ T' → T' ≤ 12 →
      sp_lists_fit [fabD X Y T k] G3 fun d G => d = .bl true ∧ G = G3 := fun X Y T _ _ _ k _ G3 a b c d e f _ _ _ _ _ _ => ⟨X, Y, T, k, rfl, a, b, c, d, e, f, rfl, rfl⟩
  have rest : ∀ (X Y T X' Y' T' : Nat) (k k' : Int) (G3 : Dh) (R : DK), 1 ≤ X → X ≤ 8 → 1 ≤ Y → Y ≤ 8 → 1 ≤ T → T ≤ 12 → R (.bl true) G3 → sp_lists_fit [fabD X Y T k] G3 R := fun X Y T _ _ _ k _ G3 R a b c d e f r => ⟨X, Y, T, k, rfl, a, b, c, d, e, f, r⟩
  cases b <;> simp
  all_goals
    refine ⟨p, q, ns, _, _, rfl, by decide, by decide, by decide, by decide, d2, fun X Y T k G3 a1 a2 a3 a4 a5 a6 d3 => ?_⟩
    simp
    refine ⟨p, q, ns, _, _, rfl, by decide, by decide, by decide, by decide, d3, fun X' Y' T' k' G4 b1 b2 b3 b4 b5 b6 d4 => ?_⟩
    simp
    refine ⟨X, Y, T, k, rfl, a1, a2, a3, a4, a5, a6, ?_⟩
    simp
    refine ⟨X', Y', T', k', rfl, b1, b2, b3, b4, b5, b6, ?_⟩
    simp
    refine ⟨X, Y, T, k, rfl, a1, a2, a3, a4, a5, a6, ?_⟩
    simp
    refine ⟨X', Y', T', k', rfl, b1, b2, b3, b4, b5, b6, ?_⟩
    simp
    exact ⟨X, Y, T, k, rfl, a1, a2, a3, a4, a5, a6, _, .refl, hQ _⟩
end K70

/-! K70H: the head. -/
namespace K70
open PySem PySem.Spec PyProof.Rows L2 BD
/-! ### the head -/
def dd_m_tiles_of : He.DefD := ⟨("tiles_of", none), "tiles_of", "tiles_of", defArgs (top 3), defBody (top 3), defScope (top 3), [], []⟩
def dd_m_has_tile : He.DefD := ⟨("has_tile", none), "has_tile", "has_tile", defArgs (top 4), defBody (top 4), defScope (top 4), [], []⟩
def dd_m_beside : He.DefD := ⟨("beside", none), "beside", "beside", defArgs (top 5), defBody (top 5), defScope (top 5), [], []⟩
def dd_m_leads_out : He.DefD := ⟨("leads_out", none), "leads_out", "leads_out", defArgs (top 6), defBody (top 6), defScope (top 6), [], []⟩
def dd_m_pads_of : He.DefD := ⟨("pads_of", none), "pads_of", "pads_of", defArgs (top 7), defBody (top 7), defScope (top 7), [], []⟩
def dd_m_entering : He.DefD := ⟨("entering", none), "entering", "entering", defArgs (top 8), defBody (top 8), defScope (top 8), [], []⟩
def dd_begin : He.DefD := ⟨("_law_begin", none), "_law_begin", "_law_begin", defArgs (top 10), defBody (top 10), defScope (top 10), [], []⟩
def dd_draw : He.DefD := ⟨("_law_draw", none), "_law_draw", "_law_draw", defArgs (top 11), defBody (top 11), defScope (top 11), [], []⟩
def dd_rare : He.DefD := ⟨("_law_rare", none), "_law_rare", "_law_rare", defArgs (top 12), defBody (top 12), defScope (top 12), [], []⟩
def dd_is_int : He.DefD := ⟨("_law_is_int", none), "_law_is_int", "_law_is_int", defArgs (top 13), defBody (top 13), defScope (top 13), [], []⟩
def dd_is_ints : He.DefD := ⟨("_law_is_ints", none), "_law_is_ints", "_law_is_ints", defArgs (top 14), defBody (top 14), defScope (top 14), [], []⟩
def dd_fabric : He.DefD := ⟨("_law_fabric", none), "_law_fabric", "_law_fabric", defArgs (top 15), defBody (top 15), defScope (top 15), [], []⟩
def dd_all_tiles : He.DefD := ⟨("_law_all_tiles", none), "_law_all_tiles", "_law_all_tiles", defArgs (top 16), defBody (top 16), defScope (top 16), [], []⟩
def dd_behind : He.DefD := ⟨("_law_behind", none), "_law_behind", "_law_behind", defArgs (top 17), defBody (top 17), defScope (top 17), [], []⟩
def dd_all_pads : He.DefD := ⟨("_law_all_pads", none), "_law_all_pads", "_law_all_pads", defArgs (top 18), defBody (top 18), defScope (top 18), [], []⟩
def dd_is_told : He.DefD := ⟨("_law_is_told", none), "_law_is_told", "_law_is_told", defArgs (top 19), defBody (top 19), defScope (top 19), [], []⟩
def dd_sides_fit : He.DefD := ⟨("_law_sides_fit", none), "_law_sides_fit", "_law_sides_fit", defArgs (top 20), defBody (top 20), defScope (top 20), [], []⟩
def dd_lists_fit : He.DefD := ⟨("_law_lists_fit", none), "_law_lists_fit", "_law_lists_fit", defArgs (top 21), defBody (top 21), defScope (top 21), [], []⟩
def dd_m_law : He.DefD := ⟨("law", none), "law", "law", defArgs (top 22), defBody (top 22), defScope (top 22), [], []⟩
def fn : List He.DefD := [dd_m_tiles_of, dd_m_has_tile, dd_m_beside, dd_m_leads_out, dd_m_pads_of, dd_m_entering, dd_begin, dd_draw, dd_rare, dd_is_int, dd_is_ints, dd_fabric, dd_all_tiles, dd_behind, dd_all_pads, dd_is_told, dd_sides_fit, dd_lists_fit, dd_m_law]
def fa : List He.Fa := [.glo "tiles_of", .glo "has_tile", .glo "beside", .glo "leads_out", .glo "pads_of", .glo "entering", .glo "_law_begin", .glo "_law_draw", .glo "_law_rare", .glo "_law_is_int", .glo "_law_is_ints", .glo "_law_fabric", .glo "_law_all_tiles", .glo "_law_behind", .glo "_law_all_pads", .glo "_law_is_told", .glo "_law_sides_fit", .glo "_law_lists_fit", .glo "law", .free "tuple", .free "range", .free "int", .free "len", .free "abs", .free "isinstance", .free "bool", .free "all", .free "sorted", .free "str", .free "list"]
def tb : List (Str × Dv) := [("COLUMN_STEPS", c_COLUMN_STEPS), ("ROW_STEPS", c_ROW_STEPS)]
abbrev R : PySem.W.OpenRow := PySem.W.OpenLaw.row PySem.Challenge.rw_beatfabric_k70_fabric_sides
abbrev hk : PySem.W.Hook := hookB 4 fa tb fn
def ob (s : PySem.W.SharedT) : He.AlD := obsBG 4 fa tb fn (HandSHeadRun.getT s)
theorem ob_eq (s : PySem.W.SharedT) : ob s = hk.obs s.abs := obsBG_eq (HandSHeadRun.getT_eq s)
theorem run (w : World) : HandSHeadRun.RunEq R (PySem.W.view R.prog [22]) hk ob 1980 ["COLUMN_STEPS", "ROW_STEPS", "tiles_of", "has_tile", "beside", "leads_out", "pads_of", "entering", "_law_begin", "_law_draw", "_law_rare", "_law_is_int", "_law_is_ints", "_law_fabric", "_law_all_tiles", "_law_behind", "_law_all_pads", "_law_is_told", "_law_sides_fit", "_law_lists_fit"] w := by
  intro os
  kernel_rfl
theorem facts {P : Program} {w : World} {K : PySem.W.Frag} {h : Heap} {mg : Str → Option Value} {f : Addr} (X : K.In h) (G : h.Ns mainGlobals mg) (hfa : mg ("law" : Str) = some (.ref f)) (c : SaysB fa tb fn K) :
    ∃ fd : FuncData, (∀ (s : Shared) (v : Value), BindsTo s fd ⟨[v], []⟩ [("_law_script", v)]) ∧ ∀ base : Heap, K.In base → base.Ns mainGlobals mg → FnOk P w K mg base CX0 5 f fd ["_law_script"] (fun vs H Q _ => liftC ⟨K, P, w⟩ (spLaw 63) vs H Q) := by
  have nb_tuple : mg "tuple" = none := He.free_ok X G (c.fact 19 (f := .free "tuple") rfl)
  have nb_range : mg "range" = none := He.free_ok X G (c.fact 20 (f := .free "range") rfl)
  have nb_int : mg "int" = none := He.free_ok X G (c.fact 21 (f := .free "int") rfl)
  have nb_len : mg "len" = none := He.free_ok X G (c.fact 22 (f := .free "len") rfl)
  have nb_abs : mg "abs" = none := He.free_ok X G (c.fact 23 (f := .free "abs") rfl)
  have nb_isinstance : mg "isinstance" = none := He.free_ok X G (c.fact 24 (f := .free "isinstance") rfl)
  have nb_bool : mg "bool" = none := He.free_ok X G (c.fact 25 (f := .free "bool") rfl)
  have nb_all : mg "all" = none := He.free_ok X G (c.fact 26 (f := .free "all") rfl)
  have nb_sorted : mg "sorted" = none := He.free_ok X G (c.fact 27 (f := .free "sorted") rfl)
  have nb_str : mg "str" = none := He.free_ok X G (c.fact 28 (f := .free "str") rfl)
  have nb_list : mg "list" = none := He.free_ok X G (c.fact 29 (f := .free "list") rfl)
  have D_m_tiles_of : DefOk K mg dd_m_tiles_of := by
    obtain ⟨fd, F⟩ := c.def_ 0 (d := dd_m_tiles_of) rfl
    exact ⟨_, fd, F, He.glo_ok X G (c.fact 0 (f := .glo "tiles_of") rfl)⟩
  have D_m_has_tile : DefOk K mg dd_m_has_tile := by
    obtain ⟨fd, F⟩ := c.def_ 1 (d := dd_m_has_tile) rfl
    exact ⟨_, fd, F, He.glo_ok X G (c.fact 1 (f := .glo "has_tile") rfl)⟩
  have D_m_beside : DefOk K mg dd_m_beside := by
    obtain ⟨fd, F⟩ := c.def_ 2 (d := dd_m_beside) rfl
    exact ⟨_, fd, F, He.glo_ok X G (c.fact 2 (f := .glo "beside") rfl)⟩
  have D_m_leads_out : DefOk K mg dd_m_leads_out := by
    obtain ⟨fd, F⟩ := c.def_ 3 (d := dd_m_leads_out) rfl
    exact ⟨_, fd, F, He.glo_ok X G (c.fact 3 (f := .glo "leads_out") rfl)⟩
  have D_m_pads_of : DefOk K mg dd_m_pads_of := by
    obtain ⟨fd, F⟩ := c.def_ 4 (d := dd_m_pads_of) rfl
    exact ⟨_, fd, F, He.glo_ok X G (c.fact 4 (f := .glo "pads_of") rfl)⟩
  have D_m_entering : DefOk K mg dd_m_entering := by
    obtain ⟨fd, F⟩ := c.def_ 5 (d := dd_m_entering) rfl
    exact ⟨_, fd, F, He.glo_ok X G (c.fact 5 (f := .glo "entering") rfl)⟩
  have D_begin : DefOk K mg dd_begin := by
    obtain ⟨fd, F⟩ := c.def_ 6 (d := dd_begin) rfl
    exact ⟨_, fd, F, He.glo_ok X G (c.fact 6 (f := .glo "_law_begin") rfl)⟩
  have D_draw : DefOk K mg dd_draw := by
    obtain ⟨fd, F⟩ := c.def_ 7 (d := dd_draw) rfl
    exact ⟨_, fd, F, He.glo_ok X G (c.fact 7 (f := .glo "_law_draw") rfl)⟩
  have D_rare : DefOk K mg dd_rare := by
    obtain ⟨fd, F⟩ := c.def_ 8 (d := dd_rare) rfl
    exact ⟨_, fd, F, He.glo_ok X G (c.fact 8 (f := .glo "_law_rare") rfl)⟩
  have D_is_int : DefOk K mg dd_is_int := by
    obtain ⟨fd, F⟩ := c.def_ 9 (d := dd_is_int) rfl
    exact ⟨_, fd, F, He.glo_ok X G (c.fact 9 (f := .glo "_law_is_int") rfl)⟩
  have D_is_ints : DefOk K mg dd_is_ints := by
    obtain ⟨fd, F⟩ := c.def_ 10 (d := dd_is_ints) rfl
    exact ⟨_, fd, F, He.glo_ok X G (c.fact 10 (f := .glo "_law_is_ints") rfl)⟩
  have D_fabric : DefOk K mg dd_fabric := by
    obtain ⟨fd, F⟩ := c.def_ 11 (d := dd_fabric) rfl
    exact ⟨_, fd, F, He.glo_ok X G (c.fact 11 (f := .glo "_law_fabric") rfl)⟩
  have D_all_tiles : DefOk K mg dd_all_tiles := by
    obtain ⟨fd, F⟩ := c.def_ 12 (d := dd_all_tiles) rfl
    exact ⟨_, fd, F, He.glo_ok X G (c.fact 12 (f := .glo "_law_all_tiles") rfl)⟩
  have D_behind : DefOk K mg dd_behind := by
    obtain ⟨fd, F⟩ := c.def_ 13 (d := dd_behind) rfl
    exact ⟨_, fd, F, He.glo_ok X G (c.fact 13 (f := .glo "_law_behind") rfl)⟩
  have D_all_pads : DefOk K mg dd_all_pads := by
    obtain ⟨fd, F⟩ := c.def_ 14 (d := dd_all_pads) rfl
    exact ⟨_, fd, F, He.glo_ok X G (c.fact 14 (f := .glo "_law_all_pads") rfl)⟩
  have D_is_told : DefOk K mg dd_is_told := by
    obtain ⟨fd, F⟩ := c.def_ 15 (d := dd_is_told) rfl
    exact ⟨_, fd, F, He.glo_ok X G (c.fact 15 (f := .glo "_law_is_told") rfl)⟩
  have D_sides_fit : DefOk K mg dd_sides_fit := by
    obtain ⟨fd, F⟩ := c.def_ 16 (d := dd_sides_fit) rfl
    exact ⟨_, fd, F, He.glo_ok X G (c.fact 16 (f := .glo "_law_sides_fit") rfl)⟩
  have D_lists_fit : DefOk K mg dd_lists_fit := by
    obtain ⟨fd, F⟩ := c.def_ 17 (d := dd_lists_fit) rfl
    exact ⟨_, fd, F, He.glo_ok X G (c.fact 17 (f := .glo "_law_lists_fit") rfl)⟩
  obtain ⟨fd, F⟩ := c.def_ 18 (d := dd_m_law) rfl
  have e := hfa.symm.trans (He.glo_ok X G (c.fact 18 (f := .glo "law") rfl))
  cases e
  have b := FunD.bindsA (ps := ["_law_script"]) F fun _ _ _ _ _ _ us hl => match us, hl with | [_], _ => rfl
  refine ⟨fd, fun s v => b s [v] rfl, fun base _ _ => ?_⟩
  have gl_COLUMN_STEPS : ∀ j, NdG P w K mg base j (.gl "COLUMN_STEPS" c_COLUMN_STEPS) := fun j => tab_ok X G (c.tab 0 (f := ("COLUMN_STEPS", c_COLUMN_STEPS)) rfl)
  have gl_ROW_STEPS : ∀ j, NdG P w K mg base j (.gl "ROW_STEPS" c_ROW_STEPS) := fun j => tab_ok X G (c.tab 1 (f := ("ROW_STEPS", c_ROW_STEPS)) rfl)
  have h_m_tiles_of : FnG P w K mg base 1 "tiles_of" sp_m_tiles_of := ok_m_tiles_of D_m_tiles_of nb_tuple nb_range law_m_tiles_of
  have h_m_has_tile : FnG P w K mg base 1 "has_tile" sp_m_has_tile := ok_m_has_tile D_m_has_tile  law_m_has_tile
  have h_m_beside : FnG P w K mg base 1 "beside" sp_m_beside := ok_m_beside D_m_beside (gl_COLUMN_STEPS _) (gl_ROW_STEPS _) law_m_beside
  have h_m_leads_out : FnG P w K mg base 2 "leads_out" sp_m_leads_out := ok_m_leads_out D_m_leads_out (h_m_beside.mono (by decide)) (h_m_has_tile.mono (by decide)) law_m_leads_out
  have h_m_pads_of : FnG P w K mg base 3 "pads_of" sp_m_pads_of := ok_m_pads_of D_m_pads_of (h_m_leads_out.mono (by decide)) nb_range nb_tuple law_m_pads_of
  have h_m_entering : FnG P w K mg base 2 "entering" sp_m_entering := ok_m_entering D_m_entering (h_m_beside.mono (by decide)) (h_m_has_tile.mono (by decide)) law_m_entering
  have h_begin : FnG P w K mg base 1 "_law_begin" sp_begin := ok_begin D_begin nb_int law_begin
  have h_draw : FnG P w K mg base 1 "_law_draw" sp_draw := ok_draw D_draw nb_int nb_len nb_abs law_draw
  have h_rare : FnG P w K mg base 2 "_law_rare" sp_rare := ok_rare D_rare (h_draw.mono (by decide)) law_rare
  have h_is_int : FnG P w K mg base 1 "_law_is_int" sp_is_int := ok_is_int D_is_int nb_isinstance nb_int nb_bool law_is_int
  have h_is_ints : FnG P w K mg base 2 "_law_is_ints" sp_is_ints := ok_is_ints D_is_ints (h_is_int.mono (by decide)) nb_isinstance nb_tuple nb_all law_is_ints
  have h_fabric : FnG P w K mg base 2 "_law_fabric" sp_fabric := ok_fabric D_fabric (h_draw.mono (by decide)) law_fabric
  have h_all_tiles : FnG P w K mg base 1 "_law_all_tiles" sp_all_tiles := ok_all_tiles D_all_tiles nb_range nb_int law_all_tiles
  have h_behind : FnG P w K mg base 1 "_law_behind" sp_behind := ok_behind D_behind  law_behind
  have h_all_pads : FnG P w K mg base 2 "_law_all_pads" sp_all_pads := ok_all_pads D_all_pads (h_all_tiles.mono (by decide)) (h_behind.mono (by decide)) nb_range nb_sorted law_all_pads
  have h_is_told : FnG P w K mg base 3 "_law_is_told" sp_is_told := ok_is_told D_is_told (h_is_ints.mono (by decide)) nb_isinstance nb_tuple nb_len nb_str law_is_told
  have h_sides_fit : FnG P w K mg base 4 "_law_sides_fit" sp_sides_fit := ok_sides_fit D_sides_fit (h_all_pads.mono (by decide)) (h_all_tiles.mono (by decide)) (h_m_entering.mono (by decide)) (h_is_told.mono (by decide)) (h_behind.mono (by decide)) nb_range nb_int nb_len law_sides_fit
  have h_lists_fit : FnG P w K mg base 4 "_law_lists_fit" sp_lists_fit := ok_lists_fit D_lists_fit (h_m_tiles_of.mono (by decide)) (h_is_ints.mono (by decide)) (h_all_tiles.mono (by decide)) (h_m_pads_of.mono (by decide)) (h_all_pads.mono (by decide)) nb_isinstance nb_tuple nb_all nb_list law_lists_fit
  exact ok_law F (h_begin.mono (by decide)) (h_rare.mono (by decide)) (h_fabric.mono (by decide)) (h_lists_fit.mono (by decide)) (h_sides_fit.mono (by decide)) law_m_law
end K70
open PySem PySem.W PySem.Calls PyProof.Rows BD
theorem PySem.Challenge.cw_beatfabric_k70_fabric_sides_holds : PySem.Challenge.rw_beatfabric_k70_fabric_sides.Holds := by
  w_on; o_law
  refine HandSHeadRun.head_any (r := OpenLaw.row PySem.Challenge.rw_beatfabric_k70_fabric_sides) (q := view (OpenLaw.row PySem.Challenge.rw_beatfabric_k70_fabric_sides).prog [22]) (H := K70.hk) (ob := K70.ob) (M := 1980) (loose := ["COLUMN_STEPS", "ROW_STEPS", "tiles_of", "has_tile", "beside", "leads_out", "pads_of", "entering", "_law_begin", "_law_draw", "_law_rare", "_law_is_int", "_law_is_ints", "_law_fabric", "_law_all_tiles", "_law_behind", "_law_all_pads", "_law_is_told", "_law_sides_fit", "_law_lists_fit"]) (d := HandSHeadRun.topDef (OpenLaw.row PySem.Challenge.rw_beatfabric_k70_fabric_sides).prog 22) (kwd := []) K70.ob_eq
    (by kernel_rfl) (fun s => by kernel_rfl) K70.run (by kernel_rfl) (by kernel_rfl) (by kernel_rfl) (by rfl) (by first | assumption | decide +kernel) (by decide +kernel) ⟨rfl, rfl, rfl, rfl, rfl, by decide +kernel⟩ ?hw ?hc
  case hw => w_witness2
  case hc =>
    refine walk_ofEB (l := PySem.Challenge.rw_beatfabric_k70_fabric_sides) (n := 63) (k := 5) (x := "_law_script") rfl (by decide) (by kernel_rfl) ⟨rfl, by decide, by decide⟩ ?F
    intro w mg fa h Y G hmg0
    obtain ⟨K, KX, c⟩ := Y
    have hmg : mg ("law" : PySem.Str) = some (.ref fa) := by
      have e : (HandSHeadRun.topDef (OpenLaw.row PySem.Challenge.rw_beatfabric_k70_fabric_sides).prog 22).name = ("law" : PySem.Str) := by kernel_rfl
      rw [← e]
      exact hmg0
    obtain ⟨fd, hb, hF⟩ := K70.facts (P := (PySem.Challenge.rw_beatfabric_k70_fabric_sides).prog) (w := w) KX G hmg c
    exact ⟨K, fd, fun vs H Q _ => liftC ⟨K, (PySem.Challenge.rw_beatfabric_k70_fabric_sides).prog, w⟩ (spLaw 63) vs H Q, KX, hb, fun H a ns hl hbits _ hS => law_at c (by decide) H a ns hl hbits hS, hF⟩


