import PyProof.Rows.All
import Wide.All
import OpenK.AllK
import Wide.FinOn
import HandS.ForMost
import HandS.Sort
import HandS.SortInts
import HandS.SortKw
import HandS.IsInst
import HandS.Wide
import HandS.Flow
import HandS.More
import HandS.NoneIn
import HandS.Style
import HandS.DictComp
import HandS.Zip
import HandS.RaiseOp
import HandS.Conv
import HandS.Walk
import KE.SortKeyHeap
import KE.GoesEnum
import KE.DataMinMax
import KE.DatumOrd
import HandS.Property
import HandS.MakeKwOnly
import HandS.TupAny
import KE.KTupSum
import PySem.Challenge.RW_typeforge_k80_press_pages_and_fillings
set_option Elab.async false
set_option linter.all false
set_option maxRecDepth 100000
set_option maxHeartbeats 4000000
/-! frozen heaps, own cells, data that stands in a frozen heap, steps of a reading -/
namespace Tf
open PySem PySem.Spec PyProof.Rows L2
/-! ### heaps that grow -/
theorem same_new {H : Hp} {p : Addr} {o : HO} (h : H p = none) : Same H (upd H p o) := fun a u e => by
  rw [upd_ne (ne_of_none e h)]
  exact e
abbrev Mem := List (Addr × HO)
/-- F stands still within H; the cells m of H are ours -/
structure Own (H F : Hp) (m : Mem) : Prop where
  sub : Same F H
  mem : ∀ p ∈ m, H p.1 = some p.2 ∧ F p.1 = none
  nd : (m.map (·.1)).Nodup
namespace Own
variable {H F : Hp} {m m' : Mem} {p q : Addr} {o o' u u' : HO}
theorem at0 (O : Own H F ((p, o) :: m)) : H p = some o := (O.mem (p, o) List.mem_cons_self).1
theorem fr0 (O : Own H F ((p, o) :: m)) : F p = none := (O.mem (p, o) List.mem_cons_self).2
theorem get (O : Own H F m) (h : (p, o) ∈ m) : H p = some o := (O.mem (p, o) h).1
theorem frz (O : Own H F m) (h : F p = some o) : H p = some o := O.sub p o h
theorem fresh (O : Own H F m) (h : H p = none) : F p = none := O.sub.free h
theorem notin (O : Own H F m) (h : H p = none) : p ∉ m.map (·.1) := fun hp => by
  obtain ⟨x, hx, e⟩ := List.mem_map.mp hp
  have := (O.mem x hx).1
  rw [e, h] at this
  cases this
theorem notinF (O : Own H F m) (h : F p = some o) : p ∉ m.map (·.1) := fun hp => by
  obtain ⟨x, hx, e⟩ := List.mem_map.mp hp
  have := (O.mem x hx).2
  rw [e, h] at this
  cases this
/-- a new thing that stands still from now on -/
theorem new (O : Own H F m) (h : H p = none) : Own (upd H p o) (upd F p o) m where
  sub := fun a u e => by
    by_cases ha : a = p
    · subst ha
      rw [upd_same] at e ⊢
      exact e
    · rw [upd_ne ha] at e ⊢
      exact O.sub a u e
  mem := fun x hx => by
    have hn : x.1 ≠ p := fun e => O.notin h (by rw [← e]; exact List.mem_map_of_mem hx)
    rw [upd_ne hn, upd_ne hn]
    exact O.mem x hx
  nd := O.nd
/-- a new thing of ours -/
theorem own (O : Own H F m) (h : H p = none) : Own (upd H p o) F ((p, o) :: m) where
  sub := O.sub.trans (same_new h)
  mem := fun x hx => by
    rcases List.mem_cons.mp hx with rfl | hx
    · exact ⟨upd_same, O.fresh h⟩
    · have hn : x.1 ≠ p := fun e => O.notin h (by rw [← e]; exact List.mem_map_of_mem hx)
      rw [upd_ne hn]
      exact O.mem x hx
  nd := List.nodup_cons.mpr ⟨O.notin h, O.nd⟩
theorem set (O : Own H F ((p, o) :: m)) (o' : HO) : Own (upd H p o') F ((p, o') :: m) where
  sub := fun a u e => by
    rw [upd_ne (ne_of_none e O.fr0)]
    exact O.sub a u e
  mem := fun x hx => by
    rcases List.mem_cons.mp hx with rfl | hx
    · exact ⟨upd_same, O.fr0⟩
    · have hn : x.1 ≠ p := fun e => (List.nodup_cons.mp O.nd).1 (by show p ∈ m.map (·.1); rw [← e]; exact List.mem_map_of_mem hx)
      rw [upd_ne hn]
      exact O.mem x (List.mem_cons_of_mem _ hx)
  nd := O.nd
theorem perm (O : Own H F m) (h : m.Perm m') : Own H F m' where
  sub := O.sub
  mem := fun x hx => O.mem x (h.mem_iff.mpr hx)
  nd := (h.map _).nodup_iff.mp O.nd
theorem swap (O : Own H F ((p, o) :: (q, u) :: m)) : Own H F ((q, u) :: (p, o) :: m) := O.perm (List.Perm.swap _ _ _)
theorem rot3 {r : Addr} {v : HO} (O : Own H F ((p, o) :: (q, u) :: (r, v) :: m)) : Own H F ((r, v) :: (p, o) :: (q, u) :: m) :=
  O.perm (((List.Perm.swap _ _ _).cons _).trans (List.Perm.swap _ _ _))
theorem tail (O : Own H F ((p, o) :: m)) : Own H F m := ⟨O.sub, fun x hx => O.mem x (List.mem_cons_of_mem _ hx), (List.nodup_cons.mp O.nd).2⟩
/-- a thing of ours that stands still from now on -/
theorem freeze (O : Own H F ((p, o) :: m)) : Own H (upd F p o) m where
  sub := fun a u e => by
    by_cases ha : a = p
    · subst ha
      rw [upd_same] at e
      rw [O.at0]
      exact e
    · rw [upd_ne ha] at e
      exact O.sub a u e
  mem := fun x hx => by
    have hn : x.1 ≠ p := fun e => (List.nodup_cons.mp O.nd).1 (by show p ∈ m.map (·.1); rw [← e]; exact List.mem_map_of_mem hx)
    rw [upd_ne hn]
    exact O.mem x (List.mem_cons_of_mem _ hx)
  nd := (List.nodup_cons.mp O.nd).2
theorem freeze_same (O : Own H F ((p, o) :: m)) : Same F (upd F p o) := same_new O.fr0
theorem refl (H : Hp) : Own H H [] := ⟨Same.refl H, fun _ h => (nomatch h), List.nodup_nil⟩
/-- of a lesser frozen heap -/
theorem back {F' : Hp} (O : Own H F' m) (s : Same F F') : Own H F m := ⟨s.trans O.sub, fun x hx => ⟨(O.mem x hx).1, s.free (O.mem x hx).2⟩, O.nd⟩
/-- a thing that stood still for a while is ours again -/
theorem thaw (O : Own H (upd F p o) m) (h : F p = none) : Own H F ((p, o) :: m) where
  sub := (same_new h).trans O.sub
  mem := fun x hx => by
    rcases List.mem_cons.mp hx with rfl | hx
    · exact ⟨O.sub _ _ upd_same, h⟩
    · exact ⟨(O.mem x hx).1, (same_new h).free (O.mem x hx).2⟩
  nd := List.nodup_cons.mpr ⟨O.notinF (o := o) upd_same, O.nd⟩
/-- lock and unlock of a thing that stands still -/
theorem relay (O : Own H F m) (h : F p = some o) : Own (upd H p o') (upd F p o') m where
  sub := fun a u e => by
    by_cases ha : a = p
    · subst ha
      rw [upd_same] at e ⊢
      exact e
    · rw [upd_ne ha] at e ⊢
      exact O.sub a u e
  mem := fun x hx => by
    have hn : x.1 ≠ p := fun e => O.notinF h (by rw [← e]; exact List.mem_map_of_mem hx)
    rw [upd_ne hn, upd_ne hn]
    exact O.mem x hx
  nd := O.nd
end Own
/-! ### what stays readable: lists, tuples, instances as they are; a dict also while it is locked -/
def plainO : HO → Prop
  | .lst _ => True
  | .tup _ => True
  | .ins _ _ _ => True
  | .own _ => True
  | .met _ _ => True
  | _ => False
structure Le (F F' : Hp) : Prop where
  pl : ∀ a o, plainO o → F a = some o → F' a = some o
  dk : ∀ a kvs, Rd F a (.dK kvs) → Rd F' a (.dK kvs)
  dt : ∀ a kvs, Rd F a (.dT kvs) → Rd F' a (.dT kvs)
theorem Le.refl (F : Hp) : Le F F := ⟨fun _ _ _ h => h, fun _ _ h => h, fun _ _ h => h⟩
theorem Le.trans {F F1 F2 : Hp} (a : Le F F1) (b : Le F1 F2) : Le F F2 :=
  ⟨fun x o p h => b.pl x o p (a.pl x o p h), fun x k h => b.dk x k (a.dk x k h), fun x k h => b.dt x k (a.dt x k h)⟩
theorem rd_same {F F' : Hp} {a : Addr} {u : HO} (s : Same F F') (h : Rd F a u) : Rd F' a u := by
  rcases h with h | ⟨o, h⟩
  · exact .inl (s _ _ h)
  · exact .inr ⟨o, s _ _ h⟩
theorem Le.of {F F' : Hp} (s : Same F F') : Le F F' := ⟨fun a o _ h => s a o h, fun _ _ h => rd_same s h, fun _ _ h => rd_same s h⟩
theorem le_lock {F : Hp} {d : Addr} {ob : Obj} {kvs : List (Key × V)} (h : F d = some (.dK kvs)) : Le F (upd F d (.frz ob (.dK kvs))) where
  pl := fun a o p e => by
    have hn : a ≠ d := fun z => by
      rw [z, h] at e
      cases e
      exact p
    rw [upd_ne hn]
    exact e
  dk := fun a k r => by
    by_cases ha : a = d
    · subst ha
      rcases r with r | ⟨o, r⟩
      · rw [h] at r
        cases r
        exact .inr ⟨ob, upd_same⟩
      · rw [h] at r
        cases r
    · rcases r with r | ⟨o, r⟩
      · exact .inl (by rw [upd_ne ha]; exact r)
      · exact .inr ⟨o, by rw [upd_ne ha]; exact r⟩
  dt := fun a k r => by
    by_cases ha : a = d
    · subst ha
      rcases r with r | ⟨o, r⟩
      · rw [h] at r
        cases r
      · rw [h] at r
        cases r
    · rcases r with r | ⟨o, r⟩
      · exact .inl (by rw [upd_ne ha]; exact r)
      · exact .inr ⟨o, by rw [upd_ne ha]; exact r⟩
theorem le_unlock {F : Hp} {d : Addr} {ob : Obj} {kvs : List (Key × V)} (h : F d = some (.frz ob (.dK kvs))) : Le F (upd F d (.dK kvs)) where
  pl := fun a o p e => by
    have hn : a ≠ d := fun z => by
      rw [z, h] at e
      cases e
      exact p
    rw [upd_ne hn]
    exact e
  dk := fun a k r => by
    by_cases ha : a = d
    · subst ha
      rcases r with r | ⟨o, r⟩
      · rw [h] at r
        cases r
      · rw [h] at r
        cases r
        exact .inl upd_same
    · rcases r with r | ⟨o, r⟩
      · exact .inl (by rw [upd_ne ha]; exact r)
      · exact .inr ⟨o, by rw [upd_ne ha]; exact r⟩
  dt := fun a k r => by
    by_cases ha : a = d
    · subst ha
      rcases r with r | ⟨o, r⟩
      · rw [h] at r
        cases r
      · rw [h] at r
        cases r
    · rcases r with r | ⟨o, r⟩
      · exact .inl (by rw [upd_ne ha]; exact r)
      · exact .inr ⟨o, by rw [upd_ne ha]; exact r⟩
/-! ### data -/
/-- how a Lean value stands in a heap -/
abbrev Rp (α : Type) := Hp → α → V → Prop
class Mono {α : Type} (R : Rp α) : Prop where
  le : ∀ {F F' : Hp} {x : α} {v : V}, Le F F' → R F x v → R F' x v
class MonoS {α : Type} (R : Rp α) : Prop where
  up : ∀ {F F' : Hp} {x : α} {v : V}, Same F F' → R F x v → R F' x v
instance {α : Type} {R : Rp α} [M : Mono R] : MonoS R := ⟨fun s h => M.le (Le.of s) h⟩
theorem up {α : Type} {R : Rp α} [M : MonoS R] {F F' : Hp} {x : α} {v : V} (s : Same F F') (h : R F x v) : R F' x v := M.up s h
inductive All2 {α β : Type} (R : α → β → Prop) : List α → List β → Prop
  | nil : All2 R [] []
  | cons {x y xs ys} : R x y → All2 R xs ys → All2 R (x :: xs) (y :: ys)
namespace All2
variable {α β : Type} {R S : α → β → Prop}
theorem mono (f : ∀ x y, R x y → S x y) : ∀ {xs ys}, All2 R xs ys → All2 S xs ys
  | _, _, .nil => .nil
  | _, _, .cons h t => .cons (f _ _ h) (mono f t)
theorem length : ∀ {xs : List α} {ys : List β}, All2 R xs ys → xs.length = ys.length
  | _, _, .nil => rfl
  | _, _, .cons _ t => by rw [List.length_cons, List.length_cons, length t]
theorem get : ∀ {xs : List α} {ys : List β} {i : Nat} {x : α}, All2 R xs ys → xs[i]? = some x → ∃ y, ys[i]? = some y ∧ R x y
  | _, _, _, _, .nil, e => by simp at e
  | _, _, 0, _, .cons h _, e => by
    simp at e
    subst e
    exact ⟨_, rfl, h⟩
  | _, _, i + 1, _, .cons _ t, e => by
    obtain ⟨y, a, b⟩ := get (i := i) t (by simpa using e)
    exact ⟨y, by simpa using a, b⟩
theorem get' : ∀ {xs : List α} {ys : List β} {i : Nat} {y : β}, All2 R xs ys → ys[i]? = some y → ∃ x, xs[i]? = some x ∧ R x y
  | _, _, _, _, .nil, e => by simp at e
  | _, _, 0, _, .cons h _, e => by
    simp at e
    subst e
    exact ⟨_, rfl, h⟩
  | _, _, i + 1, _, .cons _ t, e => by
    obtain ⟨y, a, b⟩ := get' (i := i) t (by simpa using e)
    exact ⟨y, by simpa using a, b⟩
theorem app : ∀ {xs xs' : List α} {ys ys' : List β}, All2 R xs ys → All2 R xs' ys' → All2 R (xs ++ xs') (ys ++ ys')
  | _, _, _, _, .nil, h => h
  | _, _, _, _, .cons h t, k => .cons h (app t k)
theorem snoc {xs : List α} {ys : List β} {x : α} {y : β} (a : All2 R xs ys) (h : R x y) : All2 R (xs ++ [x]) (ys ++ [y]) := a.app (.cons h .nil)
theorem set : ∀ {xs : List α} {ys : List β} {x : α} {y : β} (i : Nat), All2 R xs ys → R x y → All2 R (xs.set i x) (ys.set i y)
  | _, _, _, _, _, .nil, _ => .nil
  | _, _, _, _, 0, .cons _ t, h => .cons h t
  | _, _, _, _, i + 1, .cons k t, h => .cons k (set i t h)
theorem eqmap {f : α → β} : ∀ {xs : List α} {ys : List β}, All2 (fun x y => y = f x) xs ys → ys = xs.map f
  | _, _, .nil => rfl
  | _, _, .cons h t => by rw [h, eqmap t]; rfl
theorem ofmap {f : α → β} : ∀ {xs : List α}, All2 (fun x y => y = f x) xs (xs.map f)
  | [] => .nil
  | _ :: _ => .cons rfl ofmap
theorem rep {x : α} {y : β} (h : R x y) : ∀ n, All2 R (List.replicate n x) (List.replicate n y)
  | 0 => .nil
  | n + 1 => .cons h (rep h n)
theorem reverse : ∀ {xs : List α} {ys : List β}, All2 R xs ys → All2 R xs.reverse ys.reverse
  | _, _, .nil => .nil
  | _, _, .cons h t => by rw [List.reverse_cons, List.reverse_cons]; exact (reverse t).snoc h
theorem mapL {γ : Type} {f : γ → α} : ∀ {xs : List γ} {ys : List β}, All2 (fun x y => R (f x) y) xs ys → All2 R (xs.map f) ys
  | _, _, .nil => .nil
  | _, _, .cons h t => .cons h (mapL t)
theorem unmapL {γ : Type} {f : γ → α} : ∀ {xs : List γ} {ys : List β}, All2 R (xs.map f) ys → All2 (fun x y => R (f x) y) xs ys
  | [], _, .nil => .nil
  | _ :: _, _, .cons h t => .cons h (unmapL t)
end All2
def rInt : Rp Int := fun _ i v => v = .int i
def rNat : Rp Nat := fun _ n v => v = .int (n : Int)
def rBool : Rp Bool := fun _ b v => v = .bl b
def rPair {α β : Type} (R : Rp α) (S : Rp β) : Rp (α × β) := fun F x v => ∃ a u w, v = .ref a ∧ F a = some (.tup [u, w]) ∧ R F x.1 u ∧ S F x.2 w
def rTri {α β γ : Type} (R : Rp α) (S : Rp β) (T : Rp γ) : Rp (α × β × γ) := fun F x v => ∃ a u w z, v = .ref a ∧ F a = some (.tup [u, w, z]) ∧ R F x.1 u ∧ S F x.2.1 w ∧ T F x.2.2 z
def rList {α : Type} (R : Rp α) : Rp (List α) := fun F xs v => ∃ a vs, v = .ref a ∧ F a = some (.lst vs) ∧ All2 (R F) xs vs
def rTup {α : Type} (R : Rp α) : Rp (List α) := fun F xs v => ∃ a vs, v = .ref a ∧ F a = some (.tup vs) ∧ All2 (R F) xs vs
def rOpt {α : Type} (R : Rp α) : Rp (Option α) := fun F x v => match x with
  | none => v = .non
  | some y => R F y v
/-- a list or a tuple -/
def rSeq {α : Type} (R : Rp α) : Rp (List α) := fun F xs v => rList R F xs v ∨ rTup R F xs v
/-- the pairs of a dict with int keys -/
def kvR {α : Type} (R : Rp α) (F : Hp) : List (Int × α) → List (Key × V) → Prop := All2 fun p q => q.1 = .inl p.1 ∧ R F p.2 q.2
def rDict {α : Type} (R : Rp α) : Rp (List (Int × α)) := fun F xs v => ∃ a kvs, v = .ref a ∧ Rd F a (.dK kvs) ∧ kvR R F xs kvs
instance : Mono rInt := ⟨fun _ h => h⟩
instance : Mono rNat := ⟨fun _ h => h⟩
instance : Mono rBool := ⟨fun _ h => h⟩
instance {α β : Type} {R : Rp α} {S : Rp β} [Mono R] [Mono S] : Mono (rPair R S) := ⟨fun l ⟨a, u, w, e, h, r, s⟩ => ⟨a, u, w, e, l.pl _ _ True.intro h, Mono.le l r, Mono.le l s⟩⟩
instance {α β γ : Type} {R : Rp α} {S : Rp β} {T : Rp γ} [Mono R] [Mono S] [Mono T] : Mono (rTri R S T) :=
  ⟨fun l ⟨a, u, w, z, e, h, r, s, t⟩ => ⟨a, u, w, z, e, l.pl _ _ True.intro h, Mono.le l r, Mono.le l s, Mono.le l t⟩⟩
instance {α : Type} {R : Rp α} [Mono R] : Mono (rList R) := ⟨fun l ⟨a, vs, e, h, r⟩ => ⟨a, vs, e, l.pl _ _ True.intro h, r.mono fun _ _ => Mono.le l⟩⟩
instance {α : Type} {R : Rp α} [Mono R] : Mono (rTup R) := ⟨fun l ⟨a, vs, e, h, r⟩ => ⟨a, vs, e, l.pl _ _ True.intro h, r.mono fun _ _ => Mono.le l⟩⟩
instance {α : Type} {R : Rp α} [Mono R] : Mono (rSeq R) := ⟨fun l h => h.elim (fun h => .inl (Mono.le l h)) fun h => .inr (Mono.le l h)⟩
instance {α : Type} {R : Rp α} [Mono R] : Mono (rOpt R) := ⟨fun {_ _ x _} l h => by
  cases x with
  | none => exact h
  | some y => exact Mono.le (R := R) l h⟩
theorem kvR.le {α : Type} {R : Rp α} [Mono R] {F F' : Hp} {xs kvs} (l : Le F F') (h : kvR R F xs kvs) : kvR R F' xs kvs := h.mono fun _ _ p => ⟨p.1, Mono.le l p.2⟩
instance {α : Type} {R : Rp α} [Mono R] : Mono (rDict R) := ⟨fun l ⟨a, kvs, e, h, r⟩ => ⟨a, kvs, e, l.dk _ _ h, r.le l⟩⟩
def rDictX {α : Type} (R : Rp α) : Rp (List (Int × α)) := fun F xs v => ∃ a kvs, v = .ref a ∧ F a = some (.dK kvs) ∧ kvR R F xs kvs
section
variable {α β γ : Type} {R : Rp α} {S : Rp β} {T : Rp γ}
instance [MonoS R] [MonoS S] : MonoS (rPair R S) := ⟨fun l ⟨a, u, w, e, h, r, s⟩ => ⟨a, u, w, e, l _ _ h, up l r, up l s⟩⟩
instance [MonoS R] [MonoS S] [MonoS T] : MonoS (rTri R S T) := ⟨fun l ⟨a, u, w, z, e, h, r, s, t⟩ => ⟨a, u, w, z, e, l _ _ h, up l r, up l s, up l t⟩⟩
instance [MonoS R] : MonoS (rList R) := ⟨fun l ⟨a, vs, e, h, r⟩ => ⟨a, vs, e, l _ _ h, r.mono fun _ _ => up l⟩⟩
instance [MonoS R] : MonoS (rTup R) := ⟨fun l ⟨a, vs, e, h, r⟩ => ⟨a, vs, e, l _ _ h, r.mono fun _ _ => up l⟩⟩
instance [MonoS R] : MonoS (rSeq R) := ⟨fun l h => h.elim (fun h => .inl (up l h)) fun h => .inr (up l h)⟩
instance [MonoS R] : MonoS (rOpt R) := ⟨fun {_ _ x _} l h => by
  cases x with
  | none => exact h
  | some y => exact up (R := R) l h⟩
theorem kvR.up [MonoS R] {F F' : Hp} {xs kvs} (l : Same F F') (h : kvR R F xs kvs) : kvR R F' xs kvs := h.mono fun _ _ p => ⟨p.1, Tf.up l p.2⟩
instance [MonoS R] : MonoS (rDict R) := ⟨fun l ⟨a, kvs, e, h, r⟩ => ⟨a, kvs, e, rd_same l h, r.up l⟩⟩
instance [MonoS R] : MonoS (rDictX R) := ⟨fun l ⟨a, kvs, e, h, r⟩ => ⟨a, kvs, e, l _ _ h, r.up l⟩⟩
theorem dictX {F : Hp} {xs v} (h : rDictX R F xs v) : rDict R F xs v := let ⟨a, kvs, e, h, r⟩ := h; ⟨a, kvs, e, .inl h, r⟩
theorem all2_up [MonoS R] {F F' : Hp} {xs : List α} {vs : List V} (l : Same F F') (h : All2 (R F) xs vs) : All2 (R F') xs vs := h.mono fun _ _ => up l
theorem list_imp {R' : Rp α} {F : Hp} {xs v} (f : ∀ x v, R F x v → R' F x v) (h : rList R F xs v) : rList R' F xs v := let ⟨a, vs, e, h, r⟩ := h; ⟨a, vs, e, h, r.mono f⟩
end
/-! ### dicts over Lean values -/
section
variable {α : Type}
def getD (d : List (Int × α)) (k : Int) : Option α := (d.find? fun p => decide (p.1 = k)).map (·.2)
def putD (d : List (Int × α)) (k : Int) (x : α) : List (Int × α) :=
  if (d.any fun p => decide (p.1 = k)) = true then d.map (fun p => if p.1 = k then (p.1, x) else p) else d ++ [(k, x)]
variable {R : Rp α} {F : Hp}
theorem key_inj {a b : Int} : (Sum.inl a : Key) = Sum.inl b ↔ a = b := ⟨Sum.inl.inj, fun e => by rw [e]⟩
theorem kvR.get {d : List (Int × α)} {kvs : List (Key × V)} (h : kvR R F d kvs) (k : Int) : (getD d k = none ∧ valV kvs (Sum.inl k) = none) ∨ ∃ x v, getD d k = some x ∧ valV kvs (Sum.inl k) = some v ∧ R F x v := by
  induction h with
  | nil => exact .inl ⟨rfl, rfl⟩
  | @cons p q d kvs hp t ih =>
    by_cases e : p.1 = k
    · refine .inr ⟨p.2, q.2, ?_, valV_pos (by rw [hp.1, e]), hp.2⟩
      simp [getD, List.find?_cons, e]
    · have e1 : getD (p :: d) k = getD d k := by simp [getD, List.find?_cons, e]
      have e2 : valV (q :: kvs) (Sum.inl k) = valV kvs (Sum.inl k) := valV_neg (by rw [hp.1]; exact fun z => e (key_inj.mp z))
      rw [e1, e2]
      exact ih
theorem kvR.any {d : List (Int × α)} {kvs : List (Key × V)} (h : kvR R F d kvs) (k : Int) : (kvs.any fun p => decide (p.1 = (Sum.inl k : Key))) = d.any fun p => decide (p.1 = k) := by
  induction h with
  | nil => rfl
  | @cons p q d kvs hp t ih =>
    rw [List.any_cons, List.any_cons, ih, hp.1]
    congr 1
    by_cases e : p.1 = k
    · rw [decide_eq_true e, decide_eq_true (key_inj.mpr e)]
    · rw [decide_eq_false e, decide_eq_false fun z => e (key_inj.mp z)]
theorem kvR.put {d : List (Int × α)} {kvs : List (Key × V)} {x : α} {v : V} (h : kvR R F d kvs) (k : Int) (hv : R F x v) : kvR R F (putD d k x) (putK kvs (Sum.inl k) v) := by
  unfold putD putK
  rw [h.any k]
  split
  · clear ‹_ = true›
    induction h with
    | nil => exact .nil
    | @cons p q d kvs hp t ih =>
      refine .cons ?_ ih
      by_cases e : p.1 = k
      · dsimp only
        rw [if_pos e, if_pos (by rw [hp.1, e])]
        exact ⟨by rw [hp.1], hv⟩
      · dsimp only
        rw [if_neg e, if_neg (by rw [hp.1]; exact fun z => e (key_inj.mp z))]
        exact hp
  · exact All2.snoc h ⟨rfl, hv⟩
theorem kvR.keys {d : List (Int × α)} {kvs : List (Key × V)} (h : kvR R F d kvs) : kvs.map (fun p => kV p.1) = (d.map (·.1)).map V.int := by
  induction h with
  | nil => rfl
  | @cons p q d kvs hp t ih =>
    rw [List.map_cons, List.map_cons, List.map_cons, ih, hp.1]
    rfl
theorem getD_nil {k : Int} : getD ([] : List (Int × α)) k = none := rfl
theorem getD_cons {p : Int × α} {d : List (Int × α)} {k : Int} : getD (p :: d) k = if p.1 = k then some p.2 else getD d k := by
  by_cases e : p.1 = k
  · rw [if_pos e]
    simp [getD, List.find?_cons, e]
  · rw [if_neg e]
    simp [getD, List.find?_cons, e]
theorem getD_mem {d : List (Int × α)} {k : Int} {x : α} (h : getD d k = some x) : (k, x) ∈ d := by
  induction d with
  | nil => cases h
  | cons p d ih =>
    rw [getD_cons] at h
    by_cases e : p.1 = k
    · rw [if_pos e] at h
      cases h
      rw [← e]
      exact List.mem_cons_self
    · rw [if_neg e] at h
      exact List.mem_cons_of_mem _ (ih h)
theorem getD_none {d : List (Int × α)} {k : Int} : getD d k = none ↔ k ∉ d.map (·.1) := by
  induction d with
  | nil => exact ⟨fun _ h => (nomatch h), fun _ => rfl⟩
  | cons p d ih =>
    rw [getD_cons, List.map_cons, List.mem_cons]
    by_cases e : p.1 = k
    · rw [if_pos e]
      exact ⟨fun h => (nomatch h), fun h => (h (.inl e.symm)).elim⟩
    · rw [if_neg e, ih]
      exact ⟨fun h z => z.elim (fun z => e z.symm) h, fun h z => h (.inr z)⟩
theorem getD_app {d d' : List (Int × α)} {k : Int} : getD (d ++ d') k = (getD d k).or (getD d' k) := by
  induction d with
  | nil => rfl
  | cons p d ih =>
    rw [List.cons_append, getD_cons, getD_cons, ih]
    split <;> rfl
theorem getD_repl {d : List (Int × α)} {k j : Int} {x : α} : getD (d.map (fun p => if p.1 = k then (p.1, x) else p)) j = if j = k then (getD d j).map fun _ => x else getD d j := by
  induction d with
  | nil =>
    show (none : Option α) = if j = k then none else none
    split <;> rfl
  | cons p d ih =>
    rw [List.map_cons, getD_cons, getD_cons, ih]
    by_cases e : p.1 = k
    · rw [if_pos e]
      by_cases ej : p.1 = j
      · have z : j = k := ej.symm.trans e
        simp [ej, z]
      · have z : ¬ j = k := fun z => ej (e.trans z.symm)
        simp [ej, z]
    · rw [if_neg e]
      by_cases ej : p.1 = j
      · have z : ¬ j = k := fun z => e (ej.trans z)
        simp [ej, z]
      · simp [ej]
theorem getD_put {d : List (Int × α)} {k j : Int} {x : α} : getD (putD d k x) j = if j = k then some x else getD d j := by
  unfold putD
  by_cases h : (d.any fun p => decide (p.1 = k)) = true
  · rw [if_pos h, getD_repl]
    by_cases e : j = k
    · rw [if_pos e, if_pos e]
      cases q : getD d j with
      | some y => rfl
      | none =>
        obtain ⟨p, hp, z⟩ := List.any_eq_true.mp h
        exact (getD_none.mp q (by rw [e, ← of_decide_eq_true z]; exact List.mem_map_of_mem hp)).elim
    · rw [if_neg e, if_neg e]
  · rw [if_neg h, getD_app]
    by_cases e : j = k
    · rw [if_pos e]
      have q : getD d j = none := getD_none.mpr fun z => by
        obtain ⟨p, hp, ep⟩ := List.mem_map.mp z
        exact h (List.any_eq_true.mpr ⟨p, hp, decide_eq_true (ep.trans e)⟩)
      rw [q, getD_cons, if_pos (show ((k, x) : Int × α).1 = j from e.symm)]
      rfl
    · rw [if_neg e, getD_cons, if_neg (show ¬ ((k, x) : Int × α).1 = j from fun z => e z.symm), getD_nil]
      cases getD d j <;> rfl
theorem putD_keys {d : List (Int × α)} {k : Int} {x : α} : (putD d k x).map (·.1) = if k ∈ d.map (·.1) then d.map (·.1) else d.map (·.1) ++ [k] := by
  unfold putD
  by_cases h : (d.any fun p => decide (p.1 = k)) = true
  · rw [if_pos h]
    obtain ⟨p, hp, e⟩ := List.any_eq_true.mp h
    have hm : k ∈ d.map (·.1) := List.mem_map.mpr ⟨p, hp, of_decide_eq_true e⟩
    rw [if_pos hm, List.map_map]
    exact List.map_congr_left fun q _ => by
      show (if q.1 = k then (q.1, x) else q).1 = q.1
      split <;> rfl
  · rw [if_neg h]
    have hm : k ∉ d.map (·.1) := fun z => by
      obtain ⟨p, hp, e⟩ := List.mem_map.mp z
      exact h (List.any_eq_true.mpr ⟨p, hp, decide_eq_true e⟩)
    rw [if_neg hm, List.map_append]
    rfl
theorem putD_nodup {d : List (Int × α)} {k : Int} {x : α} (h : (d.map (·.1)).Nodup) : ((putD d k x).map (·.1)).Nodup := by
  rw [putD_keys]
  split
  · exact h
  · exact nd_snoc h ‹_›
theorem putD_len {d : List (Int × α)} {k : Int} {x : α} : (putD d k x).length ≤ d.length + 1 := by
  unfold putD
  split
  · rw [List.length_map]
    exact Nat.le_succ _
  · rw [List.length_append]
    exact Nat.le_refl _
theorem getD_some {d : List (Int × α)} {k : Int} (h : k ∈ d.map (·.1)) : ∃ x, getD d k = some x := by
  cases e : getD d k with
  | none => exact (getD_none.mp e h).elim
  | some x => exact ⟨x, rfl⟩
theorem getD_of {d : List (Int × α)} {k : Int} {x : α} (hn : (d.map (·.1)).Nodup) (h : (k, x) ∈ d) : getD d k = some x := by
  induction d with
  | nil => cases h
  | cons p d ih =>
    obtain ⟨h1, h2⟩ := List.nodup_cons.mp hn
    rw [getD_cons]
    rcases List.mem_cons.mp h with rfl | h
    · rw [if_pos rfl]
    · have e : ¬ p.1 = k := fun z => h1 (List.mem_map.mpr ⟨(k, x), h, z.symm⟩)
      rw [if_neg e]
      exact ih h2 h
end
end Tf
/-! steps of a reading -/
namespace Tf
open PySem PySem.Spec PyProof.Rows L2
section
variable {K : PySem.W.Frag} {σ : L2.St} {H F : Hp} {m : Mem} {D : Ends} {t u : TS} {te ta tb : TE} {g : TG} {Q : VK} {c : TT} {v w : V} {i : Nat}
def NewT (xs : List V) (Q : VK) (H : Hp) : Prop := xs.length ≤ sizeLine ∧ ∀ p, H p = none → Q (.ref p) (upd H p (.tup xs))
def NewL (xs : List V) (Q : VK) (H : Hp) : Prop := xs.length ≤ sizeLine ∧ ∀ p, H p = none → Q (.ref p) (upd H p (.lst xs))
/-! statements -/
theorem x_seq (k : t { D with nx := u D } σ H) : tSeq t u D σ H := k
theorem x_asg (k : te σ H fun x H1 => g x σ H1 D.nx) : tAsg te g D σ H := k
theorem x_name {Q : L2.St → Hp → Prop} (k : Q (σ.set i (some v)) H) : gName i v σ H Q := k
theorem x_drop (k : te σ H fun _ H1 => D.nx σ H1) : tDrop te D σ H := k
theorem x_ret (k : te σ H D.rt) : tRet te D σ H := k
theorem x_retN (k : D.rt .non H) : tRetN D σ H := k
theorem x_next (k : D.nx σ H) : tNext D σ H := k
theorem x_brk (k : D.bk σ H) : tBreak D σ H := k
theorem x_cont (k : D.ct σ H) : tCont D σ H := k
theorem x_nx {f r b d} (k : f σ H) : Ends.nx ⟨f, r, b, d⟩ σ H := k
theorem x_rt {f r b d} (k : r v H) : Ends.rt ⟨f, r, b, d⟩ v H := k
theorem x_bk {f r b d} (k : b σ H) : Ends.bk ⟨f, r, b, d⟩ σ H := k
theorem x_ct {f r b d} (k : d σ H) : Ends.ct ⟨f, r, b, d⟩ σ H := k
theorem x_if (k : c σ H fun b H1 => if b = true then t D σ H1 else u D σ H1) : tIfS c t u D σ H := k
theorem x_ite {b : Bool} {A B : Prop} (h1 : b = true → A) (h2 : b = false → B) : if b = true then A else B := by
  cases b with
  | true => exact h1 rfl
  | false => exact h2 rfl
theorem x_iteD {p : Prop} [Decidable p] {A B : Prop} (h1 : p → A) (h2 : ¬ p → B) : if decide p = true then A else B := by
  by_cases h : p
  · rw [decide_eq_true h]
    exact h1 h
  · rw [decide_eq_false h]
    exact h2 h
theorem x_iteDn {p : Prop} [Decidable p] {A B : Prop} (h1 : ¬ p → A) (h2 : p → B) : if (!decide p) = true then A else B := by
  by_cases h : p
  · rw [decide_eq_true h]
    exact h2 h
  · rw [decide_eq_false h]
    exact h1 h
theorem x_iteT {b : Bool} {A B : Prop} (h : b = true) (k : A) : if b = true then A else B := by
  rw [if_pos h]
  exact k
theorem x_iteF {b : Bool} {A B : Prop} (h : b = false) (k : B) : if b = true then A else B := by
  rw [h]
  exact k
theorem x_aug {ti : TIp} (h : σ[i]? = some (some v)) (k : te σ H fun y H1 => ti v y H1 fun z H2 => D.nx (σ.set i (some z)) H2) : tAug i te ti D σ H := ⟨v, h, k⟩
theorem x_ipI {f : Int → Int → Int} {a b : Int} (k : Q (.int (f a b)) H) : ipI f (.int a) (.int b) H Q := ⟨a, b, rfl, rfl, k⟩
/-! expressions -/
theorem x_var (h : σ[i]? = some (some v)) (k : Q v H) : tVar i σ H Q := ⟨v, h, k⟩
theorem x_c (k : Q v H) : tC v σ H Q := k
theorem x_op {r : R2} (k : ta σ H fun x H1 => tb σ H1 fun y H2 => r x y H2 Q) : tOp r ta tb σ H Q := k
theorem x_un {r : V → Hp → VK → Prop} (k : ta σ H fun x H1 => r x H1 Q) : tUn r ta σ H Q := k
theorem x_I0 {f : Int → Int → V} {a b : Int} (k : Q (f a b) H) : rI0 f (.int a) (.int b) H Q := ⟨a, b, rfl, rfl, k⟩
theorem x_I {C : Int → Int → Prop} {f : Int → Int → V} {a b : Int} (h : C a b) (k : Q (f a b) H) : rI C f (.int a) (.int b) H Q := ⟨a, b, rfl, rfl, h, k⟩
theorem x_U {f : Int → V} {a : Int} (k : Q (f a) H) : rU f (.int a) H Q := ⟨a, rfl, k⟩
theorem x_eqI {a b : Int} (k : Q (.bl (decide (a = b))) H) : rEq (.int a) (.int b) H Q := ⟨rfl, by
  have e : decide (V.int a = V.int b) = decide (a = b) := by
    by_cases z : a = b
    · subst z
      simp
    · rw [decide_eq_false z, decide_eq_false fun q => z (V.int.inj q)]
  rw [e]
  exact k⟩
theorem x_neI {a b : Int} (k : Q (.bl (!decide (a = b))) H) : rNe (.int a) (.int b) H Q := ⟨rfl, by
  have e : decide (V.int a = V.int b) = decide (a = b) := by
    by_cases z : a = b
    · subst z
      simp
    · rw [decide_eq_false z, decide_eq_false fun q => z (V.int.inj q)]
  rw [e]
  exact k⟩
theorem x_isN (k : Q (.bl (decide (v = .non))) H) : (fun (x y : V) H Q => y = V.non ∧ Q (.bl (decide (x = .non))) H) v .non H Q := ⟨rfl, k⟩
def BQ (Q : Bool → Hp → Prop) : VK := fun x H' => ∃ b, x = .bl b ∧ Q b H'
theorem x_test {Q : Bool → Hp → Prop} (k : te σ H (BQ Q)) : tTest te σ H Q := k
theorem x_B {Q : Bool → Hp → Prop} (k : te σ H (BQ Q)) : tB te σ H Q := k
theorem x_bl {Q : Bool → Hp → Prop} {b : Bool} (k : Q b H) : BQ Q (.bl b) H := ⟨b, rfl, k⟩
theorem x_and {t u : TT} {Q : Bool → Hp → Prop} (k : t σ H fun b H1 => if b = true then u σ H1 Q else Q false H1) : tAnd t u σ H Q := k
theorem x_or {t u : TT} {Q : Bool → Hp → Prop} (k : t σ H fun b H1 => if b = true then Q true H1 else u σ H1 Q) : tOr t u σ H Q := k
theorem x_not {t : TT} {Q : Bool → Hp → Prop} (k : t σ H fun b H1 => Q (!b) H1) : tNot t σ H Q := k
theorem x_andV (k : ta σ H (BQ fun c H1 => if c = true then tb σ H1 Q else Q (.bl false) H1)) : tAndV ta tb σ H Q := k
theorem x_orV (k : ta σ H (BQ fun c H1 => if c = true then Q (.bl true) H1 else tb σ H1 Q)) : tOrV ta tb σ H Q := k
theorem x_notV (k : ta σ H (BQ fun c H1 => Q (.bl (!c)) H1)) : tNotV ta σ H Q := k
theorem x_ifE {t : TT} (k : t σ H fun c H1 => if c = true then ta σ H1 Q else tb σ H1 Q) : tIf t ta tb σ H Q := k
theorem x_nil {Q : List V → Hp → Prop} (k : Q [] H) : tNil σ H Q := k
theorem x_cons {tr : TA} {Q : List V → Hp → Prop} (k : ta σ H fun x H1 => tr σ H1 fun xs H2 => Q (x :: xs) H2) : tCons ta tr σ H Q := k
theorem x_tup {t : TA} (k : t σ H fun xs H1 => NewT xs Q H1) : tTup t σ H Q := k
theorem x_lst {t : TA} (k : t σ H fun xs H1 => NewL xs Q H1) : tLst t σ H Q := k
theorem x_bm {T : String} {r : V → List V → Hp → VK → Prop} {t : TA} (k : ta σ H fun x H1 => tyV K T x H1 ∧ t σ H1 fun xs H2 => r x xs H2 Q) : tBM K T r ta t σ H Q := k
theorem x_bm0 {T : String} {r : V → List V → Hp → VK → Prop} (k : ta σ H fun x H1 => tyV K T x H1 ∧ r x [] H1 Q) : tBM0 K T r ta σ H Q := k
theorem ty_list {a : Addr} {vs : List V} (h : H a = some (.lst vs)) : tyV K "list" (.ref a) H := .inl ⟨rfl, vs, .inl (.inl h)⟩
theorem x_append {a : Addr} {vs : List V} (O : Own H F ((a, .lst vs) :: m)) (hl : vs.length < 16777216) (k : ∀ H', Own H' F ((a, .lst (vs ++ [v])) :: m) → Q .non H') : rAppend (.ref a) [v] H Q :=
  ⟨a, vs, v, rfl, rfl, O.at0, by rw [sizeLine_eq]; exact hl, k _ (O.set _)⟩
theorem x_pop {a : Addr} {vs : List V} (O : Own H F ((a, .lst (vs ++ [v])) :: m)) (k : ∀ H', Own H' F ((a, .lst vs) :: m) → Q v H') : rPop (.ref a) [] H Q :=
  ⟨a, vs ++ [v], v, rfl, rfl, O.at0, by simp, by
    have e : (vs ++ [v]).dropLast = vs := by simp
    rw [e]
    exact k _ (O.set _)⟩
theorem x_extend {a b : Addr} {vs us : List V} (O : Own H F ((a, .lst vs) :: m)) (h : F b = some (.lst us)) (hl : vs.length + us.length ≤ 16777216) (k : ∀ H', Own H' F ((a, .lst (vs ++ us)) :: m) → Q .non H') : rExtend (.ref a) [.ref b] H Q :=
  ⟨a, b, vs, us, rfl, rfl, O.at0, O.frz h, by rw [sizeLine_eq]; exact hl, k _ (O.set _)⟩
def SFQ (K : PySem.W.Frag) (f : Str) (y : V) (R : Hp → Prop) : VK := fun x H2 => ∃ a C dx fs, x = .ref a ∧ H2 a = some (.ins C dx fs) ∧ Cls K C ∧ NoAttr K C f ∧ fs.length < 1000 ∧ R (upd H2 a (.ins C dx (putF f y fs)))
/-- o.f = e, o of our own -/
theorem x_setF {a C dx : Addr} {fs : List (Str × V)} {f : Str} {R : Hp → Prop} (O : Own H F ((a, .ins C dx fs) :: m)) (c : Cls K C) (n : NoAttr K C f) (hl : fs.length < 1000) (k : ∀ H', Own H' F ((a, .ins C dx (putF f v fs)) :: m) → R H') :
    SFQ K f v R (.ref a) H := ⟨a, C, dx, fs, rfl, O.at0, c, n, hl, k _ (O.set _)⟩
theorem x_sfld {tv : TE} {f : Str} (k : tv σ H fun y H1 => ta σ H1 (SFQ K f y (D.nx σ))) : sFld K ta tv f D σ H := k
theorem x_call {sp : Sp} {E : XK} {t : TA} (k : t σ H fun vs H1 => sp vs H1 Q E) : tCall sp [] E t σ H Q := by
  show t σ H fun vs H1 => sp (vs ++ []) H1 Q E
  have e : (fun vs H1 => sp (vs ++ []) H1 Q E) = fun vs H1 => sp vs H1 Q E := by
    funext vs H1
    rw [List.append_nil]
  rw [e]
  exact k
theorem x_cb {r : List V → Hp → VK → Prop} {t : TA} (k : t σ H fun vs H1 => r vs H1 Q) : tCB r t σ H Q := k
def FQ (K : PySem.W.Frag) (f : Str) (Q : VK) : VK := fun x H1 => ∃ a C dx fs v, x = .ref a ∧ H1 a = some (.ins C dx fs) ∧ Cls K C ∧ NoAttr K C f ∧ fs.lookup f = some v ∧ Q v H1
theorem x_fld {f : Str} (k : ta σ H (FQ K f Q)) : tFld K ta f σ H Q := k
theorem x_sub {to ti : TE} {ts : TSet} {Q : L2.St → Hp → Prop} (k : to σ H fun o H1 => ti σ H1 fun i H2 => ts o i v H2 fun H3 => Q σ H3) : gSub to ti ts v σ H Q := k
theorem x_setL {a : Addr} {j : Nat} {vs : List V} {z : Int} {Q : Hp → Prop} (O : Own H F ((a, .lst vs) :: m)) (hz : z = (j : Int)) (hj : j < vs.length)
    (k : Own (upd H a (.lst (vs.set j v))) F ((a, .lst (vs.set j v)) :: m) → Q (upd H a (.lst (vs.set j v)))) : rSetL (.ref a) (.int z) v H Q := by
  refine ⟨a, vs, z, j, rfl, rfl, O.at0, ?_, k (O.set _)⟩
  subst hz
  unfold ixN
  rw [if_pos (by omega), if_pos (by omega)]
  simp
/-! new things -/
theorem x_newPair {α β : Type} {R : Rp α} {S : Rp β} [MonoS R] [MonoS S] {x : α} {y : β} {a b : V} (O : Own H F m) (hR : R F x a) (hS : S F y b)
    (k : ∀ v H' F', Same F F' → Own H' F' m → rPair R S F' (x, y) v → Q v H') : NewT [a, b] Q H :=
  ⟨by show 2 ≤ sizeLine; decide, fun p hp => k _ _ _ (same_new (O.fresh hp)) (O.new hp) ⟨p, a, b, rfl, upd_same, up (same_new (O.fresh hp)) hR, up (same_new (O.fresh hp)) hS⟩⟩
theorem x_newTri {α β γ : Type} {R : Rp α} {S : Rp β} {T : Rp γ} [MonoS R] [MonoS S] [MonoS T] {x : α} {y : β} {z : γ} {a b c : V} (O : Own H F m) (hR : R F x a) (hS : S F y b) (hT : T F z c)
    (k : ∀ v H' F', Same F F' → Own H' F' m → rTri R S T F' (x, y, z) v → Q v H') : NewT [a, b, c] Q H :=
  ⟨by show 3 ≤ sizeLine; decide, fun p hp => k _ _ _ (same_new (O.fresh hp)) (O.new hp) ⟨p, a, b, c, rfl, upd_same, up (same_new (O.fresh hp)) hR, up (same_new (O.fresh hp)) hS, up (same_new (O.fresh hp)) hT⟩⟩
theorem x_newL {α : Type} {R : Rp α} [MonoS R] {xs : List α} {vs : List V} (O : Own H F m) (hl : vs.length ≤ 16777216) (hR : All2 (R F) xs vs)
    (k : ∀ v H' F', Same F F' → Own H' F' m → rList R F' xs v → Q v H') : NewL vs Q H :=
  ⟨by rw [sizeLine_eq]; exact hl, fun p hp => k _ _ _ (same_new (O.fresh hp)) (O.new hp) ⟨p, vs, rfl, upd_same, all2_up (same_new (O.fresh hp)) hR⟩⟩
theorem x_newT {α : Type} {R : Rp α} [MonoS R] {xs : List α} {vs : List V} (O : Own H F m) (hl : vs.length ≤ 16777216) (hR : All2 (R F) xs vs)
    (k : ∀ v H' F', Same F F' → Own H' F' m → rTup R F' xs v → Q v H') : NewT vs Q H :=
  ⟨by rw [sizeLine_eq]; exact hl, fun p hp => k _ _ _ (same_new (O.fresh hp)) (O.new hp) ⟨p, vs, rfl, upd_same, all2_up (same_new (O.fresh hp)) hR⟩⟩
/-- a new list of our own -/
theorem x_ownL {vs : List V} (O : Own H F m) (hl : vs.length ≤ 16777216) (k : ∀ p H', H p = none → Own H' F ((p, .lst vs) :: m) → Q (.ref p) H') : NewL vs Q H :=
  ⟨by rw [sizeLine_eq]; exact hl, fun p hp => k p _ hp (O.own hp)⟩
/-- a new dict of our own -/
theorem x_ownD (O : Own H F m) (k : ∀ p H', H p = none → Own H' F ((p, .dK []) :: m) → Q (.ref p) H') : tDNewK σ H Q := fun p hp => k p _ hp (O.own hp)
/-! reads -/
variable {α β γ : Type} {R : Rp α} {S : Rp β} {T : Rp γ}
theorem atI_of {vs : List V} {z : Int} {j : Nat} {w : V} (e : z = (j : Int)) (h : vs[j]? = some w) : atI vs z = some w := by
  rw [e]
  exact atI_nat h
theorem x_ixL {xs : List α} {z : Int} {j : Nat} {x : α} (O : Own H F m) (h : rList R F xs v) (e : z = (j : Int)) (hx : xs[j]? = some x) (k : ∀ w, R F x w → Q w H) : rIxL K v (.int z) H Q := by
  obtain ⟨a, vs, rfl, ha, r⟩ := h
  obtain ⟨w, hw, hr⟩ := r.get hx
  exact ⟨a, vs, z, w, rfl, rfl, .inl (.inl (O.frz ha)), atI_of e hw, k w hr⟩
theorem x_ixT {xs : List α} {z : Int} {j : Nat} {x : α} (O : Own H F m) (h : rTup R F xs v) (e : z = (j : Int)) (hx : xs[j]? = some x) (k : ∀ w, R F x w → Q w H) : rIxT K v (.int z) H Q := by
  obtain ⟨a, vs, rfl, ha, r⟩ := h
  obtain ⟨w, hw, hr⟩ := r.get hx
  exact ⟨a, vs, z, w, rfl, rfl, .inl (.inl (O.frz ha)), atI_of e hw, k w hr⟩
/-- a list of our own -/
theorem x_ixO {a : Addr} {vs : List V} {z : Int} {j : Nat} (O : Own H F ((a, .lst vs) :: m)) (e : z = (j : Int)) (hx : vs[j]? = some w) (k : Q w H) : rIxL K (.ref a) (.int z) H Q :=
  ⟨a, vs, z, w, rfl, rfl, .inl (.inl O.at0), atI_of e hx, k⟩
/-- the first, the second of a pair -/
theorem x_fst {p : α × β} (O : Own H F m) (h : rPair R S F p v) (k : ∀ w, R F p.1 w → Q w H) : rIxT K v (.int 0) H Q := by
  obtain ⟨a, u, w, rfl, ha, r, s⟩ := h
  exact ⟨a, [u, w], 0, u, rfl, rfl, .inl (.inl (O.frz ha)), rfl, k u r⟩
theorem x_snd {p : α × β} (O : Own H F m) (h : rPair R S F p v) (k : ∀ w, S F p.2 w → Q w H) : rIxT K v (.int 1) H Q := by
  obtain ⟨a, u, w, rfl, ha, r, s⟩ := h
  exact ⟨a, [u, w], 1, w, rfl, rfl, .inl (.inl (O.frz ha)), rfl, k w s⟩
theorem x_tri0 {p : α × β × γ} (O : Own H F m) (h : rTri R S T F p v) (k : ∀ w, R F p.1 w → Q w H) : rIxT K v (.int 0) H Q := by
  obtain ⟨a, u, w, z, rfl, ha, r, s, t⟩ := h
  exact ⟨a, [u, w, z], 0, u, rfl, rfl, .inl (.inl (O.frz ha)), rfl, k u r⟩
theorem x_tri1 {p : α × β × γ} (O : Own H F m) (h : rTri R S T F p v) (k : ∀ w, S F p.2.1 w → Q w H) : rIxT K v (.int 1) H Q := by
  obtain ⟨a, u, w, z, rfl, ha, r, s, t⟩ := h
  exact ⟨a, [u, w, z], 1, w, rfl, rfl, .inl (.inl (O.frz ha)), rfl, k w s⟩
theorem x_tri2 {p : α × β × γ} (O : Own H F m) (h : rTri R S T F p v) (k : ∀ w, T F p.2.2 w → Q w H) : rIxT K v (.int 2) H Q := by
  obtain ⟨a, u, w, z, rfl, ha, r, s, t⟩ := h
  exact ⟨a, [u, w, z], 2, z, rfl, rfl, .inl (.inl (O.frz ha)), rfl, k z t⟩
/-- a, b = e; for a, b in .. -/
theorem x_gcons {t : TG} {u : TGs} {r : List V} {Q : L2.St → Hp → Prop} (k : t v σ H fun σ' H' => u r σ' H' Q) : gCons t u (v :: r) σ H Q := ⟨v, r, rfl, k⟩
theorem x_gnil {Q : L2.St → Hp → Prop} (k : Q σ H) : gNil [] σ H Q := ⟨rfl, k⟩
theorem x_gpair {gs : TGs} {p : α × β} {Q : L2.St → Hp → Prop} (O : Own H F m) (h : rPair R S F p v) (k : ∀ a b, R F p.1 a → S F p.2 b → gs [a, b] σ H Q) : gTup K 2 gs v σ H Q := by
  obtain ⟨a, u, w, rfl, ha, r, s⟩ := h
  exact ⟨a, [u, w], rfl, .inl (.inl (O.frz ha)), rfl, k u w r s⟩
theorem x_gtri {gs : TGs} {p : α × β × γ} {Q : L2.St → Hp → Prop} (O : Own H F m) (h : rTri R S T F p v) (k : ∀ a b c, R F p.1 a → S F p.2.1 b → T F p.2.2 c → gs [a, b, c] σ H Q) : gTup K 3 gs v σ H Q := by
  obtain ⟨a, u, w, z, rfl, ha, r, s, t⟩ := h
  exact ⟨a, [u, w, z], rfl, .inl (.inl (O.frz ha)), rfl, k u w z r s t⟩
/-! len -/
def rLen (K : PySem.W.Frag) : List V → Hp → VK → Prop := fun xs H Q => ∃ p ys, xs = [.ref p] ∧ (SqL K H p ys ∨ SqT K H p ys) ∧ Q (.int ys.length) H
theorem cr_len {X : Cx} : CallR X (.builtin "len") (rLen X.K) := call_len_seq
theorem x_lenL {xs : List α} (O : Own H F m) (h : rList R F xs v) (k : Q (.int xs.length) H) : rLen K [v] H Q := by
  obtain ⟨a, vs, rfl, ha, r⟩ := h
  exact ⟨a, vs, rfl, .inl (.inl (.inl (O.frz ha))), by rw [← r.length]; exact k⟩
theorem x_lenT {xs : List α} (O : Own H F m) (h : rTup R F xs v) (k : Q (.int xs.length) H) : rLen K [v] H Q := by
  obtain ⟨a, vs, rfl, ha, r⟩ := h
  exact ⟨a, vs, rfl, .inr (.inl (.inl (O.frz ha))), by rw [← r.length]; exact k⟩
theorem x_lenS {xs : List α} (O : Own H F m) (h : rSeq R F xs v) (k : Q (.int xs.length) H) : rLen K [v] H Q := h.elim (fun h => x_lenL O h k) fun h => x_lenT O h k
theorem x_lenO {a : Addr} {vs : List V} (O : Own H F ((a, .lst vs) :: m)) (k : Q (.int vs.length) H) : rLen K [.ref a] H Q := ⟨a, vs, rfl, .inl (.inl (.inl O.at0)), k⟩
end
/-! ### built-ins, their readings by name -/
def rAbs : List V → Hp → VK → Prop := fun xs H Q => ∃ i, xs = [.int i] ∧ Q (.int (if i < 0 then -i else i)) H
theorem cr_abs {X : Cx} : CallR X (.builtin "abs") rAbs := call_abs
theorem x_abs {a : Int} {H : Hp} {Q : VK} (k : Q (.int (if a < 0 then -a else a)) H) : rAbs [.int a] H Q := ⟨a, rfl, k⟩
def rInt1 : List V → Hp → VK → Prop := fun xs H Q => (∃ i, xs = [.int i] ∧ Q (.int i) H) ∨ ∃ k, xs = [.bl k] ∧ Q (.int (if k then 1 else 0)) H
theorem cr_int {X : Cx} : CallR X (.type "int") rInt1 := call_int1
theorem x_int {a : Int} {H : Hp} {Q : VK} (k : Q (.int a) H) : rInt1 [.int a] H Q := .inl ⟨a, rfl, k⟩
theorem x_intB {b : Bool} {H : Hp} {Q : VK} (k : Q (.int (if b then 1 else 0)) H) : rInt1 [.bl b] H Q := .inr ⟨b, rfl, k⟩
def rMin2 : List V → Hp → VK → Prop := fun xs H Q => ∃ i j, xs = [.int i, .int j] ∧ Q (.int (if j < i then j else i)) H
theorem cr_min2 {X : Cx} (hc : X.calm = true) : CallR X (.builtin "min") rMin2 := call_min2 hc
theorem x_min2 {a b : Int} {H : Hp} {Q : VK} (k : Q (.int (if b < a then b else a)) H) : rMin2 [.int a, .int b] H Q := ⟨a, b, rfl, k⟩
def rMax2 : List V → Hp → VK → Prop := fun xs H Q => ∃ i j, xs = [.int i, .int j] ∧ Q (.int (if j > i then j else i)) H
theorem cr_max2 {X : Cx} (hc : X.calm = true) : CallR X (.builtin "max") rMax2 := call_max2 hc
theorem x_max2 {a b : Int} {H : Hp} {Q : VK} (k : Q (.int (if b > a then b else a)) H) : rMax2 [.int a, .int b] H Q := ⟨a, b, rfl, k⟩
def rIsNon : R2 := fun x y H Q => y = .non ∧ Q (.bl (decide (x = .non))) H
def rNotNon : R2 := fun x y H Q => y = .non ∧ Q (.bl (!decide (x = .non))) H
theorem op_isNon {X : Cx} : OpR X (compareOp .Is) rIsNon := op_isN
theorem op_notNon {X : Cx} : OpR X (compareOp .IsNot) rNotNon := op_notN
theorem x_isNon {v : V} {H : Hp} {Q : VK} (k : Q (.bl (decide (v = .non))) H) : rIsNon v .non H Q := ⟨rfl, k⟩
theorem x_notNon {v : V} {H : Hp} {Q : VK} (k : Q (.bl (!decide (v = .non))) H) : rNotNon v .non H Q := ⟨rfl, k⟩
/-- is True, is False: of any value -/
def rIsB : R2 := fun x y H Q => ∃ b, y = .bl b ∧ Q (.bl (decide (x = .bl b))) H
theorem op_isB {X : Cx} : OpR X (compareOp .Is) rIsB := by
  intro pins s σ H x y v u Q I rx ry h
  obtain ⟨b, rfl, q⟩ := h
  cases (show u = Value.bool b from ry)
  cases x with
  | bl a =>
    cases (show v = Value.bool a from rx)
    by_cases e : a = b
    · subst e
      exact wpAny_is_self rfl ⟨.bl true, H, I, rfl, by simpa using q⟩
    · exact wpAny_is_other rfl (fun z => e (Value.bool.inj z)) ⟨.bl false, H, I, rfl, by simpa [e] using q⟩
  | non =>
    cases (show v = Value.none from rx)
    exact wpAny_pure ⟨.bl false, H, I, rfl, by simpa using q⟩
  | int i =>
    obtain ⟨t, rfl⟩ := rx
    exact wpAny_pure ⟨.bl false, H, I, rfl, by simpa using q⟩
  | str i =>
    obtain ⟨t, rfl⟩ := rx
    exact wpAny_pure ⟨.bl false, H, I, rfl, by simpa using q⟩
  | byt i =>
    obtain ⟨t, rfl⟩ := rx
    exact wpAny_pure ⟨.bl false, H, I, rfl, by simpa using q⟩
  | flt i =>
    obtain ⟨t, rfl⟩ := rx
    exact wpAny_pure ⟨.bl false, H, I, rfl, by simpa using q⟩
  | ref a =>
    cases (show v = Value.ref a from rx)
    exact wpAny_pure ⟨.bl false, H, I, rfl, by simpa using q⟩
  | ty n =>
    cases (show v = Value.type n from rx)
    exact wpAny_pure ⟨.bl false, H, I, rfl, by simpa using q⟩
theorem x_isB {v : V} {b : Bool} {H : Hp} {Q : VK} (k : Q (.bl (decide (v = .bl b))) H) : rIsB v (.bl b) H Q := ⟨b, rfl, k⟩
/-- list(x) of a list or tuple; tuple(x) -/
def rListOf (K : PySem.W.Frag) : List V → Hp → VK → Prop := fun xs H Q => ∃ p ys, xs = [.ref p] ∧ (SqL K H p ys ∨ SqT K H p ys) ∧ ∀ l, H l = none → Q (.ref l) (upd H l (.lst ys))
theorem cr_list {X : Cx} : CallR X (.type "list") (rListOf X.K) := call_list_of
def rTupOf (K : PySem.W.Frag) : List V → Hp → VK → Prop := fun xs H Q => ∃ p ys, xs = [.ref p] ∧ ((SqL K H p ys ∧ ∀ l, H l = none → Q (.ref l) (upd H l (.tup ys))) ∨ (SqT K H p ys ∧ Q (.ref p) H))
theorem cr_tup {X : Cx} : CallR X (.type "tuple") (rTupOf X.K) := call_tuple_of
section
variable {K : PySem.W.Frag} {H F : Hp} {m : Mem} {v : V} {α : Type} {R : Rp α} {xs : List α} {Q : VK}
theorem x_listL [MonoS R] (O : Own H F m) (h : rList R F xs v) (k : ∀ w H' F', Same F F' → Own H' F' m → rList R F' xs w → Q w H') : rListOf K [v] H Q := by
  obtain ⟨a, vs, rfl, ha, r⟩ := h
  exact ⟨a, vs, rfl, .inl (.inl (.inl (O.frz ha))), fun l hl => k _ _ _ (same_new (O.fresh hl)) (O.new hl) ⟨l, vs, rfl, upd_same, all2_up (same_new (O.fresh hl)) r⟩⟩
theorem x_listT [MonoS R] (O : Own H F m) (h : rTup R F xs v) (k : ∀ w H' F', Same F F' → Own H' F' m → rList R F' xs w → Q w H') : rListOf K [v] H Q := by
  obtain ⟨a, vs, rfl, ha, r⟩ := h
  exact ⟨a, vs, rfl, .inr (.inl (.inl (O.frz ha))), fun l hl => k _ _ _ (same_new (O.fresh hl)) (O.new hl) ⟨l, vs, rfl, upd_same, all2_up (same_new (O.fresh hl)) r⟩⟩
theorem x_listS [MonoS R] (O : Own H F m) (h : rSeq R F xs v) (k : ∀ w H' F', Same F F' → Own H' F' m → rList R F' xs w → Q w H') : rListOf K [v] H Q := h.elim (fun h => x_listL O h k) fun h => x_listT O h k
theorem x_tupL [MonoS R] (O : Own H F m) (h : rList R F xs v) (k : ∀ w H' F', Same F F' → Own H' F' m → rTup R F' xs w → Q w H') : rTupOf K [v] H Q := by
  obtain ⟨a, vs, rfl, ha, r⟩ := h
  exact ⟨a, vs, rfl, .inl ⟨.inl (.inl (O.frz ha)), fun l hl => k _ _ _ (same_new (O.fresh hl)) (O.new hl) ⟨l, vs, rfl, upd_same, all2_up (same_new (O.fresh hl)) r⟩⟩⟩
theorem x_tupT (O : Own H F m) (h : rTup R F xs v) (k : Q v H) : rTupOf K [v] H Q := by
  obtain ⟨a, vs, rfl, ha, r⟩ := h
  exact ⟨a, vs, rfl, .inr ⟨.inl (.inl (O.frz ha)), k⟩⟩
/-- xs + ys -/
theorem x_cat {ys : List α} {w : V} [MonoS R] (O : Own H F m) (h : rList R F xs v) (h2 : rList R F ys w) (hl : xs.length + ys.length ≤ 16777216) (k : ∀ w H' F', Same F F' → Own H' F' m → rList R F' (xs ++ ys) w → Q w H') : rCat v w H Q := by
  obtain ⟨a, vs, rfl, ha, r⟩ := h
  obtain ⟨b, us, rfl, hb, r2⟩ := h2
  exact ⟨a, b, vs, us, rfl, rfl, O.frz ha, O.frz hb, by rw [← r.length, ← r2.length, sizeLine_eq]; exact hl, fun l hl => k _ _ _ (same_new (O.fresh hl)) (O.new hl) ⟨l, _, rfl, upd_same, (all2_up (same_new (O.fresh hl)) r).app (all2_up (same_new (O.fresh hl)) r2)⟩⟩
/-- [x] * n -/
theorem x_rep1 {x : α} {z : Int} {n : Nat} [MonoS R] (O : Own H F m) (h : rList R F [x] v) (hz : z = (n : Int)) (hl : n ≤ 16777216) (k : ∀ w H' F' vs, H w = none → Same F F' → Own H' F' ((w, .lst vs) :: m) → All2 (R F') (List.replicate n x) vs → Q (.ref w) H') : rRep v (.int z) H Q := by
  obtain ⟨a, vs, rfl, ha, r⟩ := h
  cases r with
  | cons r t =>
    cases t
    rename_i w
    subst hz
    refine ⟨a, (n : Int), [w], rfl, rfl, O.frz ha, by omega, by omega, by rw [sizeLine_eq]; simpa using hl, fun l hl => ?_⟩
    refine k l _ F (List.replicate n w) hl (Same.refl F) ?_ (All2.rep r n)
    have e : (List.replicate (n : Int).toNat [w]).flatten = List.replicate n w := by simp
    first
      | (rw [e]; exact O.own hl)
      | exact O.own hl
end
/-! ### methods, truth, keywords, displays -/
def MQ (C : Addr) (nm : Str) (sp : Sp) (E : XK) (t : TA) (σ : L2.St) (Q : VK) : VK := fun x H1 => ∃ a dx fs, x = .ref a ∧ H1 a = some (.ins C dx fs) ∧ fs.lookup nm = none ∧ t σ H1 fun vs H2 => sp (x :: (vs ++ [])) H2 Q E
theorem x_meth {C : Addr} {nm : Str} {sp : Sp} {E : XK} {ta : TE} {t : TA} {σ : L2.St} {H : Hp} {Q : VK} (k : ta σ H (MQ C nm sp E t σ Q)) : tMeth C nm sp [] E ta t σ H Q := k
theorem mq_of {C a dx : Addr} {nm : Str} {sp : Sp} {E : XK} {t : TA} {σ : L2.St} {H : Hp} {Q : VK} {fs : List (Str × V)} (h : H a = some (.ins C dx fs)) (l : fs.lookup nm = none) (k : t σ H fun vs H2 => sp (.ref a :: vs) H2 Q E) : MQ C nm sp E t σ Q (.ref a) H := by
  refine ⟨a, dx, fs, rfl, h, l, ?_⟩
  have e : (fun vs H2 => sp (.ref a :: (vs ++ [])) H2 Q E) = fun vs H2 => sp (.ref a :: vs) H2 Q E := by
    funext vs H2
    rw [List.append_nil]
  rw [e]
  exact k
def TQ (K : PySem.W.Frag) (Q : Bool → Hp → Prop) : VK := fun x H' => ∃ k, TruV K x H' k ∧ Q k H'
def tTru (K : PySem.W.Frag) (ta : TE) : TT := fun σ H Q => ta σ H (TQ K Q)
theorem pt_tru {X : Cx} {a : Expr} {ta : TE} (ha : PE X a ta) (he : ∀ whole, isTrue a X.env whole = (do let v ← whole; standAt a.pos; holding [v] (truthy v))) : PT X a (tTru X.K ta) := pt_truth ha he
theorem x_tru {K : PySem.W.Frag} {ta : TE} {σ : L2.St} {H : Hp} {Q : Bool → Hp → Prop} (k : ta σ H (TQ K Q)) : tTru K ta σ H Q := k
theorem tq_list {K : PySem.W.Frag} {a : Addr} {vs : List V} {H : Hp} {Q : Bool → Hp → Prop} (h : H a = some (.lst vs)) (k : Q (!vs.isEmpty) H) : TQ K Q (.ref a) H := ⟨_, .inl ⟨vs, .inl (.inl h), rfl⟩, k⟩
theorem x_ckw {r : List V → List V → Hp → VK → Prop} {t tk : TA} {σ : L2.St} {H : Hp} {Q : VK} (k : t σ H fun vs H1 => tk σ H1 fun zs H2 => r vs zs H2 Q) : tCKw r t tk σ H Q := k
/-- {a: b} of two ints -/
theorem x_disp1 {a b : Int} {σ : L2.St} {H F : Hp} {m : Mem} {Q : VK} (O : Own H F m) (k : ∀ p H', H p = none → Own H' F ((p, .dK [(Sum.inl a, .int b)]) :: m) → Q (.ref p) H') : tDisp [(tC (.int a), tC (.int b))] σ H Q := fun p hp =>
  show _ ∧ _ from ⟨upd_same, [(Sum.inl a, .int b)], rfl, by show 1 ≤ 15; decide, by
    rw [upd_upd]
    exact k p _ hp (O.own hp)⟩
/-- a list, a dict that is made: of our own -/
theorem x_dnew {σ : L2.St} {H F : Hp} {m : Mem} {Q : VK} (O : Own H F m) (k : ∀ p H', H p = none → Own H' F ((p, .dK []) :: m) → Q (.ref p) H') : tDNewK σ H Q := fun p hp => k p _ hp (O.own hp)
/-! ### ways that meet -/
def tCut (t u : TS) : TS := fun D σ H => ∃ Mid : L2.St → Hp → Prop, t { D with nx := Mid } σ H ∧ ∀ σ' H', Mid σ' H' → u D σ' H'
theorem pss_cut {X : Cx} {st : Stmt} {rest : List Stmt} {t u : TS} (h1 : PS X st t) (h2 : PSs X rest u) : PSs X (st :: rest) (tCut t u) := by
  refine ⟨fun pins s σ H D I h => ?_⟩
  obtain ⟨Mid, hm, hu⟩ := h
  refine wpAny_execs_cons (thn (h1.run pins s σ H { D with nx := Mid } I hm) fun f s1 q => ?_)
  cases f with
  | next =>
    obtain ⟨σ', H', I', q⟩ := q
    exact h2.run pins s1 σ' H' D I' (hu σ' H' q)
  | ret v => exact q
  | brk => exact q
  | cont => exact q
theorem x_cut {t u : TS} {D : Ends} {σ : L2.St} {H : Hp} (Mid : L2.St → Hp → Prop) (k : t { D with nx := Mid } σ H) (k2 : ∀ σ' H', Mid σ' H' → u D σ' H') : tCut t u D σ H := ⟨Mid, k, k2⟩
/-! ### loops -/
/-- what a loop's word says at a heap: F has grown, the cells are m', P holds -/
def LI (P : Nat → L2.St → Hp → Mem → Prop) (F : Hp) (i : Nat) : L2.St → Hp → Prop := fun σ H => ∃ F' m', Same F F' ∧ Own H F' m' ∧ P i σ F' m'
theorem LI.mk {P : Nat → L2.St → Hp → Mem → Prop} {F F' H : Hp} {m' : Mem} {i : Nat} {σ : L2.St} (s : Same F F') (O : Own H F' m') (p : P i σ F' m') : LI P F i σ H := ⟨F', m', s, O, p⟩
def ForW (J : It) (g : TG) (tb : TS) (D : Ends) (σ : L2.St) (H : Hp) : Prop := ∃ W : Nat → Nat → L2.St → Hp → Prop, (∃ m, W 0 m σ H) ∧ ∀ i m σ H, W i m σ H →
  (J.stop i H ∧ D.nx σ H) ∨ (J.go i H ∧ ∃ N : L2.St → Hp → Prop, (∀ σ' H', N σ' H' → ∃ m', m' < m ∧ W (i + 1) m' σ' H') ∧ ∀ x H', J.yld i H x H' → g x σ H' fun σ2 H2 => tb { D with nx := N, ct := N, bk := D.nx } σ2 H2)
def FL (K : PySem.W.Frag) (g : TG) (tb : TS) (D : Ends) (σ : L2.St) : VK := fun v H1 => ∃ a, v = .ref a ∧ (∃ xs, SqL K H1 a xs) ∧ ForW (Itl K a) g tb D σ H1
def FT (K : PySem.W.Frag) (g : TG) (tb : TS) (D : Ends) (σ : L2.St) : VK := fun v H1 => ∃ a, v = .ref a ∧ (∃ xs, SqT K H1 a xs) ∧ ForW (Itt K a) g tb D σ H1
section
variable {K : PySem.W.Frag} {σ : L2.St} {H F : Hp} {m : Mem} {D : Ends} {tb : TS} {g : TG} {v : V} {tl : TE} {ta : TA} {α : Type} {R : Rp α} {xs : List α}
theorem x_forL (k : tl σ H (FL K g tb D σ)) : tFor (iList K tl) g tb D σ H := k
theorem x_forT (k : tl σ H (FT K g tb D σ)) : tFor (iTup K tl) g tb D σ H := k
theorem x_doL [MonoS R] (O : Own H F m) (h : rList R F xs v) (P : Nat → L2.St → Hp → Mem → Prop) (h0 : P 0 σ F m)
    (hs : ∀ i x w σ' H' F' m', xs[i]? = some x → R F' x w → Same F F' → Own H' F' m' → P i σ' F' m' → g w σ' H' fun σ2 H2 => tb { D with nx := LI P F (i + 1), ct := LI P F (i + 1), bk := D.nx } σ2 H2)
    (hd : ∀ σ' H' F' m', Same F F' → Own H' F' m' → P xs.length σ' F' m' → D.nx σ' H') : FL K g tb D σ v H := by
  obtain ⟨a, vs, rfl, ha, r⟩ := h
  refine ⟨a, rfl, ⟨vs, .inl (.inl (O.frz ha))⟩, for_list (LI P F) ⟨F, m, Same.refl F, O, h0⟩ (fun i σ' H' _ ⟨F', m', s, O', _⟩ => .inl (.inl (O'.frz (s _ _ ha)))) (fun i w σ' H' hi ⟨F', m', s, O', p⟩ => ?_) fun σ' H' ⟨F', m', s, O', p⟩ => hd σ' H' F' m' s O' (by rw [r.length]; exact p)⟩
  obtain ⟨x, hx, hr⟩ := r.get' hi
  exact hs i x w σ' H' F' m' hx (up s hr) s O' p
theorem x_doT [MonoS R] (O : Own H F m) (h : rTup R F xs v) (P : Nat → L2.St → Hp → Mem → Prop) (h0 : P 0 σ F m)
    (hs : ∀ i x w σ' H' F' m', xs[i]? = some x → R F' x w → Same F F' → Own H' F' m' → P i σ' F' m' → g w σ' H' fun σ2 H2 => tb { D with nx := LI P F (i + 1), ct := LI P F (i + 1), bk := D.nx } σ2 H2)
    (hd : ∀ σ' H' F' m', Same F F' → Own H' F' m' → P xs.length σ' F' m' → D.nx σ' H') : FT K g tb D σ v H := by
  obtain ⟨a, vs, rfl, ha, r⟩ := h
  refine ⟨a, rfl, ⟨vs, .inl (.inl (O.frz ha))⟩, for_tup (LI P F) ⟨F, m, Same.refl F, O, h0⟩ (fun i σ' H' _ ⟨F', m', s, O', _⟩ => .inl (.inl (O'.frz (s _ _ ha)))) (fun i w σ' H' hi ⟨F', m', s, O', p⟩ => ?_) fun σ' H' ⟨F', m', s, O', p⟩ => hd σ' H' F' m' s O' (by rw [r.length]; exact p)⟩
  obtain ⟨x, hx, hr⟩ := r.get' hi
  exact hs i x w σ' H' F' m' hx (up s hr) s O' p
/-- range -/
def FR1 (g : TG) (tb : TS) (D : Ends) (σ : L2.St) : List V → Hp → Prop := fun vs H1 => ∃ j : Int, vs = [.int j] ∧ -(2 ^ 62) ≤ j ∧ j < 2 ^ 62 ∧ ForW (Itr 0 j.toNat) g tb D σ H1
def FR2 (g : TG) (tb : TS) (D : Ends) (σ : L2.St) : List V → Hp → Prop := fun vs H1 => ∃ i j : Int, vs = [.int i, .int j] ∧ (-(2 ^ 62) ≤ i ∧ i < 2 ^ 62 ∧ -(2 ^ 62) ≤ j ∧ j < 2 ^ 62) ∧ ForW (Itr i (j - i).toNat) g tb D σ H1
def FR3 (g : TG) (tb : TS) (D : Ends) (σ : L2.St) : List V → Hp → Prop := fun vs H1 => ∃ (i j c : Int) (n : Nat), vs = [.int i, .int j, .int c] ∧ RgC i j c n ∧ ForW (Itc i c n) g tb D σ H1
theorem x_forR1 (k : ta σ H (FR1 g tb D σ)) : tFor (iRng1 ta) g tb D σ H := k
theorem x_forR2 (k : ta σ H (FR2 g tb D σ)) : tFor (iRng2 ta) g tb D σ H := k
theorem x_forR3 (k : ta σ H (FR3 g tb D σ)) : tFor (iRng3 ta) g tb D σ H := k
theorem x_doR1 {z : Int} {n : Nat} (O : Own H F m) (hz : z.toNat = n) (h1 : -(2 ^ 62) ≤ z) (h2 : z < 2 ^ 62) (P : Nat → L2.St → Hp → Mem → Prop) (h0 : P 0 σ F m)
    (hs : ∀ i σ' H' F' m', i < n → Same F F' → Own H' F' m' → P i σ' F' m' → g (.int (i : Int)) σ' H' fun σ2 H2 => tb { D with nx := LI P F (i + 1), ct := LI P F (i + 1), bk := D.nx } σ2 H2)
    (hd : ∀ σ' H' F' m', Same F F' → Own H' F' m' → P n σ' F' m' → D.nx σ' H') : FR1 g tb D σ [.int z] H := by
  subst hz
  refine ⟨z, rfl, h1, h2, for_range (LI P F) ⟨F, m, Same.refl F, O, h0⟩ (fun i σ' H' hi ⟨F', m', s, O', p⟩ => ?_) fun σ' H' ⟨F', m', s, O', p⟩ => hd σ' H' F' m' s O' p⟩
  rw [Int.zero_add]
  exact hs i σ' H' F' m' hi s O' p
theorem x_doR2 {lo z : Int} {n : Nat} (O : Own H F m) (hz : (z - lo).toNat = n) (hb : -(2 ^ 62) ≤ lo ∧ lo < 2 ^ 62 ∧ -(2 ^ 62) ≤ z ∧ z < 2 ^ 62) (P : Nat → L2.St → Hp → Mem → Prop) (h0 : P 0 σ F m)
    (hs : ∀ i σ' H' F' m', i < n → Same F F' → Own H' F' m' → P i σ' F' m' → g (.int (lo + (i : Int))) σ' H' fun σ2 H2 => tb { D with nx := LI P F (i + 1), ct := LI P F (i + 1), bk := D.nx } σ2 H2)
    (hd : ∀ σ' H' F' m', Same F F' → Own H' F' m' → P n σ' F' m' → D.nx σ' H') : FR2 g tb D σ [.int lo, .int z] H := by
  subst hz
  exact ⟨lo, z, rfl, hb, for_range (LI P F) ⟨F, m, Same.refl F, O, h0⟩ (fun i σ' H' hi ⟨F', m', s, O', p⟩ => hs i σ' H' F' m' hi s O' p) fun σ' H' ⟨F', m', s, O', p⟩ => hd σ' H' F' m' s O' p⟩
/-- range(n - 1, -1, -1) -/
theorem x_doDown {n : Nat} {lo : Int} (O : Own H F m) (hn : lo = (n : Int) - 1) (hb : n < 2 ^ 61) (P : Nat → L2.St → Hp → Mem → Prop) (h0 : P 0 σ F m)
    (hs : ∀ i j σ' H' F' m', i + j + 1 = n → Same F F' → Own H' F' m' → P i σ' F' m' → g (.int (j : Int)) σ' H' fun σ2 H2 => tb { D with nx := LI P F (i + 1), ct := LI P F (i + 1), bk := D.nx } σ2 H2)
    (hd : ∀ σ' H' F' m', Same F F' → Own H' F' m' → P n σ' F' m' → D.nx σ' H') : FR3 g tb D σ [.int lo, .int (-1), .int (-1)] H := by
  subst hn
  refine ⟨(n : Int) - 1, -1, -1, n, rfl, ?_, for_rangeC (LI P F) ⟨F, m, Same.refl F, O, h0⟩ (fun i σ' H' hi ⟨F', m', s, O', p⟩ => ?_) fun σ' H' ⟨F', m', s, O', p⟩ => hd σ' H' F' m' s O' p⟩
  · have e := RgC.neg (i := (n : Int) - 1) (j := -1) (by omega) (by omega) (by omega) (by omega)
    have e2 : ((n : Int) - 1 - -1).toNat = n := by omega
    rw [e2] at e
    exact e
  · obtain ⟨j, hj⟩ : ∃ j, i + j + 1 = n := ⟨n - 1 - i, by omega⟩
    have e : (n : Int) - 1 + (i : Nat) * -1 = (j : Int) := by omega
    rw [e]
    exact hs i j σ' H' F' m' hj s O' p
/-- while, a word with a falling number -/
theorem x_while {c : TT} (O : Own H F m) (P : Nat → L2.St → Hp → Mem → Prop) (n0 : Nat) (h0 : P n0 σ F m)
    (hs : ∀ n σ' H' F' m', Same F F' → Own H' F' m' → P n σ' F' m' → c σ' H' fun b H1 => if b = true then ∃ N : L2.St → Hp → Prop, (∀ σ2 H2, N σ2 H2 → ∃ k, k < n ∧ LI P F k σ2 H2) ∧ tb { D with nx := N, ct := N, bk := D.nx } σ' H1 else D.nx σ' H1) : tWhile c tb D σ H :=
  ⟨LI P F, ⟨n0, F, m, Same.refl F, O, h0⟩, fun n σ' H' ⟨F', m', s, O', p⟩ => hs n σ' H' F' m' s O' p⟩
end
/-! ### list comprehensions -/
/-- the word of a comprehension: D holds acc, which stands for ys -/
def LcP {β : Type} (S : Rp β) (P : Nat → Hp → Mem → List β → Prop) (F : Hp) (D : Addr) (i : Nat) (H : Hp) : Prop :=
  ∃ F' m' acc ys, Same F F' ∧ Own H F' ((D, .lst acc) :: m') ∧ All2 (S F') ys acc ∧ ys.length ≤ i ∧ P i F' m' ys
def LcW (J : It) (g : TG) (tt : TT) (te : TE) (vs : List Nat) (σ : L2.St) (Q : VK) (H1 : Hp) : Prop := ∀ D, H1 D = none → ∃ W : Nat → Nat → Hp → Prop, (∃ m, W 0 m (upd H1 D (.lst []))) ∧ ∀ i m H, W i m H →
  (J.stop i H ∧ Q (.ref D) H) ∨ (J.go i H ∧ ∃ Nx : Hp → Prop, (∀ H', Nx H' → ∃ m', m' < m ∧ W (i + 1) m' H') ∧ ∀ x H', J.yld i H x H' → g x (wipe σ vs) H' fun σ2 H2 => wipe σ2 vs = wipe σ vs ∧ tt σ2 H2 fun b H3 =>
    if b = true then te σ2 H3 fun y H4 => ∃ acc, H4 D = some (.lst acc) ∧ acc.length < sizeLine ∧ Nx (upd H4 D (.lst (acc ++ [y]))) else Nx H3)
def CL (K : PySem.W.Frag) (g : TG) (tt : TT) (te : TE) (vs : List Nat) (σ : L2.St) (Q : VK) : VK := fun v H1 => ∃ a, v = .ref a ∧ (∃ xs, SqL K H1 a xs) ∧ LcW (Itl K a) g tt te vs σ Q H1
def CT (K : PySem.W.Frag) (g : TG) (tt : TT) (te : TE) (vs : List Nat) (σ : L2.St) (Q : VK) : VK := fun v H1 => ∃ a, v = .ref a ∧ (∃ xs, SqT K H1 a xs) ∧ LcW (Itt K a) g tt te vs σ Q H1
def CR1 (g : TG) (tt : TT) (te : TE) (vs : List Nat) (σ : L2.St) (Q : VK) : List V → Hp → Prop := fun us H1 => ∃ j : Int, us = [.int j] ∧ -(2 ^ 62) ≤ j ∧ j < 2 ^ 62 ∧ LcW (Itr 0 j.toNat) g tt te vs σ Q H1
section
variable {K : PySem.W.Frag} {σ : L2.St} {H F : Hp} {m : Mem} {g : TG} {tt : TT} {te : TE} {vs : List Nat} {v : V} {tl : TE} {ta : TA} {α β : Type} {R : Rp α} {S : Rp β} {xs : List α} {Q : VK}
theorem x_lcL (k : tl σ H (CL K g tt te vs σ Q)) : tLc (iList K tl) g tt te vs σ H Q := k
theorem x_lcT (k : tl σ H (CT K g tt te vs σ Q)) : tLc (iTup K tl) g tt te vs σ H Q := k
theorem x_lcR1 (k : ta σ H (CR1 g tt te vs σ Q)) : tLc (iRng1 ta) g tt te vs σ H Q := k
theorem x_yes {Q : Bool → Hp → Prop} (k : Q true H) : tYes σ H Q := k
/-- an item is kept -/
theorem x_keep {P : Nat → Hp → Mem → List β → Prop} {F0 F4 H4 : Hp} {D : Addr} {acc : List V} {m4 : Mem} {ys : List β} {z : β} {y : V} {i : Nat} (O : Own H4 F4 ((D, .lst acc) :: m4)) (s : Same F0 F4) (hz : S F4 z y) (ha : All2 (S F4) ys acc) (hl : ys.length ≤ i) (hi : i < 16777216)
    (p : P (i + 1) F4 m4 (ys ++ [z])) : ∃ acc, H4 D = some (.lst acc) ∧ acc.length < sizeLine ∧ LcP S P F0 D (i + 1) (upd H4 D (.lst (acc ++ [y]))) :=
  ⟨acc, O.at0, by rw [← ha.length, sizeLine_eq]; omega, F4, m4, acc ++ [y], ys ++ [z], s, O.set _, ha.snoc hz, by rw [List.length_append, List.length_singleton]; omega, p⟩
theorem x_skip {P : Nat → Hp → Mem → List β → Prop} {F0 F4 H4 : Hp} {D : Addr} {acc : List V} {m4 : Mem} {ys : List β} {i : Nat} (O : Own H4 F4 ((D, .lst acc) :: m4)) (s : Same F0 F4) (ha : All2 (S F4) ys acc) (hl : ys.length ≤ i) (p : P (i + 1) F4 m4 ys) : LcP S P F0 D (i + 1) H4 :=
  ⟨F4, m4, acc, ys, s, O, ha, Nat.le_succ_of_le hl, p⟩
theorem x_docL [MonoS R] [MonoS S] (O : Own H F m) (h : rList R F xs v) (P : Nat → Hp → Mem → List β → Prop) (h0 : P 0 F m [])
    (hs : ∀ D acc i x w H' F' m' ys, xs[i]? = some x → R F' x w → Same F F' → Own H' F' ((D, .lst acc) :: m') → All2 (S F') ys acc → ys.length ≤ i → P i F' m' ys →
      g w (wipe σ vs) H' fun σ2 H2 => wipe σ2 vs = wipe σ vs ∧ tt σ2 H2 fun b H3 => if b = true then te σ2 H3 fun y H4 => ∃ acc, H4 D = some (.lst acc) ∧ acc.length < sizeLine ∧ LcP S P F D (i + 1) (upd H4 D (.lst (acc ++ [y]))) else LcP S P F D (i + 1) H3)
    (hd : ∀ v' H' F' m' ys, Same F F' → Own H' F' m' → rList S F' ys v' → P xs.length F' m' ys → Q v' H') (hP : ∀ F1 F2 m1 ys i, Same F1 F2 → P i F1 m1 ys → P i F2 m1 ys := by exact fun _ _ _ _ _ _ h => h) : CL K g tt te vs σ Q v H := by
  obtain ⟨a, us, rfl, ha, r⟩ := h
  refine ⟨a, rfl, ⟨us, .inl (.inl (O.frz ha))⟩, fun D hD => lc_list (LcP S P F D) ⟨F, m, [], [], Same.refl F, O.own hD, .nil, Nat.zero_le _, h0⟩ (fun i H' _ ⟨F', m', _, _, s, O', _⟩ => .inl (.inl (O'.frz (s _ _ ha)))) (fun i w H' hi ⟨F', m', acc, ys, s, O', hy, hl, p⟩ => ?_) fun H' ⟨F', m', acc, ys, s, O', hy, hl, p⟩ => ?_⟩
  · obtain ⟨x, hx, hr⟩ := r.get' hi
    exact hs D acc i x w H' F' m' ys hx (up s hr) s O' hy hl p
  · have s2 := O'.freeze_same
    exact hd (.ref D) H' (upd F' D (.lst acc)) m' ys (s.trans s2) O'.freeze ⟨D, acc, rfl, upd_same, all2_up s2 hy⟩ (hP _ _ _ _ _ s2 (by rw [r.length]; exact p))
theorem x_docT [MonoS R] [MonoS S] (O : Own H F m) (h : rTup R F xs v) (P : Nat → Hp → Mem → List β → Prop) (h0 : P 0 F m [])
    (hs : ∀ D acc i x w H' F' m' ys, xs[i]? = some x → R F' x w → Same F F' → Own H' F' ((D, .lst acc) :: m') → All2 (S F') ys acc → ys.length ≤ i → P i F' m' ys →
      g w (wipe σ vs) H' fun σ2 H2 => wipe σ2 vs = wipe σ vs ∧ tt σ2 H2 fun b H3 => if b = true then te σ2 H3 fun y H4 => ∃ acc, H4 D = some (.lst acc) ∧ acc.length < sizeLine ∧ LcP S P F D (i + 1) (upd H4 D (.lst (acc ++ [y]))) else LcP S P F D (i + 1) H3)
    (hd : ∀ v' H' F' m' ys, Same F F' → Own H' F' m' → rList S F' ys v' → P xs.length F' m' ys → Q v' H') (hP : ∀ F1 F2 m1 ys i, Same F1 F2 → P i F1 m1 ys → P i F2 m1 ys := by exact fun _ _ _ _ _ _ h => h) : CT K g tt te vs σ Q v H := by
  obtain ⟨a, us, rfl, ha, r⟩ := h
  refine ⟨a, rfl, ⟨us, .inl (.inl (O.frz ha))⟩, fun D hD => lc_tup (LcP S P F D) ⟨F, m, [], [], Same.refl F, O.own hD, .nil, Nat.zero_le _, h0⟩ (fun i H' _ ⟨F', m', _, _, s, O', _⟩ => .inl (.inl (O'.frz (s _ _ ha)))) (fun i w H' hi ⟨F', m', acc, ys, s, O', hy, hl, p⟩ => ?_) fun H' ⟨F', m', acc, ys, s, O', hy, hl, p⟩ => ?_⟩
  · obtain ⟨x, hx, hr⟩ := r.get' hi
    exact hs D acc i x w H' F' m' ys hx (up s hr) s O' hy hl p
  · have s2 := O'.freeze_same
    exact hd (.ref D) H' (upd F' D (.lst acc)) m' ys (s.trans s2) O'.freeze ⟨D, acc, rfl, upd_same, all2_up s2 hy⟩ (hP _ _ _ _ _ s2 (by rw [r.length]; exact p))
theorem x_docR1 [MonoS S] {z : Int} {n : Nat} (O : Own H F m) (hz : z.toNat = n) (h1 : -(2 ^ 62) ≤ z) (h2 : z < 2 ^ 62) (P : Nat → Hp → Mem → List β → Prop) (h0 : P 0 F m [])
    (hs : ∀ D acc i H' F' m' ys, i < n → Same F F' → Own H' F' ((D, .lst acc) :: m') → All2 (S F') ys acc → ys.length ≤ i → P i F' m' ys →
      g (.int (i : Int)) (wipe σ vs) H' fun σ2 H2 => wipe σ2 vs = wipe σ vs ∧ tt σ2 H2 fun b H3 => if b = true then te σ2 H3 fun y H4 => ∃ acc, H4 D = some (.lst acc) ∧ acc.length < sizeLine ∧ LcP S P F D (i + 1) (upd H4 D (.lst (acc ++ [y]))) else LcP S P F D (i + 1) H3)
    (hd : ∀ v' H' F' m' ys, Same F F' → Own H' F' m' → rList S F' ys v' → P n F' m' ys → Q v' H') (hP : ∀ F1 F2 m1 ys i, Same F1 F2 → P i F1 m1 ys → P i F2 m1 ys := by exact fun _ _ _ _ _ _ h => h) : CR1 g tt te vs σ Q [.int z] H := by
  subst hz
  refine ⟨z, rfl, h1, h2, fun D hD => lc_range (LcP S P F D) ⟨F, m, [], [], Same.refl F, O.own hD, .nil, Nat.zero_le _, h0⟩ (fun i H' hi ⟨F', m', acc, ys, s, O', hy, hl, p⟩ => ?_) fun H' ⟨F', m', acc, ys, s, O', hy, hl, p⟩ => ?_⟩
  · rw [Int.zero_add]
    exact hs D acc i H' F' m' ys hi s O' hy hl p
  · have s2 := O'.freeze_same
    exact hd (.ref D) H' (upd F' D (.lst acc)) m' ys (s.trans s2) O'.freeze ⟨D, acc, rfl, upd_same, all2_up s2 hy⟩ (hP _ _ _ _ _ s2 p)
end
/-! ### dicts -/
section
variable {K : PySem.W.Frag} {σ : L2.St} {H F : Hp} {m : Mem} {D : Ends} {v : V} {td ty tv : TE} {α : Type} {R : Rp α} {d : List (Int × α)} {Q : VK} {z : Int}
/-- what is asked of the dict x at the key y -/
def DGQ (x y : V) (Q : VK) (H : Hp) : Prop := ∃ a v, x = .ref a ∧ DGet H a y (some v) ∧ Q v H
def DIQ (x y : V) (Q : Bool → Hp → Prop) (H : Hp) : Prop := ∃ a o, x = .ref a ∧ DGet H a y o ∧ Q o.isSome H
def DPQ (x y v : V) (R : Hp → Prop) (H : Hp) : Prop := ∃ a H4, x = .ref a ∧ DPut H a y v H4 ∧ R H4
theorem x_dget (k : td σ H fun x H1 => ty σ H1 fun y H2 => DGQ x y Q H2) : tDGet td ty σ H Q := k
theorem x_din (k : ty σ H fun y H1 => td σ H1 fun x H2 => DIQ x y (fun b H3 => Q (.bl b) H3) H2) : tDIn ty td σ H Q := k
theorem x_dnotin (k : ty σ H fun y H1 => td σ H1 fun x H2 => DIQ x y (fun b H3 => Q (.bl (!b)) H3) H2) : tDNotIn ty td σ H Q := k
theorem x_dput (k : tv σ H fun v H1 => td σ H1 fun x H2 => ty σ H2 fun y H3 => DPQ x y v (D.nx σ) H3) : sDPut td ty tv D σ H := k
theorem rd_own (O : Own H F m) {a : Addr} {u : HO} (h : Rd F a u) : Rd H a u := rd_same O.sub h
/-- a frozen dict is read -/
theorem x_dgetF {x : α} (O : Own H F m) (h : rDict R F d v) (e : Tf.getD d z = some x) (k : ∀ w, R F x w → Q w H) : DGQ v (.int z) Q H := by
  obtain ⟨a, kvs, rfl, ha, hk⟩ := h
  rcases hk.get z with ⟨e1, _⟩ | ⟨y, w, e1, e2, hr⟩
  · rw [e] at e1
    cases e1
  · rw [e] at e1
    cases e1
    exact ⟨a, w, rfl, .inl ⟨kvs, .inl z, rd_own O ha, rfl, e2.symm⟩, k w hr⟩
theorem x_dinF {Q : Bool → Hp → Prop} (O : Own H F m) (h : rDict R F d v) (k : Q (Tf.getD d z).isSome H) : DIQ v (.int z) Q H := by
  obtain ⟨a, kvs, rfl, ha, hk⟩ := h
  refine ⟨a, _, rfl, .inl ⟨kvs, .inl z, rd_own O ha, rfl, rfl⟩, ?_⟩
  rcases hk.get z with ⟨e1, e2⟩ | ⟨y, w, e1, e2, hr⟩
  · rw [e2]
    rw [e1] at k
    exact k
  · rw [e2]
    rw [e1] at k
    exact k
/-- a dict of our own is read, stored into -/
theorem x_dgetO {x : α} {a : Addr} {kvs : List (Key × V)} (O : Own H F ((a, .dK kvs) :: m)) (hk : kvR R F d kvs) (e : Tf.getD d z = some x) (k : ∀ w, R F x w → Q w H) : DGQ (.ref a) (.int z) Q H := by
  rcases hk.get z with ⟨e1, _⟩ | ⟨y, w, e1, e2, hr⟩
  · rw [e] at e1
    cases e1
  · rw [e] at e1
    cases e1
    exact ⟨a, w, rfl, .inl ⟨kvs, .inl z, .inl O.at0, rfl, e2.symm⟩, k w hr⟩
theorem x_dinO {Q : Bool → Hp → Prop} {a : Addr} {kvs : List (Key × V)} (O : Own H F ((a, .dK kvs) :: m)) (hk : kvR R F d kvs) (k : Q (Tf.getD d z).isSome H) : DIQ (.ref a) (.int z) Q H := by
  refine ⟨a, _, rfl, .inl ⟨kvs, .inl z, .inl O.at0, rfl, rfl⟩, ?_⟩
  rcases hk.get z with ⟨e1, e2⟩ | ⟨y, w, e1, e2, hr⟩
  · rw [e2]
    rw [e1] at k
    exact k
  · rw [e2]
    rw [e1] at k
    exact k
theorem kvR.len {kvs : List (Key × V)} (hk : kvR R F d kvs) : kvs.length = d.length := (All2.length hk).symm
theorem x_dputO {x : α} {a : Addr} {kvs : List (Key × V)} {Q : Hp → Prop} (O : Own H F ((a, .dK kvs) :: m)) (hk : kvR R F d kvs) (hv : R F x v) (hl : d.length < 16777216)
    (k : ∀ kvs' H', kvR R F (putD d z x) kvs' → Own H' F ((a, .dK kvs') :: m) → Q H') : DPQ (.ref a) (.int z) v Q H :=
  ⟨a, _, rfl, .inl ⟨kvs, .inl z, O.at0, rfl, by rw [hk.len, sizeLine_eq]; exact hl, rfl⟩, k _ _ (hk.put z hv) (O.set _)⟩
/-- {z: v} -/
theorem freezeD {a : Addr} {kvs : List (Key × V)} [MonoS R] (O : Own H F ((a, .dK kvs) :: m)) (hk : kvR R F d kvs) : Own H (upd F a (.dK kvs)) m ∧ Same F (upd F a (.dK kvs)) ∧ rDictX R (upd F a (.dK kvs)) d (.ref a) :=
  ⟨O.freeze, O.freeze_same, a, kvs, rfl, upd_same, hk.up O.freeze_same⟩
/-! for k in d -/
def FK (g : TG) (tb : TS) (D : Ends) (σ : L2.St) : VK := fun x H1 => ∃ d o, x = .ref d ∧ ((∃ kvs, H1 d = some (.frz o (.dK kvs)) ∧ ForW (Itk d o kvs) g tb D σ H1) ∨ ∃ kvs, H1 d = some (.frz o (.dT kvs)) ∧ ForW (Itkt d o kvs) g tb D σ H1)
variable {g : TG} {tb : TS}
theorem x_forK (k : td σ H (FK g tb D σ)) : tFor (iKeys td) g tb D σ H := k
/-- the lock -/
def DL (d : Addr) (u : HO) (od : Obj) (D : Ends) : Ends := ⟨fun σ' H' => H' d = some (.frz od u) ∧ D.nx σ' (upd H' d u), fun v H' => H' d = some (.frz od u) ∧ D.rt v (upd H' d u), fun σ' H' => H' d = some (.frz od u) ∧ D.bk σ' (upd H' d u), fun σ' H' => H' d = some (.frz od u) ∧ D.ct σ' (upd H' d u)⟩
theorem unlock_same {F F' : Hp} {a : Addr} {ob : Obj} {u : HO} (h : F a = some u) (s : Same (upd F a (.frz ob u)) F') : Same F (upd F' a u) := fun b o e => by
  by_cases hb : b = a
  · subst hb
    rw [upd_same, ← h]
    exact e
  · rw [upd_ne hb]
    refine s b o ?_
    rw [upd_ne hb]
    exact e
theorem x_lock {t : TS} {a : Addr} {kvs : List (Key × V)} (O : Own H F m) (h : F a = some (.dK kvs))
    (k : ∀ od H1 F1, Own H1 F1 m → Le F F1 → F1 a = some (.frz od (.dK kvs)) → (∀ F', Same F1 F' → Same F (upd F' a (.dK kvs))) → t (DL a (.dK kvs) od D) σ H1) : tLock t D σ H :=
  ⟨a, .dK kvs, O.frz h, True.intro, fun od => k od _ _ (O.relay h) (le_lock h) upd_same fun _ s => unlock_same h s⟩
/-- a for over a dict's keys (locked) -/
theorem x_doK {a : Addr} {kvs : List (Key × V)} {ob : Obj} {F0 : Hp} (O : Own H F m) (h : F a = some (.frz ob (.dK kvs))) (hk : kvR R F0 d kvs) (P : Nat → L2.St → Hp → Mem → Prop) (h0 : P 0 σ F m)
    (hs : ∀ i p σ' H' F' m', d[i]? = some p → Same F F' → Own H' F' m' → P i σ' F' m' → g (.int p.1) σ' H' fun σ2 H2 => tb { D with nx := LI P F (i + 1), ct := LI P F (i + 1), bk := D.nx } σ2 H2)
    (hd : ∀ σ' H' F' m', Same F F' → Own H' F' m' → P d.length σ' F' m' → D.nx σ' H') : FK g tb D σ (.ref a) H := by
  refine ⟨a, ob, rfl, .inl ⟨kvs, O.frz h, ?_⟩⟩
  refine for_it walk_keys (LI P F) ⟨F, m, Same.refl F, O, h0⟩ (fun i σ' H' _ ⟨F', m', s, O', _⟩ => O'.frz (s _ _ h)) (fun i x σ' H' H2 hi ⟨F', m', s, O', p⟩ y => ?_) fun σ' H' ⟨F', m', s, O', p⟩ => hd σ' H' F' m' s O' (by rw [← hk.len]; exact p)
  obtain ⟨rfl, k, w, e, rfl⟩ := y
  obtain ⟨q, hq, e1, _⟩ := All2.get' hk e
  have e1 : k = Sum.inl q.1 := e1
  subst e1
  exact hs i q σ' H2 F' m' hq s O' p
/-- behind the loop: the dict is unlocked -/
theorem x_unlock {F0 F1 F' : Hp} {a : Addr} {kvs : List (Key × V)} {od : Obj} (O : Own H F' m) (h1 : F1 a = some (.frz od (.dK kvs))) (hs : ∀ F', Same F1 F' → Same F0 (upd F' a (.dK kvs))) (s : Same F1 F')
    (k : ∀ H2 F2, Same F0 F2 → Le F' F2 → Own H2 F2 m → D.nx σ H2) : Ends.nx (DL a (.dK kvs) od D) σ H := by
  have h : F' a = some (.frz od (.dK kvs)) := s _ _ h1
  exact ⟨O.frz h, k _ _ (hs _ s) (le_unlock h) (O.relay h)⟩
theorem dict_imp {α : Type} {R R' : Rp α} {F : Hp} {d v} (f : ∀ x v, R F x v → R' F x v) (h : rDict R F d v) : rDict R' F d v := let ⟨a, kvs, e, h, r⟩ := h; ⟨a, kvs, e, h, r.mono fun _ _ p => ⟨p.1, f _ _ p.2⟩⟩
theorem dictX_at {α : Type} {R : Rp α} {F : Hp} {d : List (Int × α)} {v : V} {z : Int} {x : α} (h : rDictX R F d v) (e : Tf.getD d z = some x) : ∃ b kvs w, v = .ref b ∧ F b = some (.dK kvs) ∧ valV kvs (Sum.inl z) = some w ∧ R F x w := by
  obtain ⟨a, kvs, e0, ha, hk⟩ := h
  rcases hk.get z with ⟨e1, _⟩ | ⟨y, w, e1, e2, hr⟩
  · rw [e] at e1
    cases e1
  · rw [e] at e1
    cases e1
    exact ⟨a, kvs, w, e0, ha, e2, hr⟩
theorem x_dgetR {b : Addr} {kvs : List (Key × V)} {z : Int} {w : V} {H F : Hp} {m : Mem} {Q : VK} (O : Own H F m) (h : Rd F b (.dK kvs)) (e : valV kvs (Sum.inl z) = some w) (k : Q w H) : DGQ (.ref b) (.int z) Q H :=
  ⟨b, w, rfl, .inl ⟨kvs, .inl z, rd_own O h, rfl, e.symm⟩, k⟩
theorem dictX_get {α : Type} {R : Rp α} {F : Hp} {d : List (Int × α)} {v : V} {z : Int} {x : α} (h : rDictX R F d v) (e : Tf.getD d z = some x) : ∃ w, R F x w := by
  obtain ⟨a, kvs, _, _, hk⟩ := h
  rcases hk.get z with ⟨e1, _⟩ | ⟨y, w, e1, e2, hr⟩
  · rw [e] at e1
    cases e1
  · rw [e] at e1
    cases e1
    exact ⟨w, hr⟩
end
end Tf
/-! the law's pool, the names of the top -/
namespace Tf
open PySem PySem.Spec PyProof.Rows L2
/-- no name of the top hides these built-ins -/
structure Bi (mg : Str → Option Value) : Prop where
  b_len : mg "len" = none
  b_abs : mg "abs" = none
  b_int : mg "int" = none
  b_list : mg "list" = none
  b_tuple : mg "tuple" = none
  b_range : mg "range" = none
  b_sorted : mg "sorted" = none
  b_isinstance : mg "isinstance" = none
  b_min : mg "min" = none
  b_max : mg "max" = none
  b_enumerate : mg "enumerate" = none
  b_zip : mg "zip" = none
  b_sum : mg "sum" = none
  b_all : mg "all" = none
  b_str : mg "str" = none
  b_bool : mg "bool" = none
/-- a def of the top, to be called -/
structure Cal (P : Program) (w : World) (K : PySem.W.Frag) (mg : Str → Option Value) (base : Heap) (x : Str) (k : Nat) (f : Addr) (fd : FuncData) (ps : List Str) (sp : Sp) : Prop where
  ok : FnOk P w K mg base CX0 k f fd ps sp
  mg : mg x = some (.ref f)
  kp : PySem.W.keepIn K (.ref f) = true
  bi : Binds K fd ps []
/-- a method of the class at C, to be called -/
structure Met (P : Program) (w : World) (K : PySem.W.Frag) (mg : Str → Option Value) (base : Heap) (C : Addr) (x : Str) (k : Nat) (f : Addr) (fd : FuncData) (ps : List Str) (sp : Sp) : Prop where
  ok : FnOk P w K mg base CX0 k f fd ps sp
  cl : Cls K C
  me : Meth K C x f
  bi : Binds K fd ps []
def poolO (s : V) (i b c z : Int) : HO := .lst [s, .int i, .int b, .int c, .int z]
/-- a pool: the script at s, the place in it, the number that is drawn from, the count, the seed -/
def PoolOk (F : Hp) (o : HO) : Prop := ∃ s script i b c z, o = poolO s i b c z ∧ rList rInt F script s ∧ 0 ≤ i ∧ 0 ≤ b
theorem PoolOk.up {F F' : Hp} {o : HO} (s : Same F F') (h : PoolOk F o) : PoolOk F' o :=
  let ⟨a, sc, i, b, c, z, e, r, p⟩ := h; ⟨a, sc, i, b, c, z, e, Tf.up s r, p⟩
section
variable {K : PySem.W.Frag} {H F : Hp} {m : Mem} {p : Addr} {s : V} {i b c z : Int} {Q : VK} {R : Hp → Prop}
theorem p_get0 (O : Own H F ((p, poolO s i b c z) :: m)) (k : Q s H) : rIxL K (.ref p) (.int 0) H Q := x_ixO (j := 0) O rfl rfl k
theorem p_get1 (O : Own H F ((p, poolO s i b c z) :: m)) (k : Q (.int i) H) : rIxL K (.ref p) (.int 1) H Q := x_ixO (j := 1) O rfl rfl k
theorem p_get2 (O : Own H F ((p, poolO s i b c z) :: m)) (k : Q (.int b) H) : rIxL K (.ref p) (.int 2) H Q := x_ixO (j := 2) O rfl rfl k
theorem p_get3 (O : Own H F ((p, poolO s i b c z) :: m)) (k : Q (.int c) H) : rIxL K (.ref p) (.int 3) H Q := x_ixO (j := 3) O rfl rfl k
theorem p_get4 (O : Own H F ((p, poolO s i b c z) :: m)) (k : Q (.int z) H) : rIxL K (.ref p) (.int 4) H Q := x_ixO (j := 4) O rfl rfl k
theorem p_set1 {y : Int} (O : Own H F ((p, poolO s i b c z) :: m)) (k : ∀ H', Own H' F ((p, poolO s y b c z) :: m) → R H') : rSetL (.ref p) (.int 1) (.int y) H R := x_setL (j := 1) O rfl (by show _ < 5; decide) fun O' => k _ O'
theorem p_set2 {y : Int} (O : Own H F ((p, poolO s i b c z) :: m)) (k : ∀ H', Own H' F ((p, poolO s i y c z) :: m) → R H') : rSetL (.ref p) (.int 2) (.int y) H R := x_setL (j := 2) O rfl (by show _ < 5; decide) fun O' => k _ O'
theorem p_set3 {y : Int} (O : Own H F ((p, poolO s i b c z) :: m)) (k : ∀ H', Own H' F ((p, poolO s i b y z) :: m) → R H') : rSetL (.ref p) (.int 3) (.int y) H R := x_setL (j := 3) O rfl (by show _ < 5; decide) fun O' => k _ O'
theorem p_set4 {y : Int} (O : Own H F ((p, poolO s i b c z) :: m)) (k : ∀ H', Own H' F ((p, poolO s i b c y) :: m) → R H') : rSetL (.ref p) (.int 4) (.int y) H R := x_setL (j := 4) O rfl (by show _ < 5; decide) fun O' => k _ O'
end
/-- the promise of a draw: a number from 0 on below many -/
def spDraw : Sp := fun vs H Q _ => ∃ p o n F m, vs = [.ref p, .int n] ∧ Own H F ((p, o) :: m) ∧ PoolOk F o ∧ 0 < n ∧ n < 2 ^ 60 ∧
  ∀ r H' o', 0 ≤ r → r < n → Own H' F ((p, o') :: m) → PoolOk F o' → Q (.int r) H'
def spPool (K : PySem.W.Frag) : Sp := fun vs H Q _ => ∃ (a : Addr) (ns : List Int) (F : Hp) (m : Mem), vs = [.ref a] ∧ SqL K H a (ns.map V.int) ∧ Own H F m ∧ ∀ p H' F' o, Same F F' → Own H' F' ((p, o) :: m) → PoolOk F' o → Q (.ref p) H'
def spPick : Sp := fun vs H Q _ => ∃ p o a us F m, vs = [.ref p, .ref a] ∧ Own H F ((p, o) :: m) ∧ PoolOk F o ∧ F a = some (.lst us) ∧ us ≠ [] ∧ us.length < 1000000 ∧
  ∀ w H' o', w ∈ us → Own H' F ((p, o') :: m) → PoolOk F o' → Q w H'
def spRare : Sp := fun vs H Q _ => ∃ p o n F m, vs = [.ref p, .int n] ∧ Own H F ((p, o) :: m) ∧ PoolOk F o ∧ 0 < n ∧ n < 2 ^ 60 ∧
  ∀ b H' o', Own H' F ((p, o') :: m) → PoolOk F o' → Q (.bl b) H'
def spFew : Sp := fun vs H Q _ => ∃ p o a b F m, vs = [.ref p, .int a, .int b] ∧ Own H F ((p, o) :: m) ∧ PoolOk F o ∧ 0 ≤ a ∧ a < 2 ^ 59 ∧ 0 ≤ b ∧ b < 2 ^ 59 ∧
  ∀ r H' o', 0 ≤ r → (r ≤ a ∨ r ≤ b) → Own H' F ((p, o') :: m) → PoolOk F o' → Q (.int r) H'
/-! ### two values that tell the same -/
def atomV : V → Bool
  | .non => true
  | .bl _ => true
  | .int _ => true
  | .str _ => true
  | _ => false
def Sim (F : Hp) : Nat → V → V → Prop
  | 0, v, w => v = w ∧ atomV w = true
  | n + 1, v, w => (v = w ∧ atomV w = true) ∨ ∃ a b vs ws, v = .ref a ∧ w = .ref b ∧ All2 (Sim F n) vs ws ∧ vs.length < 16777216 ∧ ((F a = some (.tup vs) ∧ F b = some (.tup ws)) ∨ (F a = some (.lst vs) ∧ F b = some (.lst ws)))
def spSame : Nat → Sp
  | 0 => fun _ _ _ _ => False
  | n + 1 => fun vs H Q _ => ∃ v w F m, vs = [v, w] ∧ Own H F m ∧ Sim F n v w ∧ ∀ H', Own H' F m → Q (.bl true) H'
theorem Sim.up {F F' : Hp} (s : Same F F') : ∀ {n v w}, Sim F n v w → Sim F' n v w
  | 0, _, _, h => h
  | _ + 1, _, _, .inl h => .inl h
  | _ + 1, _, _, .inr ⟨a, b, vs, ws, e1, e2, r, l, h⟩ => .inr ⟨a, b, vs, ws, e1, e2, r.mono fun _ _ => Sim.up s, l, h.elim (fun h => .inl ⟨s _ _ h.1, s _ _ h.2⟩) fun h => .inr ⟨s _ _ h.1, s _ _ h.2⟩⟩
/-- data of which two that stand for the same are Sim -/
class SimR {α : Type} (R : Rp α) (n : Nat) : Prop where
  sim : ∀ {F : Hp} {x : α} {v w : V}, R F x v → R F x w → Sim F n v w
theorem Sim.succ {F : Hp} : ∀ {n v w}, Sim F n v w → Sim F (n + 1) v w
  | 0, _, _, h => .inl h
  | _ + 1, _, _, .inl h => .inl h
  | _ + 1, _, _, .inr ⟨a, b, vs, ws, e1, e2, r, l, h⟩ => .inr ⟨a, b, vs, ws, e1, e2, r.mono fun _ _ => Sim.succ, l, h⟩
theorem Sim.le {F : Hp} {n k : Nat} {v w : V} (h : n ≤ k) (s : Sim F n v w) : Sim F k v w := by
  induction h with
  | refl => exact s
  | step _ ih => exact ih.succ
theorem all2_sim {α : Type} {R : Rp α} {n : Nat} [SimR R n] {F : Hp} : ∀ {xs : List α} {vs ws : List V}, All2 (R F) xs vs → All2 (R F) xs ws → All2 (Sim F n) vs ws
  | _, _, _, .nil, .nil => .nil
  | _, _, _, .cons h t, .cons h' t' => .cons (SimR.sim h h') (all2_sim t t')
instance : SimR rInt 0 := ⟨fun h h' => by cases h; cases h'; exact ⟨rfl, rfl⟩⟩
instance : SimR rNat 0 := ⟨fun h h' => by cases h; cases h'; exact ⟨rfl, rfl⟩⟩
instance : SimR rBool 0 := ⟨fun h h' => by cases h; cases h'; exact ⟨rfl, rfl⟩⟩
theorem sim_pair {α β : Type} {R : Rp α} {S : Rp β} {n : Nat} (f : ∀ {F x v w}, R F x v → R F x w → Sim F n v w) (g : ∀ {F x v w}, S F x v → S F x w → Sim F n v w) : SimR (rPair R S) (n + 1) :=
  ⟨fun {F x v w} ⟨a, u, z, e, h, r, s⟩ ⟨a', u', z', e', h', r', s'⟩ => .inr ⟨a, a', _, _, e, e', .cons (f r r') (.cons (g s s') .nil), by show 2 < _; decide, .inl ⟨h, h'⟩⟩⟩
/-- lists and tuples of bounded length -/
theorem sim_tup {α : Type} {R : Rp α} {n : Nat} [SimR R n] {F : Hp} {xs : List α} {v w : V} (hl : xs.length < 16777216) : rTup R F xs v → rTup R F xs w → Sim F (n + 1) v w := fun ⟨a, vs, e, h, r⟩ ⟨a', vs', e', h', r'⟩ =>
  .inr ⟨a, a', vs, vs', e, e', all2_sim r r', by rw [← r.length]; exact hl, .inl ⟨h, h'⟩⟩
theorem sim_list {α : Type} {R : Rp α} {n : Nat} [SimR R n] {F : Hp} {xs : List α} {v w : V} (hl : xs.length < 16777216) : rList R F xs v → rList R F xs w → Sim F (n + 1) v w := fun ⟨a, vs, e, h, r⟩ ⟨a', vs', e', h', r'⟩ =>
  .inr ⟨a, a', vs, vs', e, e', all2_sim r r', by rw [← r.length]; exact hl, .inr ⟨h, h'⟩⟩
theorem sim_opt {α : Type} {R : Rp α} {n : Nat} [S : SimR R n] : SimR (rOpt R) n := ⟨fun {F x v w} h h' => by
  cases x with
  | none =>
    cases h
    cases h'
    exact Sim.le (Nat.zero_le n) ⟨rfl, rfl⟩
  | some y => exact S.sim (x := y) h h'⟩
/-! ### isinstance -/
section
variable {K : PySem.W.Frag} {H F : Hp} {m : Mem} {Q : VK}
theorem x_isi {x : V} {t T : String} {b : Bool} (ty : TyOf K H x (.type t)) (h : kitB t T = some b) (k : Q (.bl b) H) : rIsi K [x, .ty T] H Q :=
  ⟨x, .ty T, .type t, .type T, b, rfl, .ty T, .base ty, kit_ty h, k⟩
theorem x_isi_int {i : Int} (k : Q (.bl true) H) : rIsi K [.int i, .ty "int"] H Q := x_isi (.int i) (by decide +kernel) k
theorem x_isi_intB {i : Int} (k : Q (.bl false) H) : rIsi K [.int i, .ty "bool"] H Q := x_isi (.int i) (by decide +kernel) k
end
theorem fn_never {P : Program} {w : World} {K : PySem.W.Frag} {mg : Str → Option Value} {base : Heap} {k : Nat} {f : Addr} {fd : FuncData} {ps : List Str} : FnOk P w K mg base CX0 k f fd ps fun _ _ _ _ => False :=
  ⟨fun _ _ _ _ h => h.elim, fun _ _ _ _ _ _ _ _ _ _ _ _ _ h => h.elim⟩
end Tf
/-! further rules: a list or a tuple walked, enumerate of either, a bound method as a value, sorted by a method -/
namespace Tf
open PySem PySem.Spec PyProof.Rows L2
/-! ### for over a list or a tuple -/
def iSeq (K : PySem.W.Frag) (tl : TE) : TI := fun σ H R => tl σ H fun x H1 => ∃ a, x = .ref a ∧ (((∃ xs, SqL K H1 a xs) ∧ R (Itl K a) H1) ∨ ((∃ xs, SqT K H1 a xs) ∧ R (Itt K a) H1))
theorem pi_seq {X : Cx} {tg l : Expr} {tl : TE} (hl : PE X l tl) : PI X tg l (iSeq X.K tl) := by
  refine ⟨fun pins s σ H R I h => ?_⟩
  refine thn (hl.run pins s σ H _ I h) fun v s1 ⟨x, H1, I1, r1, q1⟩ => ?_
  obtain ⟨a, e, q1⟩ := q1
  subst e
  cases r1
  rcases q1 with ⟨⟨xs, hq⟩, q⟩ | ⟨⟨xs, hq⟩, q⟩
  · obtain ⟨its, rv, p, hz⟩ := I1.list hq
    refine wpAny_pyIter_list p.isList ?_
    refine ⟨s1.heap.objs.size, [s1.heap.objs.size], _, _, H1, rfl, I1.kept (t' := s1.toks) fun b o e => Heap.get?_push_of_some _ e, turn_list a _, ⟨_, Heap.get?_push_size _ rfl, rfl, rfl⟩, fun b hb => ?_, q⟩
    have e : b = s1.heap.objs.size := by simpa using hb
    subst e
    exact I1.fpOk (Nat.le_refl _) (I1.hok.fresh (Nat.le_refl _))
  · obtain ⟨its, rv, p, hz⟩ := I1.tuple hq
    refine wpAny_pyIter_tuple (show s1.heap.IsTuple a its.toArray from p) ?_
    refine ⟨s1.heap.objs.size, [s1.heap.objs.size], _, _, H1, rfl, I1.kept (t' := s1.toks) fun b o e => Heap.get?_push_of_some _ e, turn_tuple a _, ⟨_, Heap.get?_push_size _ rfl, rfl, rfl⟩, fun b hb => ?_, q⟩
    have e : b = s1.heap.objs.size := by simpa using hb
    subst e
    exact I1.fpOk (Nat.le_refl _) (I1.hok.fresh (Nat.le_refl _))
/-! ### enumerate of a tuple -/
set_option maxHeartbeats 1000000 in
theorem meets_enumerate_newT {v : Value} {o : Obj} {H : Heap → Prop} (B : Begins v o H) :
    Meets (Builtin.«enumerate.__new__» ⟨[.type "enumerate", v], []⟩) (fun _ R s => H s.heap ∧
      R (.ok (.ret (.ref (s.heap.push o).objs.size))) { s with heap := (s.heap.push o).push { cls := .type "enumerate", data := .fields #[.none, .bool false, .ref s.heap.objs.size, rawInt 0, .none, .none] } }) :=
  .of_wp fun prog w A R s h => by
    obtain ⟨hp, g, d, tk, os⟩ := s; obtain ⟨h1, h⟩ := h
    have hsub := sub_enumerate
    have q1 : ∀ {A' : Around} {E : Value → Shared → Prop} {Q : Value → Shared → Prop}, Q (.ref hp.objs.size) ⟨hp.push o, g, d, tk, os⟩ → wpAny (model prog w) A' (pyIter v) Q E ⟨hp, g, d, tk, os⟩ :=
      fun q => B.iter prog w _ _ ⟨hp, g, d, tk, os⟩ _ h1 q
    wp_walk using q1
    refine wpAny_stack_any fun st => wpAny_pure ?_
    split
    · rename_i c _ _ _ _ _
      cases (c == Value.type "enumerate")
      · wp_walk using q1
        exact ⟨_, rfl, h⟩
      · wp_walk using q1
        exact ⟨_, rfl, h⟩
    · wp_walk using q1
      exact ⟨_, rfl, h⟩
theorem enumT_begins {prog : Program} {w : World} {A : Around} {E : Value → Shared → Prop} {s : Shared} {v : Value} {o : Obj} {H : Heap → Prop} {Q : Value → Shared → Prop} (B : Begins v o H) (h1 : H s.heap)
    (h : ∀ h', IsEnum h' (s.heap.objs.size + 1) s.heap.objs.size 0 .none → h'.get? s.heap.objs.size = some o → h'.objs.size = s.heap.objs.size + 2 →
      (∀ b o, s.heap.get? b = some o → h'.get? b = some o) → Q (.ref (s.heap.objs.size + 1)) { s with heap := h' }) :
    wpAny (model prog w) A (call (.type "enumerate") [v]) Q E s := by
  refine callType_new F.called_enumerate (by decide) (F.typeCall_enumerate_1 _) (F.newCall_enumerate_1 _) (fun obj => F.args_object_init_2 obj _) F.entry_enumerate_new
    (meets_enumerate_newT B) ⟨h1, ?_⟩
  have hz : (s.heap.push o).objs.size = s.heap.objs.size + 1 := Heap.size_push ..
  show _ ∧ _
  rw [hz]
  have he : IsEnum ((s.heap.push o).push { cls := .type "enumerate", data := .fields #[.none, .bool false, .ref s.heap.objs.size, rawInt 0, .none, .none] }) (s.heap.objs.size + 1) s.heap.objs.size 0 .none := by
    have := Heap.get?_push_size (s.heap.push o) (o := { cls := .type "enumerate", data := .fields #[.none, .bool false, .ref s.heap.objs.size, rawInt 0, .none, .none] }) rfl
    rw [hz] at this; exact this
  refine ⟨⟨_, he, rfl⟩, h _ he (Heap.get?_push_of_some _ (Heap.get?_push_size _ B.free)) (by rw [Heap.size_push, hz]) fun b o x => Heap.get?_push_of_some _ (Heap.get?_push_of_some _ x)⟩
/-- the tuple at a, its items with their places -/
def IteT (K : PySem.W.Frag) (a : Addr) : It :=
  ⟨fun i H => ∃ (xs : List V) (x : V), SqT K H a xs ∧ xs[i]? = some x, fun i H v H' => ∃ T x, v = .ref T ∧ H T = none ∧ H' = upd H T (.tup [.int (i : Nat), x]) ∧ ∀ xs, SqT K H a xs → xs[i]? = some x, fun i H => ∃ xs : List V, SqT K H a xs ∧ xs.length = i⟩
theorem turn_enumT {P : Program} {w : World} {K : PySem.W.Frag} {elts : List Expr} {kk : Nat} {tpos : Pos} (a e it : Addr) (hat : a ≠ it) :
    Turn P w K (.Tuple elts kk tpos) (IteT K a) [e, it] e (fun i h => (∃ old, IsEnum h e it ((i : Nat) : Int) old) ∧ h.IsTupleIter it a i ∧ e ≠ it ∧ e ≠ a) where
  mem := by simp
  obj := fun i h st b hb => by
    obtain ⟨⟨old, he⟩, ⟨o, ho, hc, hd⟩, _⟩ := st
    have e' : b = e ∨ b = it := by simpa using hb
    rcases e' with z | z
    · rw [z]; exact ⟨_, he, fun v q => nomatch q⟩
    · rw [z]; exact ⟨o, ho, fun v q => by rw [hd] at q; cases q⟩
  keep := fun i h h' st k => let ⟨⟨old, he⟩, hi, hne⟩ := st; ⟨⟨old, k e (by simp) _ he⟩, hi.at fun o q => k it (by simp) o q, hne⟩
  item := by
    intro X hP hw hK hc i pins s σ H E I hf st hg
    subst hP hw hK
    obtain ⟨⟨old, he⟩, hit, hne, hea⟩ := st
    obtain ⟨xs, x, hq, hx⟩ := hg
    obtain ⟨its, rv, p, hz⟩ := I.tuple hq
    obtain ⟨u, hu, ru⟩ := rv.get hx
    have hel : e < s.heap.objs.size := Heap.lt_size he
    have hil : it < s.heap.objs.size := by obtain ⟨_, q, _⟩ := hit; exact Heap.lt_size q
    have hlt : i < its.toArray.size := by
      have := (List.getElem?_eq_some_iff.mp hu).1
      simpa using this
    refine wpAny_pyNext_enum_itemC (Draws.tuple (show X.A.in1.handled = none from I.ok.hd hc) it a hat its.toArray) he ⟨hit, p⟩ hlt hne (by simp [hne, hea]) fun x' h' tk hP' ho hit' hT hsz hk => ?_
    have ex : x' = u := by
      have h1 : its.toArray[i]? = some x' := hP'
      rw [List.getElem?_toArray, hu] at h1
      exact (Option.some.inj h1).symm
    subst ex
    refine ⟨_, rfl, wpAny_letOwnedTupleGo_enum (s := { s with heap := h', toks := tk + 1 }) ho fun h'' he' sb => ?_⟩
    have hT2 : h''.get? s.heap.objs.size = some { cls := .type "tuple", data := .seq #[.int i tk, x'] } := (sb.2 _ (Nat.ne_of_gt hel)).trans hT
    have new : ObjOk X.prog X.w (upd H s.heap.objs.size (.tup [.int (i : Nat), x])) h'' s.heap.objs.size (.tup [.int (i : Nat), x]) :=
      ⟨by show 2 ≤ sizeLine; decide, [.int i tk, x'], .cons ⟨_, rfl⟩ (.cons ru .nil), ⟨_, hT2, rfl, _, rfl⟩⟩
    have I1 : Inv X pins σ (upd H s.heap.objs.size (.tup [.int (i : Nat), x])) { s with heap := h'', toks := tk + 1 } :=
      I.turnedNew (ch := [e, it]) (fun b ob hb q => (sb.2 b (fun z => hb (by simp [z]))).trans (hk b ob (fun z => hb (by simp [z])) (fun z => hb (by simp [z])) q)) hf (Nat.le_refl _) new
    refine ⟨.ref s.heap.objs.size, _, I1, rfl, ⟨_, x, rfl, I.hok.fresh (Nat.le_refl _), rfl, fun ys hy => by rw [I.tuple_inj hy hq]; exact hx⟩, ⟨⟨x', ?_⟩, hit'.1.at fun o q => (sb.2 it (Ne.symm hne)).trans q, hne, hea⟩, fun b hb => ?_⟩
    · have e1 : ((i + 1 : Nat) : Int) = (i : Int) + 1 := by omega
      rw [e1]; exact he'
    · have hb' : b < s.heap.objs.size := by
        have e' : b = e ∨ b = it := by simpa using hb
        rcases e' with z | z
        · rw [z]; exact hel
        · rw [z]; exact hil
      rw [upd_ne (Nat.ne_of_lt hb')]
      exact (hf b hb).1
  done := by
    intro X hP hw hK hc i pins s σ H E I hf st hg
    subst hP hw hK
    obtain ⟨⟨old, he⟩, hit, hne, hea⟩ := st
    obtain ⟨xs, hq, hx⟩ := hg
    obtain ⟨its, rv, p, hz⟩ := I.tuple hq
    obtain ⟨f0, f1, f2, f3, f4, f5⟩ := hf it (by simp)
    have hl := rv.length
    have hn : i = its.toArray.size := by
      rw [List.size_toArray, ← hl]
      exact hx.symm
    subst hn
    exact wpAny_pyNext_enum_endD (Draws.tuple (show X.A.in1.handled = none from I.ok.hd hc) it a hat its.toArray) he ⟨hit, p⟩ fun h' eb => ⟨rfl, I.turned (t' := s.toks) (fun b o hb e => eb b o hb e) f0 f1 f3 f4 f5⟩
  self := fun A i s Q E st h => let ⟨⟨_, he⟩, _⟩ := st; wpAny_pyIter_enum he h
def iEnumS (K : PySem.W.Frag) (ta : TA) : TI := fun σ H R => ta σ H fun vs H1 => ∃ a, vs = [.ref a] ∧ (((∃ xs, SqL K H1 a xs) ∧ R (Ite K a) H1) ∨ ((∃ xs, SqT K H1 a xs) ∧ R (IteT K a) H1))
theorem pi_enumS {X : Cx} {e : Expr} {ta : TA} {p pos tpos : Pos} {elts : List Expr} {kk : Nat} (hg : Gl X "enumerate") (hm : X.mg "enumerate" = none) (ha : PA X [e] ta) (hs : starEach [e] X.env = [(false, eval e X.env)] := by rfl) :
    PI X (.Tuple elts kk tpos) (.Call (.Name "enumerate" p) [e] [] pos) (iEnumS X.K ta) := by
  refine ⟨fun pins s σ H R I h => ?_⟩
  refine Call_ (ld_blt I hg hm boot_enumerate (PyProof.Rows.callWith_type1 (thn (ha.run pos pins s σ H _ I h) fun us s1 ⟨vs, H1, I1, r1, q1⟩ => ?_) hs rfl))
  obtain ⟨a, ex, q1⟩ := q1
  subst ex
  cases r1 with
  | cons r rr =>
    cases rr
    cases r
    rcases q1 with ⟨⟨xs, hq⟩, q⟩ | ⟨⟨xs, hq⟩, q⟩
    · obtain ⟨its, rv, p', hz⟩ := I1.list hq
      refine call_enumerate_list p'.isList fun h' he hit hsz hk => wpAny_pyIter_enum he ?_
      have I2 : Inv X pins σ H1 { s1 with heap := h' } := I1.kept (t' := s1.toks) hk
      refine ⟨s1.heap.objs.size + 1, [s1.heap.objs.size + 1, s1.heap.objs.size], _, _, H1, rfl, I2, turn_enum a (s1.heap.objs.size + 1) s1.heap.objs.size, ⟨⟨.none, he⟩, hit, Nat.succ_ne_self _⟩, fun b hb => ?_, q⟩
      have e' : b = s1.heap.objs.size + 1 ∨ b = s1.heap.objs.size := by simpa using hb
      have hle : s1.heap.objs.size ≤ b := by
        rcases e' with z | z
        · rw [z]; exact Nat.le_add_right _ _
        · rw [z]; exact Nat.le_refl _
      exact I1.fpOk hle (I1.hok.fresh hle)
    · obtain ⟨its, rv, p', hz⟩ := I1.tuple hq
      have hal : a < s1.heap.objs.size := p'.lt
      refine enumT_begins (begins_tuple a its.toArray) p' fun h' he hit hsz hk => wpAny_pyIter_enum he ?_
      have I2 : Inv X pins σ H1 { s1 with heap := h' } := I1.kept (t' := s1.toks) hk
      refine ⟨s1.heap.objs.size + 1, [s1.heap.objs.size + 1, s1.heap.objs.size], _, _, H1, rfl, I2, turn_enumT a (s1.heap.objs.size + 1) s1.heap.objs.size (Nat.ne_of_lt hal), ⟨⟨.none, he⟩, ⟨_, hit, rfl, rfl⟩, Nat.succ_ne_self _, Nat.ne_of_gt (Nat.lt_succ_of_lt hal)⟩, fun b hb => ?_, q⟩
      have e' : b = s1.heap.objs.size + 1 ∨ b = s1.heap.objs.size := by simpa using hb
      have hle : s1.heap.objs.size ≤ b := by
        rcases e' with z | z
        · rw [z]; exact Nat.le_add_right _ _
        · rw [z]; exact Nat.le_refl _
      exact I1.fpOk hle (I1.hok.fresh hle)
theorem walk_enumT {K : PySem.W.Frag} {a : Addr} {xs : List V} : Walk (IteT K a) xs.length (fun H => SqT K H a xs ∧ ∀ ys, SqT K H a ys → ys = xs) (YPair (fun i => some (.int (i : Nat))) (fun i => xs[i]?)) where
  goes := fun i H hi h => ⟨xs, xs[i], h.1, List.getElem?_eq_getElem hi⟩
  stops := fun H h => ⟨xs, h.1, rfl⟩
  yields := fun i H x H' hi h ⟨T, y, e, hn, eh, k⟩ => ⟨T, .int (i : Nat), y, e, hn, eh, rfl, k xs h.1⟩
theorem walk_enumL {K : PySem.W.Frag} {a : Addr} {xs : List V} : Walk (Ite K a) xs.length (fun H => SqL K H a xs) (YPair (fun i => some (.int (i : Nat))) (fun i => xs[i]?)) where
  goes := fun i H hi h => ⟨xs, xs[i], h, List.getElem?_eq_getElem hi⟩
  stops := fun H h => ⟨xs, h, Nat.le_refl _⟩
  yields := fun i H x H' hi h ⟨T, y, e, hn, eh, k⟩ => ⟨T, .int (i : Nat), y, e, hn, eh, rfl, k xs h⟩
/-! ### the steps -/
def FS (K : PySem.W.Frag) (g : TG) (tb : TS) (D : Ends) (σ : L2.St) : VK := fun v H1 => ∃ a, v = .ref a ∧ (((∃ xs, SqL K H1 a xs) ∧ ForW (Itl K a) g tb D σ H1) ∨ ((∃ xs, SqT K H1 a xs) ∧ ForW (Itt K a) g tb D σ H1))
def FE (K : PySem.W.Frag) (g : TG) (tb : TS) (D : Ends) (σ : L2.St) : List V → Hp → Prop := fun vs H1 => ∃ a, vs = [.ref a] ∧ (((∃ xs, SqL K H1 a xs) ∧ ForW (Ite K a) g tb D σ H1) ∨ ((∃ xs, SqT K H1 a xs) ∧ ForW (IteT K a) g tb D σ H1))
section
variable {K : PySem.W.Frag} {σ : L2.St} {H F : Hp} {m : Mem} {D : Ends} {tb : TS} {g : TG} {v : V} {tl : TE} {ta : TA} {α β : Type} {R : Rp α} {S : Rp β} {xs : List α} {Q : VK} {tt : TT} {te : TE} {vs : List Nat}
theorem x_forS (k : tl σ H (FS K g tb D σ)) : tFor (iSeq K tl) g tb D σ H := k
theorem x_forE (k : ta σ H (FE K g tb D σ)) : tFor (iEnumS K ta) g tb D σ H := k
theorem x_doS [MonoS R] (O : Own H F m) (h : rSeq R F xs v) (P : Nat → L2.St → Hp → Mem → Prop) (h0 : P 0 σ F m)
    (hs : ∀ i x w σ' H' F' m', xs[i]? = some x → R F' x w → Same F F' → Own H' F' m' → P i σ' F' m' → g w σ' H' fun σ2 H2 => tb { D with nx := LI P F (i + 1), ct := LI P F (i + 1), bk := D.nx } σ2 H2)
    (hd : ∀ σ' H' F' m', Same F F' → Own H' F' m' → P xs.length σ' F' m' → D.nx σ' H') : FS K g tb D σ v H := by
  rcases h with h | h
  · obtain ⟨a, e, h1, h2⟩ := x_doL (K := K) O h P h0 hs hd
    exact ⟨a, e, .inl ⟨h1, h2⟩⟩
  · obtain ⟨a, e, h1, h2⟩ := x_doT (K := K) O h P h0 hs hd
    exact ⟨a, e, .inr ⟨h1, h2⟩⟩
/-- for k, x in enumerate(xs): the pair is a new tuple that stands still -/
theorem x_doE [MonoS R] (O : Own H F m) (h : rSeq R F xs v) (P : Nat → L2.St → Hp → Mem → Prop) (h0 : P 0 σ F m)
    (hs : ∀ i x w σ' H' F' m', xs[i]? = some x → rPair rNat R F' (i, x) w → Same F F' → Own H' F' m' → P i σ' F' m' → g w σ' H' fun σ2 H2 => tb { D with nx := LI P F (i + 1), ct := LI P F (i + 1), bk := D.nx } σ2 H2)
    (hd : ∀ σ' H' F' m', Same F F' → Own H' F' m' → P xs.length σ' F' m' → D.nx σ' H') (hP : ∀ i σ' F1 F2 m1, Same F1 F2 → P i σ' F1 m1 → P i σ' F2 m1) : FE K g tb D σ [v] H := by
  have body : ∀ (us : List V), All2 (R F) xs us → ∀ (i : Nat) (x : V) (σ' : L2.St) (H' H2 : Hp), i < us.length → LI P F i σ' H' → YPair (fun i => some (.int (i : Nat))) (fun i => us[i]?) i H' x H2 → g x σ' H2 fun σ2 H2 => tb { D with nx := LI P F (i + 1), ct := LI P F (i + 1), bk := D.nx } σ2 H2 := by
    rintro us r i x σ' H' H2 hi ⟨F', m', s, O', p⟩ ⟨T, z, y, rfl, hT, rfl, hz, hy⟩
    cases hz
    obtain ⟨q, hq, hr⟩ := r.get' hy
    have sT := same_new (o := .tup [.int (i : Nat), y]) (O'.fresh hT)
    exact hs i q _ σ' _ _ m' hq ⟨T, .int (i : Nat), y, rfl, upd_same, rfl, up (s.trans sT) hr⟩ (s.trans sT) (O'.new hT) (hP _ _ _ _ _ sT p)
  rcases h with h | h
  · obtain ⟨a, us, rfl, ha, r⟩ := h
    refine ⟨a, rfl, .inl ⟨⟨us, .inl (.inl (O.frz ha))⟩, for_it walk_enumL (LI P F) ⟨F, m, Same.refl F, O, h0⟩ (fun i σ' H' _ ⟨F', m', s, O', _⟩ => .inl (.inl (O'.frz (s _ _ ha)))) (fun i x σ' H' H2 hi p y => body us r i x σ' H' H2 hi p y) fun σ' H' ⟨F', m', s, O', p⟩ => hd σ' H' F' m' s O' (by rw [r.length]; exact p)⟩⟩
  · obtain ⟨a, us, rfl, ha, r⟩ := h
    refine ⟨a, rfl, .inr ⟨⟨us, .inl (.inl (O.frz ha))⟩, ?_⟩⟩
    have w2 : Walk (IteT K a) us.length (fun H => SqT K H a us) (YPair (fun i => some (.int (i : Nat))) (fun i => us[i]?)) :=
      ⟨fun i H hi h => ⟨us, us[i], h, List.getElem?_eq_getElem hi⟩, fun H h => ⟨us, h, rfl⟩, fun i H x H' hi h ⟨T, y, e, hn, eh, k⟩ => ⟨T, .int (i : Nat), y, e, hn, eh, rfl, k us h⟩⟩
    exact for_it w2 (LI P F) ⟨F, m, Same.refl F, O, h0⟩ (fun i σ' H' _ ⟨F', m', s, O', _⟩ => .inl (.inl (O'.frz (s _ _ ha)))) (fun i x σ' H' H2 hi p y => body us r i x σ' H' H2 hi p y) fun σ' H' ⟨F', m', s, O', p⟩ => hd σ' H' F' m' s O' (by rw [r.length]; exact p)
/-- a comprehension over either -/
def CS (K : PySem.W.Frag) (g : TG) (tt : TT) (te : TE) (vs : List Nat) (σ : L2.St) (Q : VK) : VK := fun v H1 => ∃ a, v = .ref a ∧ (((∃ xs, SqL K H1 a xs) ∧ LcW (Itl K a) g tt te vs σ Q H1) ∨ ((∃ xs, SqT K H1 a xs) ∧ LcW (Itt K a) g tt te vs σ Q H1))
theorem x_lcS (k : tl σ H (CS K g tt te vs σ Q)) : tLc (iSeq K tl) g tt te vs σ H Q := k
theorem x_docS [MonoS R] [MonoS S] (O : Own H F m) (h : rSeq R F xs v) (P : Nat → Hp → Mem → List β → Prop) (h0 : P 0 F m [])
    (hs : ∀ D acc i x w H' F' m' ys, xs[i]? = some x → R F' x w → Same F F' → Own H' F' ((D, .lst acc) :: m') → All2 (S F') ys acc → ys.length ≤ i → P i F' m' ys →
      g w (wipe σ vs) H' fun σ2 H2 => wipe σ2 vs = wipe σ vs ∧ tt σ2 H2 fun b H3 => if b = true then te σ2 H3 fun y H4 => ∃ acc, H4 D = some (.lst acc) ∧ acc.length < sizeLine ∧ LcP S P F D (i + 1) (upd H4 D (.lst (acc ++ [y]))) else LcP S P F D (i + 1) H3)
    (hd : ∀ v' H' F' m' ys, Same F F' → Own H' F' m' → rList S F' ys v' → P xs.length F' m' ys → Q v' H') (hP : ∀ F1 F2 m1 ys i, Same F1 F2 → P i F1 m1 ys → P i F2 m1 ys := by exact fun _ _ _ _ _ _ h => h) : CS K g tt te vs σ Q v H := by
  rcases h with h | h
  · obtain ⟨a, e, h1, h2⟩ := x_docL (K := K) O h P h0 hs hd hP
    exact ⟨a, e, .inl ⟨h1, h2⟩⟩
  · obtain ⟨a, e, h1, h2⟩ := x_docT (K := K) O h P h0 hs hd hP
    exact ⟨a, e, .inr ⟨h1, h2⟩⟩
end
end Tf
/-! sorted(xs, key=o.m, reverse=b): the method keeps the abstract heap and gives an int -/
namespace Tf
open PySem PySem.Spec PyProof.Rows L2 PySem.W
/-! ### a bound method as a value -/
def tBndM (C g : Addr) (m : Str) (ta : TE) : TE := fun σ H Q => ta σ H fun x H1 => ∃ a dx fs, x = .ref a ∧ H1 a = some (.ins C dx fs) ∧ fs.lookup m = none ∧ ∀ q, H1 q = none → Q (.ref q) (upd H1 q (.met g a))
theorem pe_bndM {X : Cx} {o : Expr} {m : Str} {pos : Pos} {ta : TE} {C g : Addr} (he : PE X o ta) (c : Cls X.K C) (b : BMeth X.K C m g) (hb : attributeBase o m X.env (eval o X.env) = eval o X.env := by rfl) : PE X (.Attribute o m pos) (tBndM C g m ta) := by
  refine ⟨fun pins s σ H Q I h => ?_⟩
  refine attr_of hb (thn (he.run pins s σ H _ I h) fun u s1 ⟨x, H1, I1, rx, a, dx, fs, ex, ea, l, q⟩ => ?_)
  subst ex
  exact op_getbound I1 ea c b l rx q
theorem reads_int {h : Heap} {i : Int} {t : Tok} : Reads h (.int i t) (.int i) [] := Reads.int _ _
section
variable {X : Cx} {pins : List (Addr × Obj)} {σ : L2.St} {H : Hp}
/-- the callee runs, at another around -/
theorem run_at {A : Around} {k : Nat} {f : Addr} {sp : Sp} {s : Shared} {Q : VK} {us : List Value} {vs : List V} {R : Result → Shared → Prop} (F : FnR X.prog X.w X.K X.mg X.base CX0 k f sp) (hr : Room k A) (hA : A.frames = X.A.frames) (I : Inv X pins σ H s) (r : Vals vs us) (h : sp vs H Q E0)
    (hR : ∀ u s', EP X pins σ Q u s' → R (.ok (.ret u)) s') : codeAny (model X.prog X.w) A (.call (.ref f) ⟨us, []⟩) R s := by
  have e0 : Env0 X.prog X.w X.K X.mg X.base A X.stack s H := ⟨by rw [hA]; exact I.env0.frames, I.env0.mod, I.env0.bs, I.env0.bsz, I.env0.funs, I.env0.frf, I.env0.hok, I.env0.bare⟩
  refine codeAny_mono (F A X.stack s H us vs Q E0 hr e0 r h) fun r s' hq => ?_
  cases r with
  | error e => exact False.elim hq
  | ok fl =>
    cases fl with
    | ret u => exact hR u s' (I.after hq)
    | next => exact False.elim hq
    | brk => exact False.elim hq
    | cont => exact False.elim hq
/-- the loop over the keys: X's invariant is kept -/
theorem keyI_rest {A : Around} {a kS : Addr} {b : Bool} {e1 : Nat} {vs : List Value} {xs : List V} {key : V → Int} {f : Value} {s : Shared} {P : PySem.Fin → Shared → Prop} {E : Value → Shared → Prop} (I : Inv X pins σ H s) (fa : FpOk X pins H a) (fk : FpOk X pins H kS) (hka : kS ≠ a)
    (nk : s.heap.get? kS = some (seqObj "list" #[] 0)) (na : s.heap.get? a = some (seqObj "list" #[] e1)) (rv : Vals xs vs) (hZ : vs.length ≤ sizeLine) (hu : A.units + 1 < cLine)
    (turn : ∀ (x : V) (v : Value), x ∈ xs → RelV x v → ∀ (pins' : List (Addr × Obj)) (s' : Shared), Inv X pins' σ H s' → wpAny (model X.prog X.w) A (call f [v]) (fun u s'' => Inv X pins' σ H s'' ∧ RelV (.int (key x)) u) (fun _ _ => False) s')
    (h : ∀ (ys : List V) s', ys.Perm xs → ys.Pairwise (fun x y => if b = true then key y ≤ key x else key x ≤ key y) → Inv X pins σ (upd H a (.lst ys)) s' → P (.done (.ret .none)) s') :
    wpAny (model X.prog X.w) A (ksk_rest a f b vs.toArray e1 (.ref kS)) P E s := by
  have hl : xs.length = vs.length := rv.length
  unfold ksk_rest
  refine wpAny_bind (wpAny_rule ?_)
  first
    | rw [List.forIn_toArray]
    | (rw [← Array.forIn_toList]; simp only [List.toList_toArray])
    | rw [← Array.forIn_toList]
  refine wpAny_bind (ksk_fold (fun i s' => ∃ kA e, Inv X pins σ H s' ∧ s'.heap.get? kS = some (seqObj "list" kA e) ∧ s'.heap.get? a = some (seqObj "list" #[] e1) ∧ Vals ((xs.take i).map fun x => V.int (key x)) kA.toList) vs 0 s
    ⟨#[], 0, I, nk, na, by rw [List.take_zero]; exact .nil⟩ ?step ?done)
  case step =>
    rintro j v s' hx ⟨kA, e, I', nk', na', hk⟩
    simp only [Nat.zero_add] at hk ⊢
    have hj : j < vs.length := (List.getElem?_eq_some_iff.mp hx).1
    have hjx : j < xs.length := by omega
    have ex : xs[j]? = some xs[j] := List.getElem?_eq_getElem hjx
    obtain ⟨v', hv', hr⟩ := rv.get ex
    rw [hx] at hv'
    obtain rfl : v = v' := Option.some.inj hv'
    have hz : kA.size ≤ vs.length := by
      have h1 := hk.length
      simp at h1
      omega
    have pin : ∀ p ∈ pins ++ [(kS, seqObj "list" kA e), (a, seqObj "list" #[] e1)], s'.heap.get? p.1 = some p.2 ∧ H p.1 = none ∧ p.1 ≠ X.env.locals ∧ p.1 ∉ X.fs ∧ ∀ v, p.2.data ≠ .cell v := fun p hp => by
      rcases List.mem_append.mp hp with hp | hp
      · exact I'.pin p (List.mem_append_right _ hp)
      · rcases List.mem_cons.mp hp with rfl | hp
        · exact ⟨nk', fk.1, fk.2.1, fk.2.2.1, fun v q => nomatch q⟩
        · rcases List.mem_singleton.mp hp with rfl
          exact ⟨na', fa.1, fa.2.1, fa.2.2.1, fun v q => nomatch q⟩
    refine wpAny_bind (wpAny_attempt (wpAny_mono (turn xs[j] v (List.getElem_mem hjx) hr _ s' (I'.pins_of pin)) (fun u s'' he => ?_) fun _ _ hF => hF.elim))
    obtain ⟨I2, ru⟩ := he
    have nk2 : s''.heap.get? kS = some (seqObj "list" kA e) := (I2.pin (kS, seqObj "list" kA e) (by simp)).1
    have na2 : s''.heap.get? a = some (seqObj "list" #[] e1) := (I2.pin (a, seqObj "list" #[] e1) (by simp)).1
    have I3 : Inv X pins σ H s'' := I2.pins_of fun p hp => I2.pin p (List.mem_append_right _ (List.mem_append_left _ hp))
    have s1 := Heap.SameBut.update s''.heap kS (Obj.mapSeq (·.push u))
    obtain ⟨c2, hc2⟩ : ∃ c2, (s''.heap.update kS (Obj.mapSeq (·.push u))).get? kS = some (seqObj "list" (kA.push u) c2) := ⟨_, get?_update_seq nk2 (·.push u)⟩
    have ek : xs.take (j + 1) = xs.take j ++ [xs[j]] := by rw [List.take_add_one, ex]; simp
    have ea : (kA.push u).toList = kA.toList ++ [u] := by simp
    refine wpAny_bind (listUpdate_at nk2 rfl ?_ (Nat.le_trans hz hZ) (Nat.le_trans (Nat.le_of_eq (Array.size_push ..)) (Nat.succ_le_succ (Nat.le_trans hz hZ))))
    refine wpAny_pure ⟨rfl, kA.push u, c2, I3.turned (t' := s''.toks) (fun b o hb e => (s1.2 b hb).trans e) fk.1 fk.2.1 fk.2.2.2.1 fk.2.2.2.2.1 fk.2.2.2.2.2, hc2, (s1.2 a hka.symm).trans na2, ?_⟩
    rw [ea, ek, List.map_append]
    exact hk.append (.cons ru .nil)
  case done =>
    rintro s' ⟨kA, e, I', nk', na', hk⟩
    have hk : Vals (xs.map fun x => V.int (key x)) kA.toList := by
      have e3 : xs.take (0 + vs.length) = xs := List.take_of_length_le (by omega)
      rw [e3] at hk
      exact hk
    have hsz : kA.size = vs.length := by
      have h1 := hk.length
      simp at h1
      omega
    try dsimp only
    refine wpAny_bind (listItems_at nk' rfl ?_)
    have hk' : EachIs (fun v k => ∃ as, Reads s'.heap v k as) kA.toList (xs.map fun x => PyData.int (key x)) := by
      clear hsz nk' na' nk
      revert hk
      generalize kA.toList = us
      intro hk
      have go : ∀ (zs : List V) (us : List Value), Vals (zs.map fun x => V.int (key x)) us → EachIs (fun v k => ∃ as, Reads s'.heap v k as) us (zs.map fun x => PyData.int (key x)) := by
        intro zs
        induction zs with
        | nil =>
          intro us hv
          cases hv
          exact .nil
        | cons z zs ih =>
          intro us hv
          cases hv with
          | cons r t =>
            obtain ⟨tk, rfl⟩ := r
            exact .cons ⟨[], reads_int⟩ (ih _ t)
      exact go xs us hk
    have hal : AllAlike (xs.map fun x => PyData.int (key x)) := AllAlike.of (enc := fun x => PyData.int (key x)) fun _ _ => rfl
    have hsk : Sortable (xs.map fun x => PyData.int (key x)) := .inr fun d hd => by
      obtain ⟨x, _, rfl⟩ := List.mem_map.mp hd
      exact ⟨by simp, by simp⟩
    have hu' : ∀ d, d ∈ (xs.map fun x => PyData.int (key x)) → A.units + d.depth < cLine := fun d hd => by
      obtain ⟨x, _, rfl⟩ := List.mem_map.mp hd
      have : (PyData.int (key x)).depth = 0 := by simp [PyData.depth]
      omega
    refine keyH_end (κ := dataKind s'.heap (xs.map fun x => PyData.int (key x))) (h₁ := hideAll s'.heap [kS]) (fun b o _ e => of_hideAll _ e) (hideAll_none _ (by simp)) nk' na' hka (SortsAt.data (s := s') hk' hal hsk hu') hsz hZ fun h3 tk3 c k3 n3 => ?_
    have ko : KeyedOut b (xs.map fun x => PyData.int (key x)) vs (sortVals (dataKind s'.heap (xs.map fun x => PyData.int (key x))) b kA.toList vs) := ⟨s'.heap, kA.toList, hal, rfl, hk'⟩
    have rv' : EachIs (fun u x => L2.RelV x u) vs xs := by
      have go : ∀ {xs : List V} {vs : List Value}, Vals xs vs → EachIs (fun u x => L2.RelV x u) vs xs := fun r => by
        induction r with
        | nil => exact .nil
        | cons r t ih => exact .cons r ih
      exact go rv
    have eo := keyedOut_each (fun x : V => PyData.int (key x)) ko rv'
    have hlen := (ko.length (by rw [List.length_map]; exact hl))
    generalize hout : sortVals (dataKind s'.heap (xs.map fun x => PyData.int (key x))) b kA.toList vs = out at n3 eo hlen
    have vo : Vals (xs.mergeSort (dataLe b fun x => PyData.int (key x))) out := by
      revert eo
      generalize xs.mergeSort (dataLe b fun x => PyData.int (key x)) = ys
      intro eo
      clear n3 hout hlen
      induction eo with
      | nil => exact .nil
      | cons r _ ih => exact .cons r ih
    refine h (xs.mergeSort (dataLe b fun x => PyData.int (key x))) _ (List.mergeSort_perm _ _) ?_ ?_
    · cases b with
      | true =>
        rw [dataGe_int]
        have := List.pairwise_mergeSort (le := fun a b : V => decide (key b ≤ key a)) (fun a b c h1 h2 => by simp at h1 h2 ⊢; omega) (fun a b => by simp; omega) xs
        exact this.imp fun h => by simpa using h
      | false =>
        rw [dataLe_int]
        have := List.pairwise_mergeSort (le := fun a b : V => decide (key a ≤ key b)) (fun a b c h1 h2 => by simp at h1 h2 ⊢; omega) (fun a b => by simp; omega) xs
        exact this.imp fun h => by simpa using h
    · have kp : ∀ b o, b ≠ a → b ≠ kS → s'.heap.get? b = some o → h3.get? b = some o := fun b o h1 h2 e => k3 b o h1 (hideAll_get _ e (by simpa using h2))
      have nH : ∀ {b o}, H b = some o → b ≠ a ∧ b ≠ kS := fun {b o} e => ⟨fun z => (by rw [z, fa.1] at e; cases e), fun z => (by rw [z, fk.1] at e; cases e)⟩
      have neU : ∀ {b : Addr}, b ∉ [a, kS] → b ≠ a ∧ b ≠ kS := fun {b} hb => ⟨fun z => hb (by simp [z]), fun z => hb (by simp [z])⟩
      have hlz : (xs.mergeSort (dataLe b fun x => PyData.int (key x))).length ≤ sizeLine := by
        rw [vo.length, hlen]
        exact hZ
      refine I'.step (g' := s'.gens) (d' := s'.drawn) (t' := tk3) (H' := upd H a (.lst (xs.mergeSort (dataLe b fun x => PyData.int (key x))))) (ch := [a, kS]) (fun b hb => ?_) (fun b o _ _ hc e _ => kp b o (neU hc).1 (neU hc).2 e) (fun b o _ _ hc e _ => ⟨o.slots, kp b o (neU hc).1 (neU hc).2 e⟩)
        (fun b o hc _ n => by rw [upd_ne (neU hc).1]; exact n) (fun b o hc e => ⟨o, kp b o (neU hc).1 (neU hc).2 e⟩) (fun b xs e => by rw [upd_ne (nH e).1]; exact e) (fun b o u e => by rw [upd_ne (nH e).1]; exact e) (fun b ps e => ⟨#[], by rw [upd_ne (nH e).1, e]; simp⟩)
        (fun m hm => ?_) (fun b u e => ?_) I'.bare
      · rcases List.mem_cons.mp hb with rfl | hb
        · exact ⟨fa.2.2.2.1, fa.2.1, fa.2.2.2.2.1, fa.2.2.2.2.2⟩
        · rcases List.mem_singleton.mp hb with rfl
          exact ⟨fk.2.2.2.1, fk.2.1, fk.2.2.2.2.1, fk.2.2.2.2.2⟩
      · obtain ⟨o, es, ep, ho, r⟩ := hm
        exact ⟨o, es, ep, kp _ o (Ne.symm fa.2.1) (Ne.symm fk.2.1) ho, r⟩
      · by_cases hb : b = a
        · subst hb
          rw [upd_same] at e
          cases e
          exact ⟨hlz, out, c, vo, n3⟩
        · rw [upd_ne hb] at e
          refine (I'.hok b u e).stay (fun c v hc q => ?_) (fun c q => by rw [upd_ne (nH q).1]; exact q) fun c xs q => by rw [upd_ne (nH q).1]; exact q
          rcases hc with rfl | hc
          · exact kp _ v (nH e).1 (nH e).2 q
          · exact kp c v (nH hc).1 (nH hc).2 q
/-- sorted(xs, key=o.m, reverse=b) -/
def rSortedM (K : PySem.W.Frag) (sp : Sp) (g : Addr) (b : Bool) : List V → List V → Hp → VK → Prop := fun vs zs H Q => ∃ (a q o : Addr) (xs : List V) (key : V → Int), vs = [V.ref a] ∧ zs = [V.ref q, .bl b] ∧ H q = some (.met g o) ∧ SqL K H a xs ∧
  (∀ x ∈ xs, ∀ Q : VK, Q (.int (key x)) H → sp [.ref o, x] H Q E0) ∧
  ∀ (ys : List V) (p : Addr), ys.Perm xs → ys.Pairwise (fun x y => if b = true then key y ≤ key x else key x ≤ key y) → H p = none → Q (.ref p) (upd H p (.lst ys))
theorem cr_sortedM {b : Bool} {k : Nat} {g : Addr} {sp : Sp} (F : FnR X.prog X.w X.K X.mg X.base CX0 k g sp) (hr : Room (k + 2) X.A) : CallRK X (.builtin "sorted") [Str.ofString "key", Str.ofString "reverse"] (rSortedM X.K sp g b) := by
  intro pins s σ H vs zs us ws Q I r rz h
  obtain ⟨a, q, o, xs, key, rfl, rfl, hq, hs, hkey, kk⟩ := h
  obtain rfl := Vals.ref1 r
  obtain ⟨w1, w2, rfl, e1, e2⟩ := vals2 rz
  obtain rfl : w1 = Value.ref q := e1
  obtain rfl : w2 = Value.bool b := e2
  obtain ⟨its, rv, hl, hz⟩ := I.list hs
  have hZ : its.length ≤ sizeLine := by rw [← rv.length]; exact hz
  have hrA : Room k X.A.in1.in1 := (hr.in1).in1
  refine sorted_of_sort hl.isList hZ (PyProof.Rows.ksk_s2 _ _ _) (fun _ => PyProof.Rows.ksk_l2 _ _ _) fun E' => ?_
  show wpAny (model X.prog X.w) X.A.in1.in1 (Builtin.«list.sort» ⟨[.ref (s.heap.objs.size + 1)], [(Str.ofString "key", .ref q), (Str.ofString "reverse", .bool b)]⟩) _ E' _
  rw [PyProof.Rows.ksk_t2]
  have ho : (copyHeap s.heap its).get? (s.heap.objs.size + 1) = some (seqObj "list" its.toArray 0) := copyHeap_at s.heap its
  obtain ⟨e1, ho1⟩ : ∃ e1, ((copyHeap s.heap its).update (s.heap.objs.size + 1) (Obj.mapSeq fun _ => (#[] : Array Value))).get? (s.heap.objs.size + 1) = some (seqObj "list" #[] e1) := ⟨_, get?_update_seq ho fun _ => #[]⟩
  have ha : s.heap.objs.size + 1 < (copyHeap s.heap its).objs.size := Heap.lt_size ho
  have hkS : (((copyHeap s.heap its).update (s.heap.objs.size + 1) (Obj.mapSeq fun _ => (#[] : Array Value))).push (seqObj "tuple" its.toArray 0)).objs.size = (copyHeap s.heap its).objs.size + 1 := by rw [size_push', Heap.size_update]
  unfold PyProof.Rows.ksk_tree
  refine wpAny_bind (listItems_at ho rfl ?_)
  refine wpAny_bind (listUpdate_at ho rfl ?_ (by rw [List.size_toArray]; exact hZ) (Nat.zero_le _))
  refine wpAny_bind (seqEpoch_at ho1 rfl ?_)
  refine wpAny_bind (wpAny_newTuple ?_ (by show its.length ≤ _; exact hZ))
  refine wpAny_bind (wpAny_newList ?_ (Nat.zero_le _))
  refine wpAny_holding ?_
  have keep : ∀ b o, s.heap.get? b = some o → (sortingHeap (copyHeap s.heap its) (s.heap.objs.size + 1) its).get? b = some o := fun b o e =>
    sortingHeap_old (Nat.ne_of_lt (Nat.lt_succ_of_lt (Heap.lt_size e))) (copyHeap_old e)
  have I1 : L2.Inv X pins σ H { s with heap := sortingHeap (copyHeap s.heap its) (s.heap.objs.size + 1) its } := I.kept (t' := s.toks) keep
  have fa : FpOk X pins H (s.heap.objs.size + 1) := I.fpOk (Nat.le_succ _) (I.hok.fresh (Nat.le_succ _))
  have hkge : s.heap.objs.size ≤ (((copyHeap s.heap its).update (s.heap.objs.size + 1) (Obj.mapSeq fun _ => (#[] : Array Value))).push (seqObj "tuple" its.toArray 0)).objs.size := by rw [hkS]; exact Nat.le_succ_of_le (Nat.le_of_lt (Nat.lt_of_succ_lt ha))
  have fk : FpOk X pins H (((copyHeap s.heap its).update (s.heap.objs.size + 1) (Obj.mapSeq fun _ => (#[] : Array Value))).push (seqObj "tuple" its.toArray 0)).objs.size := I.fpOk hkge (I.hok.fresh hkge)
  refine keyI_rest (key := key) (xs := xs) (s := { s with heap := sortingHeap (copyHeap s.heap its) (s.heap.objs.size + 1) its }) I1 fa fk (by rw [hkS]; exact Nat.ne_of_gt (Nat.lt_succ_of_lt ha)) (Heap.get?_push_size _ rfl) (Heap.get?_push_of_some _ (Heap.get?_push_of_some _ ho1)) rv hZ (by have := hrA.un; omega) (fun x v hx rx pins' s' I' => ?_) fun ys s' hp hw I' => ?_
  · refine wpAny_call (PySem.W.method_call (met_P I' hq).1 (run_at (us := [Value.ref o, v]) (vs := [V.ref o, x]) F hrA rfl I' (.cons rfl (.cons rx .nil)) (hkey x hx (fun u H2 => u = .int (key x) ∧ H2 = H) ⟨rfl, rfl⟩) fun u s2 ⟨y, H2, I2, ry, ey, eh⟩ => ?_))
    subst ey eh
    exact ⟨I2, ry⟩
  · exact ⟨rfl, .ref _, _, I', rfl, kk ys _ hp hw fa.1⟩
end
/-! ### sorted(d), the keys ints -/
theorem ints_at : ∀ {us : List Value} {ks : List Int}, us.length = ks.length → (∀ (j : Nat) (v : Value), us[j]? = some v → ∃ (x : Int) (t : Tok), ks[j]? = some x ∧ v = Value.int x t) → IntsAre us ks
  | [], [], _, _ => .nil
  | u :: us, k :: ks, hl, h => by
    obtain ⟨x, t, e1, e2⟩ := h 0 u rfl
    have e1' : k = x := Option.some.inj e1
    subst e1'
    subst e2
    refine .cons _ _ (ints_at (by simpa using hl) fun j v e => ?_)
    obtain ⟨x, t, a, b⟩ := h (j + 1) v (by simpa using e)
    exact ⟨x, t, by simpa using a, b⟩
  | [], _ :: _, hl, _ => by simp at hl
  | _ :: _, [], hl, _ => by simp at hl
def rSortedDI : List V → Hp → VK → Prop := fun xs H Q => ∃ (a : Addr) (kvs : List (Key × V)) (ns : List Int), xs = [V.ref a] ∧ Rd H a (.dK kvs) ∧ kvs.map (·.1) = ns.map Sum.inl ∧
  ∀ (ns' : List Int) (p : Addr), ns'.Perm ns → ns'.Pairwise (· ≤ ·) → H p = none → Q (.ref p) (upd H p (.lst (ns'.map V.int)))
theorem cr_sortedDI {X : Cx} (hcalm : X.calm = true) : CallR X (.builtin "sorted") rSortedDI := by
  intro pins s σ H xs us Q I r q
  obtain ⟨a, kvs, ks, ex, hd, hks, q⟩ := q
  subst ex
  obtain ⟨u, eu, rx⟩ := vals1 r
  subst eu
  cases rx
  obtain ⟨z, lo, vs, rel, dd⟩ := dk_rd I.hok hd
  obtain ⟨ep, hat⟩ := dd.dictAt
  have hkeys : vs.map (·.1) = ks.map Sum.inl := rel.keys.symm.trans hks
  have hl : vs.length = ks.length := by
    have e := congrArg List.length hkeys
    rw [List.length_map, List.length_map] at e
    exact e
  have h16 : vs.length ≤ sizeLine := by
    have e := Paired.length rel
    rw [← e]
    exact z
  refine Calls.call_function_entry PyProof.Rows.kind_sorted PyProof.Rows.plain_sorted PyProof.Rows.entry_sorted (PyProof.Rows.args_sorted1 _) ?_
  unfold Builtin.«sorted»
  refine wpAny_bind (m := checkCount "sorted" 1 1 _) (wpAny_pure ?_)
  refine wpAny_bind (PySem.W.kdu_collect (A := X.A.in1) (PySem.W.kdl_dict (knd := mixKind X.prog X.w) (kvs := vs) (ep := ep) lo) (I.ok.hd hcalm) hat h16 fun h' tk acc hk hacc => ?_)
  have hal : acc.toList.length = ks.length := by rw [Array.length_toList, hacc.1, hl]
  have hS : IntsAre acc.toList ks := ints_at hal fun j v e => by
    obtain ⟨k, x, e1, e2⟩ := hacc.2 j v (by rw [← Array.getElem?_toList]; exact e)
    have e3 : (vs.map (·.1))[j]? = some k := by rw [List.getElem?_map, e1]; all_goals rfl
    rw [hkeys, List.getElem?_map] at e3
    cases e4 : ks[j]? with
    | none => rw [e4] at e3; cases e3
    | some y =>
      rw [e4] at e3
      have e5 : Sum.inl y = k := Option.some.inj e3
      subst e5
      obtain ⟨t, ev⟩ := Value.isInt_shape (k := y) (v := v) e2
      exact ⟨y, t, rfl, ev⟩
  have hz : acc.toList.length ≤ sizeLine := by rw [hal, ← hl]; exact h16
  have I1 : L2.Inv X pins σ H { s with heap := h', toks := tk } := I.kept hk
  refine wpAny_bind (wpAny_newList ?_ hz)
  have hoL : (h'.push (seqObj "list" acc.toList.toArray 0)).get? h'.objs.size = some (seqObj "list" acc.toList.toArray 0) := Heap.get?_push_size _ rfl
  show wpAny _ _ _ _ _ { s with heap := h'.push (seqObj "list" acc.toList.toArray 0), toks := tk }
  refine wpAny_bind (wpAny_holding (wpAny_call_entry PyProof.Rows.slot_list_sort ⟨_, hoL, rfl⟩ PyProof.Rows.entry_list_sort
    (SrtO.list_sort_ord (s := { s with heap := h'.push (seqObj "list" acc.toList.toArray 0), toks := tk }) SrtO.swo_int hoL hz (fun h2 => SrtO.ints_sortable hS h2) fun out h1 h2 => ⟨_, rfl, ?_⟩) (PyProof.Rows.args_list_sort _)))
  obtain ⟨k1, k2, k3⟩ := SrtO.ints_out hS h1 h2
  obtain ⟨e', he'⟩ := PyProof.Rows.sortedHeap_at (vs := acc.toList) (out := out.toArray) hoL
  have hlen : ((out.map SrtO.iv).map V.int).length ≤ sizeLine := by
    rw [List.length_map, k2.length_eq, ← hl]
    exact h16
  refine wpAny_pure ⟨_, rfl, .ref h'.objs.size, upd H h'.objs.size (.lst ((out.map SrtO.iv).map V.int)), I1.laid (t' := tk) (fun b u e => ?_) (Nat.le_refl _)
    (show ObjOk X.prog X.w _ _ _ (.lst ((out.map SrtO.iv).map V.int)) from ⟨hlen, out, e', vals_of_ints k1, he'⟩), rfl, q _ _ k2 k3 (I1.hok.fresh (Nat.le_refl _))⟩
  have hb : b < h'.objs.size := Heap.lt_size e
  rw [PyProof.Rows.sortedHeap_old (Nat.ne_of_lt hb) (by rw [size_push']; exact Nat.lt_succ_of_lt hb)]
  exact Heap.get?_push_of_some _ e
/-! ### the steps -/
section
variable {K : PySem.W.Frag} {H F : Hp} {m : Mem} {v : V} {α : Type} {R : Rp α} {Q : VK}
theorem ints_of {F : Hp} : ∀ {ns : List Int} {vs : List V}, All2 (rInt F) ns vs → vs = ns.map V.int := fun h => All2.eqmap (f := V.int) h
theorem x_sortedL {ns : List Int} (O : Own H F m) (h : rList rInt F ns v) (k : ∀ ns' w H' F', ns'.Perm ns → ns'.Pairwise (· ≤ ·) → Same F F' → Own H' F' m → rList rInt F' ns' w → Q w H') : rSortedI K [v] H Q := by
  obtain ⟨a, vs, rfl, ha, r⟩ := h
  have e := ints_of r
  subst e
  exact ⟨a, ns, rfl, .inl (.inl (O.frz ha)), fun ns' p h1 h2 hp => k ns' _ _ _ h1 h2 (same_new (O.fresh hp)) (O.new hp) ⟨p, _, rfl, upd_same, All2.ofmap⟩⟩
theorem x_sortedD {d : List (Int × α)} (O : Own H F m) (h : rDict R F d v) (k : ∀ ns' w H' F', ns'.Perm (d.map (·.1)) → ns'.Pairwise (· ≤ ·) → Same F F' → Own H' F' m → rList rInt F' ns' w → Q w H') : rSortedDI [v] H Q := by
  obtain ⟨a, kvs, rfl, ha, r⟩ := h
  have e : kvs.map (·.1) = (d.map (·.1)).map Sum.inl := by
    clear ha k
    induction r with
    | nil => rfl
    | cons h t ih => rw [List.map_cons, List.map_cons, List.map_cons, ih, h.1]
  exact ⟨a, kvs, d.map (·.1), rfl, rd_own O ha, e, fun ns' p h1 h2 hp => k ns' _ _ _ h1 h2 (same_new (O.fresh hp)) (O.new hp) ⟨p, _, rfl, upd_same, All2.ofmap⟩⟩
/-- list(d) -/
theorem x_listD {d : List (Int × α)} (O : Own H F m) (h : rDictX R F d v) (k : ∀ w H' F', Same F F' → Own H' F' m → rList rInt F' (d.map (·.1)) w → Q w H') : rListD [v] H Q := by
  obtain ⟨a, kvs, rfl, ha, r⟩ := h
  exact ⟨a, kvs, rfl, O.frz ha, fun q hq => k _ _ _ (same_new (O.fresh hq)) (O.new hq) ⟨q, _, rfl, upd_same, by rw [r.keys]; exact All2.ofmap⟩⟩
theorem x_listDO {d : List (Int × α)} {a : Addr} {kvs : List (Key × V)} (O : Own H F ((a, .dK kvs) :: m)) (r : kvR R F d kvs) (k : ∀ w H' F', Same F F' → Own H' F' ((a, .dK kvs) :: m) → rList rInt F' (d.map (·.1)) w → Q w H') : rListD [.ref a] H Q :=
  ⟨a, kvs, rfl, O.at0, fun q hq => k _ _ _ (same_new (O.fresh hq)) (O.new hq) ⟨q, _, rfl, upd_same, by rw [r.keys]; exact All2.ofmap⟩⟩
end
def BMQ (C g : Addr) (nm : Str) (Q : VK) : VK := fun x H1 => ∃ a dx fs, x = .ref a ∧ H1 a = some (.ins C dx fs) ∧ fs.lookup nm = none ∧ ∀ q, H1 q = none → Q (.ref q) (upd H1 q (.met g a))
theorem x_bndM {C g : Addr} {nm : Str} {ta : TE} {σ : L2.St} {H : Hp} {Q : VK} (k : ta σ H (BMQ C g nm Q)) : tBndM C g nm ta σ H Q := k
theorem bm_of {C g a dx : Addr} {nm : Str} {fs : List (Str × V)} {H F : Hp} {m : Mem} {Q : VK} (O : Own H F m) (h : F a = some (.ins C dx fs)) (l : fs.lookup nm = none) (k : ∀ q H' F', Same F F' → Own H' F' m → F' q = some (.met g a) → Q (.ref q) H') : BMQ C g nm Q (.ref a) H :=
  ⟨a, dx, fs, rfl, O.frz h, l, fun q hq => k q _ _ (same_new (O.fresh hq)) (O.new hq) upd_same⟩
theorem x_sortedM {K : PySem.W.Frag} {sp : Sp} {g q o : Addr} {b : Bool} {H F : Hp} {m : Mem} {v : V} {Q : VK} {ns : List Int} (O : Own H F m) (h : rList rInt F ns v) (hq : F q = some (.met g o)) (hsp : ∀ n ∈ ns, ∀ Q : VK, Q (.int n) H → sp [.ref o, .int n] H Q E0)
    (k : ∀ ns' w H' F', ns'.Perm ns → ns'.Pairwise (fun x y => if b = true then y ≤ x else x ≤ y) → Same F F' → Own H' F' m → rList rInt F' ns' w → Q w H') : rSortedM K sp g b [v] [.ref q, .bl b] H Q := by
  obtain ⟨a, vs, rfl, ha, r⟩ := h
  have e := ints_of r
  subst e
  refine ⟨a, q, o, ns.map V.int, fun x => (match x with | .int i => i | _ => 0), rfl, rfl, O.frz hq, .inl (.inl (O.frz ha)), fun x hx Q' hQ => ?_, fun ys p hp hw hn => ?_⟩
  · obtain ⟨n, hn, rfl⟩ := List.mem_map.mp hx
    exact hsp n hn Q' hQ
  · obtain ⟨ns', rfl⟩ : ∃ ns' : List Int, ys = ns'.map V.int := by
      have : ∀ y ∈ ys, ∃ n, y = V.int n := fun y hy => by
        obtain ⟨n, _, e⟩ := List.mem_map.mp (hp.mem_iff.mp hy)
        exact ⟨n, e.symm⟩
      clear hp hw
      induction ys with
      | nil => exact ⟨[], rfl⟩
      | cons y ys ih =>
        obtain ⟨n, rfl⟩ := this y List.mem_cons_self
        obtain ⟨r, rfl⟩ := ih fun z hz => this z (List.mem_cons_of_mem _ hz)
        exact ⟨n :: r, rfl⟩
    have hp' : ns'.Perm ns := by
      have e1 : ns' = (ns'.map V.int).map fun x => (match x with | .int i => i | _ => 0) := by
        rw [List.map_map]
        exact (List.map_id' ns').symm
      have e2 : ns = (ns.map V.int).map fun x => (match x with | .int i => i | _ => 0) := by
        rw [List.map_map]
        exact (List.map_id' ns).symm
      rw [e1, e2]
      exact hp.map _
    rw [List.pairwise_map] at hw
    exact k ns' _ _ _ hp' hw (same_new (O.fresh hn)) (O.new hn) ⟨p, _, rfl, upd_same, All2.ofmap⟩
/-- C(..) -/
def MKQ (C : Addr) (sp : Sp) (E : XK) (Q : VK) : List V → Hp → Prop := fun vs H1 => ∀ x dx, H1 x = none → H1 dx = none → dx ≠ x → sp (.ref x :: (vs ++ [])) (upd (upd H1 dx (.own x)) x (.ins C dx [])) (fun v H2 => v = .non ∧ Q (.ref x) H2) E
theorem x_make {C : Addr} {sp : Sp} {E : XK} {t : TA} {σ : L2.St} {H : Hp} {Q : VK} (k : t σ H (MKQ C sp E Q)) : tMake C sp [] E t σ H Q := k
theorem mk_of {C : Addr} {sp : Sp} {E : XK} {H F : Hp} {m : Mem} {Q : VK} {vs : List V} (O : Own H F m) (k : ∀ x dx H' F', H x = none → Same F F' → Own H' F' ((x, .ins C dx []) :: m) → sp (.ref x :: vs) H' (fun v H2 => v = .non ∧ Q (.ref x) H2) E) : MKQ C sp E Q vs H := fun x dx hx hdx hne => by
  rw [List.append_nil]
  have O1 := O.new (o := .own x) hdx
  have hx1 : upd H dx (.own x) x = none := by rw [upd_ne (Ne.symm hne)]; exact hx
  exact k x dx _ _ hx (same_new (O.fresh hdx)) (O1.own hx1)
end Tf
/-! tables of steps, reached states, spectra: plain Lean -/
namespace Tf
abbrev Row := List (Int × Nat)
def WF (rows : List Row) : Prop := 0 < rows.length ∧ ∀ (k : Nat) (row : Row), rows[k]? = some row → ∀ p ∈ row, 0 ≤ p.1 ∧ k < p.2 ∧ p.2 < rows.length
theorem WF.row {rows : List Row} (w : WF rows) {k : Nat} (h : k < rows.length) : ∃ row, rows[k]? = some row := ⟨_, List.getElem?_eq_getElem h⟩
theorem WF.last {rows : List Row} (w : WF rows) {k : Nat} {row : Row} (h : rows[k]? = some row) (e : k + 1 = rows.length) : row = [] := by
  cases row with
  | nil => rfl
  | cons p r =>
    have := w.2 k _ h p List.mem_cons_self
    omega
inductive Reach (rows : List Row) : Nat → Prop
  | first : Reach rows 0
  | step {k : Nat} {row : Row} {p : Int × Nat} : Reach rows k → rows[k]? = some row → p ∈ row → Reach rows p.2
theorem Reach.lt {rows : List Row} (w : WF rows) {k : Nat} (h : Reach rows k) : k < rows.length := by
  cases h with
  | first => exact w.1
  | step _ h1 h2 => exact (w.2 _ _ h1 _ h2).2.2
/-- one step's lengths are looked at -/
def leastStep (cost : Int) (lens : List (Int × Int)) (acc : List (Int × Int)) (k : Int) : List (Int × Int) :=
  let total := cost + (getD lens k).getD 0
  match getD acc (k + 1) with
  | none => putD acc (k + 1) total
  | some x => if total < x then putD acc (k + 1) total else acc
def leastAll (cost : Int) (lens acc : List (Int × Int)) : List (Int × Int) := (lens.map (·.1)).foldl (leastStep cost lens) acc
def leastOf (row : Row) (look : Nat → List (Int × Int)) : List (Int × Int) := row.foldl (fun acc p => leastAll p.1 (look p.2) acc) []
def lensF (rows : List Row) : Nat → Nat → List (Int × Int)
  | 0, _ => []
  | n + 1, k => if k + 1 = rows.length then [(0, 0)] else leastOf ((rows[k]?).getD []) (lensF rows n)
def lens (rows : List Row) (k : Nat) : List (Int × Int) := lensF rows (rows.length - k) k
theorem leastOf_congr {row : Row} {f g : Nat → List (Int × Int)} (h : ∀ p ∈ row, f p.2 = g p.2) : leastOf row f = leastOf row g := by
  unfold leastOf
  generalize ([] : List (Int × Int)) = acc
  induction row generalizing acc with
  | nil => rfl
  | cons p r ih =>
    rw [List.foldl_cons, List.foldl_cons, h p List.mem_cons_self]
    exact ih (fun q hq => h q (List.mem_cons_of_mem _ hq)) _
theorem lensF_fuel {rows : List Row} (w : WF rows) : ∀ (n k : Nat), k < rows.length → rows.length - k ≤ n → lensF rows n k = lens rows k := by
  have main : ∀ (n m k : Nat), k < rows.length → rows.length - k ≤ n → rows.length - k ≤ m → lensF rows n k = lensF rows m k := by
    intro n
    induction n with
    | zero =>
      intro m k hk h1 h2
      omega
    | succ n ih =>
      intro m k hk h1 h2
      cases m with
      | zero => omega
      | succ m =>
        unfold lensF
        split
        · rfl
        · refine leastOf_congr fun p hp => ?_
          obtain ⟨row, hr⟩ := w.row hk
          rw [hr] at hp
          have := w.2 k row hr p hp
          exact ih m p.2 this.2.2 (by omega) (by omega)
  intro n k hk h
  exact main n _ k hk h (Nat.le_refl _)
theorem lens_last {rows : List Row} {k : Nat} (e : k + 1 = rows.length) : lens rows k = [(0, 0)] := by
  unfold lens
  rw [show rows.length - k = 0 + 1 by omega]
  unfold lensF
  rw [if_pos e]
theorem lens_row {rows : List Row} (w : WF rows) {k : Nat} {row : Row} (hr : rows[k]? = some row) (e : k + 1 ≠ rows.length) : lens rows k = leastOf row (lens rows) := by
  have hk : k < rows.length := (List.getElem?_eq_some_iff.mp hr).1
  have e1 : lens rows k = lensF rows ((rows.length - k - 1) + 1) k := congrArg (fun n => lensF rows n k) (show rows.length - k = (rows.length - k - 1) + 1 by omega)
  rw [e1]
  unfold lensF
  rw [if_neg e, hr]
  refine leastOf_congr fun p hp => ?_
  have := w.2 k row hr p hp
  exact lensF_fuel w _ _ this.2.2 (by omega)
/-! the lengths differ and are few -/
def Keys (B : Nat) (d : List (Int × Int)) : Prop := (d.map (·.1)).Nodup ∧ ∀ x ∈ d.map (·.1), 0 ≤ x ∧ x < (B : Int)
theorem nodup_len : ∀ (B : Nat) (l : List Int), l.Nodup → (∀ x ∈ l, 0 ≤ x ∧ x < (B : Int)) → l.length ≤ B
  | 0, l, _, h => by
    cases l with
    | nil => exact Nat.le_refl _
    | cons x l =>
      have := h x List.mem_cons_self
      omega
  | B + 1, l, hn, h => by
    by_cases hm : (B : Int) ∈ l
    · have h1 := nodup_len B (l.erase (B : Int)) (hn.erase _) fun x hx => by
        have hx' := (hn.mem_erase_iff).mp hx
        have := h x hx'.2
        omega
      rw [List.length_erase_of_mem hm] at h1
      omega
    · have := nodup_len B l hn fun x hx => by
        have := h x hx
        have : x ≠ (B : Int) := fun e => hm (e ▸ hx)
        omega
      omega
theorem Keys.len {B : Nat} {d : List (Int × Int)} (h : Keys B d) : d.length ≤ B := by
  have := nodup_len B _ h.1 h.2
  rw [List.length_map] at this
  exact this
theorem Keys.put {B : Nat} {d : List (Int × Int)} {k x : Int} (h : Keys B d) (hk : 0 ≤ k ∧ k < (B : Int)) : Keys B (putD d k x) := by
  refine ⟨putD_nodup h.1, fun y hy => ?_⟩
  rw [putD_keys] at hy
  split at hy
  · exact h.2 y hy
  · rcases List.mem_append.mp hy with q | q
    · exact h.2 y q
    · rw [List.mem_singleton.mp q]
      exact hk
theorem Keys.step {B : Nat} {cost : Int} {ls acc : List (Int × Int)} {k : Int} (h : Keys (B + 1) acc) (hk : 0 ≤ k ∧ k < (B : Int)) : Keys (B + 1) (leastStep cost ls acc k) := by
  unfold leastStep
  dsimp only
  split
  · exact h.put (by omega)
  · split
    · exact h.put (by omega)
    · exact h
theorem Keys.fold {B : Nat} {cost : Int} {ls : List (Int × Int)} : ∀ (l : List Int) {acc : List (Int × Int)}, Keys (B + 1) acc → (∀ x ∈ l, 0 ≤ x ∧ x < (B : Int)) → Keys (B + 1) (l.foldl (leastStep cost ls) acc)
  | [], _, h, _ => h
  | x :: l, _, h, hl => Keys.fold l (h.step (hl x List.mem_cons_self)) fun y hy => hl y (List.mem_cons_of_mem _ hy)
theorem Keys.all {B : Nat} {cost : Int} {ls acc : List (Int × Int)} (h : Keys (B + 1) acc) (hl : Keys B ls) : Keys (B + 1) (leastAll cost ls acc) := Keys.fold _ h hl.2
theorem Keys.nil {B : Nat} : Keys B [] := ⟨List.nodup_nil, fun _ h => (nomatch h)⟩
theorem Keys.of {B : Nat} {look : Nat → List (Int × Int)} : ∀ (row : Row) (acc : List (Int × Int)), Keys (B + 1) acc → (∀ p ∈ row, Keys B (look p.2)) → Keys (B + 1) (row.foldl (fun acc p => leastAll p.1 (look p.2) acc) acc)
  | [], _, h, _ => h
  | p :: row, _, h, hl => Keys.of row _ (h.all (hl p List.mem_cons_self)) fun q hq => hl q (List.mem_cons_of_mem _ hq)
theorem Keys.mono {B C : Nat} {d : List (Int × Int)} (h : Keys B d) (hb : B ≤ C) : Keys C d := ⟨h.1, fun x hx => by have := h.2 x hx; omega⟩
theorem lens_keys {rows : List Row} (w : WF rows) : ∀ (n k : Nat), k + n = rows.length → 0 < n → Keys n (lens rows k) := by
  intro n
  induction n using Nat.strongRecOn with
  | _ n ih =>
    intro k hk hn
    by_cases e : k + 1 = rows.length
    · rw [lens_last e]
      refine ⟨by simp, fun x hx => ?_⟩
      simp at hx
      subst hx
      omega
    · have hlt : k < rows.length := by omega
      obtain ⟨row, hr⟩ := w.row hlt
      rw [lens_row w hr e]
      obtain ⟨m, rfl⟩ : ∃ m, n = m + 1 := ⟨n - 1, by omega⟩
      refine Keys.of row [] Keys.nil fun p hp => ?_
      have h := w.2 k row hr p hp
      have := ih (rows.length - p.2) (by omega) p.2 (by omega) (by omega)
      exact this.mono (by omega)
/-! what is not yet found weighs -/
def wt (rows : List Row) (ks : List Int) : Nat := ((List.range rows.length).map fun k : Nat => if (k : Int) ∈ ks then 0 else ((rows[k]?).getD []).length + 1).sum
theorem sum_change : ∀ (L : List Nat) (f g : Nat → Nat) (k : Nat), L.Nodup → k ∈ L → (∀ j ∈ L, j ≠ k → f j = g j) → f k = 0 → (L.map f).sum + g k = (L.map g).sum
  | [], _, _, _, _, h, _, _ => by cases h
  | a :: L, f, g, k, hn, hk, hfg, h0 => by
    obtain ⟨h1, h2⟩ := List.nodup_cons.mp hn
    rw [List.map_cons, List.map_cons, List.sum_cons, List.sum_cons]
    by_cases e : a = k
    · subst e
      have : L.map f = L.map g := List.map_congr_left fun j hj => hfg j (List.mem_cons_of_mem _ hj) fun z => h1 (z ▸ hj)
      rw [this, h0]
      omega
    · have hk' : k ∈ L := (List.mem_cons.mp hk).resolve_left fun z => e z.symm
      have := sum_change L f g k h2 hk' (fun j hj => hfg j (List.mem_cons_of_mem _ hj)) h0
      rw [hfg a List.mem_cons_self e]
      omega
theorem wt_add {rows : List Row} {ks : List Int} {k : Nat} {row : Row} (hr : rows[k]? = some row) (hn : (k : Int) ∉ ks) : wt rows (ks ++ [(k : Int)]) + (row.length + 1) = wt rows ks := by
  have hk : k < rows.length := (List.getElem?_eq_some_iff.mp hr).1
  have := sum_change (List.range rows.length) (fun j : Nat => if (j : Int) ∈ ks ++ [(k : Int)] then 0 else ((rows[j]?).getD []).length + 1) (fun j : Nat => if (j : Int) ∈ ks then 0 else ((rows[j]?).getD []).length + 1) k List.nodup_range (List.mem_range.mpr hk)
    (fun j _ hj => by
      have : ((j : Int) ∈ ks ++ [(k : Int)]) ↔ (j : Int) ∈ ks := by
        rw [List.mem_append, List.mem_singleton]
        constructor
        · rintro (h | h)
          · exact h
          · omega
        · exact .inl
      by_cases h : (j : Int) ∈ ks
      · rw [if_pos h, if_pos (this.mpr h)]
      · rw [if_neg h, if_neg fun z => h (this.mp z)]) (by rw [if_pos (by simp)])
  unfold wt
  rw [if_neg hn, hr] at this
  exact this
theorem sum_range : ∀ (rows : List Row), ((List.range rows.length).map fun k : Nat => ((rows[k]?).getD []).length + 1).sum = rows.length + (rows.map List.length).sum
  | [] => rfl
  | r :: rows => by
    have ih := sum_range rows
    rw [List.length_cons, List.range_succ_eq_map, List.map_cons, List.map_map, List.sum_cons, List.map_cons, List.sum_cons]
    have : ((List.range rows.length).map ((fun k : Nat => (((r :: rows)[k]?).getD []).length + 1) ∘ Nat.succ)) = (List.range rows.length).map fun k : Nat => ((rows[k]?).getD []).length + 1 := List.map_congr_left fun j _ => by simp
    rw [this, ih]
    simp
    omega
theorem wt_nil (rows : List Row) : wt rows [] = rows.length + (rows.map List.length).sum := by
  rw [← sum_range]
  unfold wt
  congr 1
/-! sorted lists of ints are one -/
theorem sorted_one {l1 l2 : List Int} (hp : l1.Perm l2) (h1 : l1.Pairwise (· ≤ ·)) (h2 : l2.Pairwise (· ≤ ·)) : l1 = l2 :=
  hp.eq_of_pairwise (fun a b _ _ h1 h2 => Int.le_antisymm h1 h2) h1 h2
def sortI (l : List Int) : List Int := l.mergeSort (fun a b => decide (a ≤ b))
theorem sortI_perm (l : List Int) : (sortI l).Perm l := List.mergeSort_perm _ _
theorem sortI_sorted (l : List Int) : (sortI l).Pairwise (· ≤ ·) := by
  have := List.pairwise_mergeSort (le := fun a b : Int => decide (a ≤ b)) (fun a b c h1 h2 => by simp at h1 h2 ⊢; omega) (fun a b => by simp; omega) l
  exact this.imp fun h => by simpa using h
theorem sortI_eq {l l' : List Int} (hp : l'.Perm l) (h : l'.Pairwise (· ≤ ·)) : l' = sortI l := sorted_one (hp.trans (sortI_perm l).symm) h (sortI_sorted l)
/-- the told form of a spectrum -/
def told (d : List (Int × Int)) : List (Int × Int) := (sortI (d.map (·.1))).map fun k => (k, (getD d k).getD 0)
end Tf
/-! the promises of table tasks, of steps_of_reached, of least_lengths, of Lengths -/
namespace Tf
open PySem PySem.Spec PyProof.Rows L2
abbrev rRow : Rp Row := rList (rPair rInt rNat)
abbrev rRows : Rp (List Row) := rList rRow
abbrev rRowS : Rp Row := rSeq (rPair rInt rNat)
abbrev rRowsS : Rp (List Row) := rSeq rRowS
/-- a table task -/
def rTask (C : Addr) : Rp (List Row) := fun F rows v => ∃ a dx t, v = .ref a ∧ F a = some (.ins C dx [("_table", t)]) ∧ rRows F rows t
instance {C : Addr} : MonoS (rTask C) := ⟨fun s ⟨a, dx, t, e, h, r⟩ => ⟨a, dx, t, e, s _ _ h, up s r⟩⟩
def spTInit (C : Addr) : Sp := fun vs H Q _ => ∃ x dx v rows F m, vs = [.ref x, v] ∧ Own H F ((x, .ins C dx []) :: m) ∧ rRowsS F rows v ∧ WF rows ∧ rows.length < 16777216 ∧ (∀ row ∈ rows, row.length < 16777216) ∧
  ∀ H' F' t, Same F F' → Own H' F' ((x, .ins C dx [("_table", t)]) :: m) → rRows F' rows t → Q .non H'
def spTFirst (C : Addr) : Sp := fun vs H Q _ => ∃ v rows F m, vs = [v] ∧ Own H F m ∧ rTask C F rows v ∧ Q (.int 0) H
def spTEnd (C : Addr) : Sp := fun vs H Q _ => ∃ (v : V) (rows : List Row) (k : Nat) (F : Hp) (m : Mem), vs = [v, .int (k : Int)] ∧ Own H F m ∧ rTask C F rows v ∧ Q (.bl (decide (k + 1 = rows.length))) H
def spTSteps (C : Addr) : Sp := fun vs H Q _ => ∃ (v : V) (rows : List Row) (k : Nat) (row : Row) (F : Hp) (m : Mem), vs = [v, .int (k : Int)] ∧ Own H F m ∧ rTask C F rows v ∧ rows[k]? = some row ∧
  ∀ w H' F', Same F F' → Own H' F' m → rRow F' row w → Q w H'
def spTRank : Sp := fun vs H Q _ => ∃ v k, vs = [v, .int k] ∧ Q (.int k) H
/-- found: the reached states and their steps -/
structure Found (rows : List Row) (d : List (Int × Row)) : Prop where
  nd : (d.map (·.1)).Nodup
  ent : ∀ p ∈ d, ∃ k : Nat, p.1 = (k : Int) ∧ rows[k]? = some p.2
  all : ∀ k : Nat, (k : Int) ∈ d.map (·.1) ↔ Reach rows k
def spReached (C : Addr) : Sp := fun vs H Q _ => ∃ v rows F m, vs = [v] ∧ Own H F m ∧ rTask C F rows v ∧ WF rows ∧ (rows.length + (rows.map List.length).sum < 1000000) ∧
  ∀ w H' F' d, Same F F' → Own H' F' m → rDictX rRow F' d w → Found rows d → Q w H'
abbrev rLens : Rp (List (Int × Int)) := rDictX rInt
def spLeast : Sp := fun vs H Q _ => ∃ (v w : V) (row : Row) (tab : List (Int × List (Int × Int))) (look : Nat → List (Int × Int)) (B : Nat) (F : Hp) (m : Mem), vs = [v, w] ∧ Own H F m ∧ rRow F row v ∧ rDictX rLens F tab w ∧ (∀ p ∈ row, getD tab (p.2 : Int) = some (look p.2) ∧ Keys B (look p.2)) ∧ B < 1000000 ∧
  ∀ p kvs H', Own H' F ((p, .dK kvs) :: m) → kvR rInt F (leastOf row look) kvs → Q (.ref p) H'
structure TabOk (rows : List Row) (tab : List (Int × List (Int × Int))) : Prop where
  nd : (tab.map (·.1)).Nodup
  ent : ∀ p ∈ tab, ∃ k : Nat, p.1 = (k : Int) ∧ k < rows.length ∧ p.2 = lens rows k
  all : ∀ k : Nat, (k : Int) ∈ tab.map (·.1) ↔ Reach rows k
def lF (t f b : V) : List (Str × V) := [("_task", t), ("_found", f), ("_table", b)]
/-- an instance of Lengths -/
def rLengths (C CT : Addr) : Rp (List Row) := fun F rows v => ∃ a dx t f b d tab, v = .ref a ∧ F a = some (.ins C dx (lF t f b)) ∧ rTask CT F rows t ∧ rDictX rRow F d f ∧ Found rows d ∧ rDictX rLens F tab b ∧ TabOk rows tab
instance {C CT : Addr} : MonoS (rLengths C CT) := ⟨fun s ⟨a, dx, t, f, b, d, tab, e, h, h1, h2, h3, h4, h5⟩ => ⟨a, dx, t, f, b, d, tab, e, s _ _ h, up s h1, up s h2, h3, up s h4, h5⟩⟩
def spLInit (C CT : Addr) : Sp := fun vs H Q _ => ∃ x dx v rows F m, vs = [.ref x, v] ∧ Own H F ((x, .ins C dx []) :: m) ∧ rTask CT F rows v ∧ WF rows ∧ (rows.length + (rows.map List.length).sum < 1000000) ∧
  ∀ H' F' f b d tab, Same F F' → Own H' F' ((x, .ins C dx (lF v f b)) :: m) → rDictX rRow F' d f → Found rows d → rDictX rLens F' tab b → TabOk rows tab → Q .non H'
abbrev rTold : Rp (List (Int × Int)) := rTup (rPair rInt rInt)
def spTold (C CT : Addr) : Sp := fun vs H Q _ => ∃ (v : V) (rows : List Row) (k : Nat) (F : Hp) (m : Mem), vs = [v, .int (k : Int)] ∧ Own H F m ∧ rLengths C CT F rows v ∧ WF rows ∧ rows.length < 1000000 ∧ Reach rows k ∧
  ∀ w H' F', Same F F' → Own H' F' m → rTold F' (told (lens rows k)) w → Q w H'
def spSpec (C CT : Addr) : Sp := fun vs H Q _ => ∃ v rows F m, vs = [v] ∧ Own H F m ∧ rLengths C CT F rows v ∧ WF rows ∧ rows.length < 1000000 ∧
  ∀ w H' F', Same F F' → Own H' F' m → rTold F' (told (lens rows 0)) w → Q w H'
/-- a spectrum paper -/
abbrev rPaper : Rp (List (Int × List (Int × Int))) := rTup (rPair rInt rTold)
def PaperOk (rows : List Row) (p : List (Int × List (Int × Int))) : Prop := ∃ ks : List Int, ks.Nodup ∧ ks.Pairwise (· ≤ ·) ∧ (∀ x ∈ ks, 0 ≤ x) ∧ (∀ k : Nat, (k : Int) ∈ ks ↔ Reach rows k) ∧ p = ks.map fun k => (k, told (lens rows k.toNat))
def spPaper (C CT : Addr) : Sp := fun vs H Q _ => ∃ v rows F m, vs = [v] ∧ Own H F m ∧ rLengths C CT F rows v ∧ WF rows ∧ rows.length < 1000000 ∧
  ∀ w H' F' p, Same F F' → Own H' F' m → rPaper F' p w → PaperOk rows p → Q w H'
/-- the defs of the top: spectrum, spectra -/
def spTopSpec (CT : Addr) : Sp := fun vs H Q _ => ∃ v rows F m, vs = [v] ∧ Own H F m ∧ rTask CT F rows v ∧ WF rows ∧ (rows.length + (rows.map List.length).sum < 1000000) ∧
  ∀ w H' F', Same F F' → Own H' F' m → rTold F' (told (lens rows 0)) w → Q w H'
def spTopSpectra (CT : Addr) : Sp := fun vs H Q _ => ∃ v rows F m, vs = [v] ∧ Own H F m ∧ rTask CT F rows v ∧ WF rows ∧ (rows.length + (rows.map List.length).sum < 1000000) ∧
  ∀ w H' F' p, Same F F' → Own H' F' m → rPaper F' p w → PaperOk rows p → Q w H'
/-! fields -/
theorem lk_eq {k : Str} {v : V} {fs : List (Str × V)} : ((k, v) :: fs).lookup k = some v := by simp
theorem lk_ne {k k' : Str} {v : V} {fs : List (Str × V)} (h : (k == k') = false) : ((k', v) :: fs).lookup k = fs.lookup k := by simp [List.lookup_cons, h]
theorem put_ne {k k' : Str} {v w : V} {fs : List (Str × V)} (h : ¬ k' = k) : putF k v ((k', w) :: fs) = (k', w) :: putF k v fs := by
  show (if k' = k then _ else _) = _
  rw [if_neg h]
theorem lF_task {t f b : V} : (lF t f b).lookup ("_task" : Str) = some t := lk_eq
theorem lF_found {t f b : V} : (lF t f b).lookup ("_found" : Str) = some f := by
  unfold lF
  rw [lk_ne (by decide +kernel), lk_eq]
theorem lF_table {t f b : V} : (lF t f b).lookup ("_table" : Str) = some b := by
  unfold lF
  rw [lk_ne (by decide +kernel), lk_ne (by decide +kernel), lk_eq]
section
variable {K : PySem.W.Frag} {σ : L2.St} {H F : Hp} {m : Mem} {Q : VK} {v : V}
/-- a field is read: of a thing that stands still, of one of ours -/
theorem x_fldF {a C dx : Addr} {fs : List (Str × V)} {f : Str} (O : Own H F m) (h : F a = some (.ins C dx fs)) (c : Cls K C) (n : NoAttr K C f) (l : fs.lookup f = some v) (k : Q v H) :
    FQ K f Q (.ref a) H := ⟨a, C, dx, fs, v, rfl, O.frz h, c, n, l, k⟩
theorem x_fldO {a C dx : Addr} {fs : List (Str × V)} {f : Str} (h : H a = some (.ins C dx fs)) (c : Cls K C) (n : NoAttr K C f) (l : fs.lookup f = some v) (k : Q v H) :
    FQ K f Q (.ref a) H := ⟨a, C, dx, fs, v, rfl, h, c, n, l, k⟩
end
theorem lF_make {t f b : V} : putF "_table" b (putF "_found" f (putF "_task" t [])) = lF t f b := by
  have e1 : putF "_task" t [] = ([("_task", t)] : List (Str × V)) := rfl
  have e2 : putF "_found" f ([("_task", t)] : List (Str × V)) = ([("_task", t), ("_found", f)] : List (Str × V)) := by
    rw [put_ne (k := "_found") (k' := "_task") (by decide +kernel)]
    rfl
  have e3 : putF "_table" b ([("_task", t), ("_found", f)] : List (Str × V)) = lF t f b := by
    rw [put_ne (k := "_table") (k' := "_task") (by decide +kernel), put_ne (k := "_table") (k' := "_found") (by decide +kernel)]
    rfl
  rw [e1, e2, e3]
/-- the class Lengths -/
structure LCls (K : PySem.W.Frag) (C : Addr) : Prop where
  cl : Cls K C
  n1 : NoAttr K C "_task"
  n2 : NoAttr K C "_found"
  n3 : NoAttr K C "_table"
/-! the law's own -/
def spCost : Sp := fun vs H Q _ => ∃ p o F m, vs = [.ref p] ∧ Own H F ((p, o) :: m) ∧ PoolOk F o ∧ ∀ r H' o', 0 ≤ r → Own H' F ((p, o') :: m) → PoolOk F o' → Q (.int r) H'
structure RowsOk (rows : List Row) : Prop where
  wf : WF rows
  len : rows.length ≤ 2000
  few : ∀ row ∈ rows, row.length ≤ 7
def spRows : Sp := fun vs H Q _ => ∃ p o F m, vs = [.ref p] ∧ Own H F ((p, o) :: m) ∧ PoolOk F o ∧ ∀ w H' F' o' rows, Same F F' → Own H' F' ((p, o') :: m) → PoolOk F' o' → rRows F' rows w → RowsOk rows → Q w H'
theorem RowsOk.sum {rows : List Row} (h : RowsOk rows) : rows.length + (rows.map List.length).sum < 1000000 := by
  have : ∀ (l : List Row), (∀ r ∈ l, r.length ≤ 7) → (l.map List.length).sum ≤ 7 * l.length := by
    intro l
    induction l with
    | nil => exact fun _ => Nat.le_refl _
    | cons r l ih =>
      intro hl
      have h1 := hl r List.mem_cons_self
      have h2 := ih fun q hq => hl q (List.mem_cons_of_mem _ hq)
      rw [List.map_cons, List.sum_cons, List.length_cons]
      omega
  have h1 := this rows h.few
  have h2 := h.len
  omega
/-- rows under way: the i-th rows of those that lead to below many -/
structure RowsTo (many : Nat) (rs : List Row) : Prop where
  ent : ∀ (j : Nat) (row : Row), rs[j]? = some row → row.length ≤ 7 ∧ ∀ q ∈ row, 0 ≤ q.1 ∧ j < q.2 ∧ q.2 < many
theorem RowsTo.nil {many : Nat} : RowsTo many [] := ⟨fun j row h => by simp at h⟩
theorem RowsTo.snoc {many : Nat} {rs : List Row} {row : Row} (h : RowsTo many rs) (h1 : row.length ≤ 7) (h2 : ∀ q ∈ row, 0 ≤ q.1 ∧ rs.length < q.2 ∧ q.2 < many) : RowsTo many (rs ++ [row]) := ⟨fun j r hr => by
  by_cases hj : j < rs.length
  · rw [List.getElem?_append_left hj] at hr
    exact h.ent j r hr
  · rw [List.getElem?_append_right (by omega)] at hr
    have : j = rs.length := by
      have := (List.getElem?_eq_some_iff.mp hr).1
      simp at this
      omega
    subst this
    simp at hr
    subst hr
    exact ⟨h1, h2⟩⟩
theorem RowsTo.done {many : Nat} {rs : List Row} (h : RowsTo many rs) (hl : rs.length + 1 = many) (hm : many ≤ 2000) : RowsOk (rs ++ [[]]) := by
  have hlen : (rs ++ [([] : Row)]).length = many := by
    rw [List.length_append]
    exact hl
  have g := h.snoc (row := []) (by simp) (fun q hq => (nomatch hq))
  refine ⟨⟨by omega, fun k row hr p hp => ?_⟩, by omega, fun row hr => ?_⟩
  · rw [hlen]
    exact (g.ent k row hr).2 p hp
  · obtain ⟨k, hk⟩ := List.getElem?_of_mem hr
    exact (g.ent k row hk).1
/-- a row under way -/
def RowTo (k many : Nat) (row : Row) : Prop := ∀ q ∈ row, 0 ≤ q.1 ∧ k < q.2 ∧ q.2 < many
theorem RowTo.snoc {k many : Nat} {row : Row} {c : Int} {a : Nat} (h : RowTo k many row) (h1 : 0 ≤ c) (h2 : k < a) (h3 : a < many) : RowTo k many (row ++ [(c, a)]) := fun q hq => by
  rcases List.mem_append.mp hq with hq | hq
  · exact h q hq
  · rw [List.mem_singleton.mp hq]
    exact ⟨h1, h2, h3⟩
def spLawLens : Sp := fun vs H Q _ => ∃ v rows F m, vs = [v] ∧ Own H F m ∧ rRows F rows v ∧ RowsOk rows ∧ ∀ w H' F', Same F F' → Own H' F' m → rList rLens F' ((List.range rows.length).map (lens rows)) w → Q w H'
def spLawTold : Sp := fun vs H Q _ => ∃ v d F m, vs = [v] ∧ Own H F m ∧ rLens F d v ∧ d.length < 1000000 ∧ ∀ w H' F', Same F F' → Own H' F' m → rTold F' (told d) w → Q w H'
def spLawPaper : Sp := fun vs H Q _ => ∃ v rows F m, vs = [v] ∧ Own H F m ∧ rRows F rows v ∧ RowsOk rows ∧ ∀ w H' F' p, Same F F' → Own H' F' m → rPaper F' p w → PaperOk rows p → Q w H'
theorem perm_of {l1 l2 : List Int} (h1 : l1.Nodup) (h2 : l2.Nodup) (h : ∀ x, x ∈ l1 ↔ x ∈ l2) : l1.Perm l2 := (List.perm_ext_iff_of_nodup h1 h2).mpr h
theorem PaperOk.one {rows : List Row} {p q : List (Int × List (Int × Int))} (hp : PaperOk rows p) (hq : PaperOk rows q) : p = q := by
  obtain ⟨ks, a1, a2, a3, a4, rfl⟩ := hp
  obtain ⟨ls, b1, b2, b3, b4, rfl⟩ := hq
  have e : ks = ls := sorted_one (perm_of a1 b1 fun x => ⟨fun h => by
    have := a3 x h
    obtain ⟨n, rfl⟩ : ∃ n : Nat, x = (n : Int) := ⟨x.toNat, by omega⟩
    exact (b4 n).mpr ((a4 n).mp h), fun h => by
    have := b3 x h
    obtain ⟨n, rfl⟩ : ∃ n : Nat, x = (n : Int) := ⟨x.toNat, by omega⟩
    exact (a4 n).mpr ((b4 n).mp h)⟩) a2 b2
  rw [e]
theorem PaperOk.first {rows : List Row} {p : List (Int × List (Int × Int))} (hp : PaperOk rows p) : p[0]? = some (0, told (lens rows 0)) := by
  obtain ⟨ks, a1, a2, a3, a4, rfl⟩ := hp
  have h0 : (0 : Int) ∈ ks := (a4 0).mpr .first
  cases ks with
  | nil => cases h0
  | cons k ks =>
    have e : k = 0 := by
      rcases List.mem_cons.mp h0 with h | h
      · exact h.symm
      · have := (List.pairwise_cons.mp a2).1 0 h
        have := a3 k List.mem_cons_self
        omega
    subst e
    rfl
theorem PaperOk.len {rows : List Row} {p : List (Int × List (Int × Int))} (hp : PaperOk rows p) (w : WF rows) : p.length ≤ rows.length ∧ ∀ x ∈ p, x.2.length ≤ rows.length := by
  obtain ⟨ks, a1, a2, a3, a4, rfl⟩ := hp
  have hk : ∀ x ∈ ks, 0 ≤ x ∧ x < (rows.length : Int) := fun x hx => by
    have h0 := a3 x hx
    obtain ⟨n, rfl⟩ : ∃ n : Nat, x = (n : Int) := ⟨x.toNat, by omega⟩
    have := ((a4 n).mp hx).lt w
    omega
  refine ⟨?_, fun x hx => ?_⟩
  · rw [List.length_map]
    exact nodup_len _ _ a1 hk
  · obtain ⟨k, h, rfl⟩ := List.mem_map.mp hx
    have := hk k h
    show (told (lens rows k.toNat)).length ≤ _
    unfold told
    rw [List.length_map, (sortI_perm _).length_eq, List.length_map]
    have := (lens_keys w (rows.length - k.toNat) k.toNat (by omega) (by omega)).len
    omega
/-! papers are alike -/
theorem sim_told {F : Hp} {d : List (Int × Int)} {v w : V} (hl : d.length < 16777216) (h : rTold F d v) (h' : rTold F d w) : Sim F 2 v w := by
  have : SimR (rPair rInt rInt) 1 := sim_pair (R := rInt) (S := rInt) (n := 0) SimR.sim SimR.sim
  exact sim_tup hl h h'
theorem all2_simX {α : Type} {R : Rp α} {n : Nat} {F : Hp} : ∀ {xs : List α} {vs ws : List V}, (∀ x ∈ xs, ∀ v w, R F x v → R F x w → Sim F n v w) → All2 (R F) xs vs → All2 (R F) xs ws → All2 (Sim F n) vs ws
  | _, _, _, _, .nil, .nil => .nil
  | _, _, _, f, .cons h t, .cons h' t' => .cons (f _ List.mem_cons_self _ _ h h') (all2_simX (fun x hx => f x (List.mem_cons_of_mem _ hx)) t t')
theorem sim_paper {F : Hp} {p : List (Int × List (Int × Int))} {v w : V} (hl : p.length < 16777216) (hx : ∀ x ∈ p, x.2.length < 16777216) : rPaper F p v → rPaper F p w → Sim F 4 v w := fun ⟨a, vs, e, h, r⟩ ⟨a', vs', e', h', r'⟩ =>
  .inr ⟨a, a', vs, vs', e, e', all2_simX (fun x hm v w ⟨b, u, z, e1, hb, hu, hz⟩ ⟨b', u', z', e2, hb', hu', hz'⟩ =>
    .inr ⟨b, b', _, _, e1, e2, .cons ((SimR.sim (R := rInt) (n := 0) hu hu').le (by decide)) (.cons (sim_told (hx x hm) hz hz') .nil), by show 2 < _; decide, .inl ⟨hb, hb'⟩⟩) r r', by rw [← r.length]; exact hl, .inl ⟨h, h'⟩⟩
theorem sim_rows {F : Hp} {p : List Row} {v w : V} (hl : p.length < 16777216) (hx : ∀ x ∈ p, x.length < 16777216) : rRows F p v → rRows F p w → Sim F 4 v w := fun ⟨a, vs, e, h, r⟩ ⟨a', vs', e', h', r'⟩ => by
  have : SimR (rPair rInt rNat) 1 := sim_pair (R := rInt) (S := rNat) (n := 0) SimR.sim SimR.sim
  exact Sim.le (n := 3) (by decide) (.inr ⟨a, a', vs, vs', e, e', all2_simX (fun x hm v w h1 h2 => sim_list (hx x hm) h1 h2) r r', by rw [← r.length]; exact hl, .inr ⟨h, h'⟩⟩)
end Tf
/-! min(ints, default=None), min of int triples -/
namespace Tf
open PySem PySem.Spec PyProof.Rows L2 PySem.W
theorem reads_nums {h : Heap} : ∀ {us : List Value} {ks : List Int}, IntsAre us ks → ReadsAll h us (ks.map PyData.int) []
  | _, _, .nil => .nil
  | _, _, .cons n t r => (show ReadsAll h (Value.int n t :: _) (PyData.int n :: _) ([] ++ []) from .cons (.int n t) (reads_nums r))
theorem vals_at : ∀ {xs : List V} {us : List Value} {i : Nat} {v : Value}, Vals xs us → us[i]? = some v → ∃ x, xs[i]? = some x ∧ RelV x v
  | _, _, _, _, .nil, h => by simp at h
  | x :: _, _, 0, _, .cons r _, h => by
    cases h
    exact ⟨x, rfl, r⟩
  | _ :: _, _, i + 1, _, .cons _ rs, h => vals_at (i := i) rs (by simpa using h)
/-- the least, if there is one -/
def minI : List Int → Option Int
  | [] => none
  | n :: r => some (r.foldl min n)
def optV : Option Int → V
  | none => .non
  | some x => .int x
def rMinDI (K : PySem.W.Frag) : List V → List V → Hp → VK → Prop := fun vs zs H Q => ∃ (a : Addr) (ns : List Int), vs = [V.ref a] ∧ zs = [V.non] ∧ SqL K H a (ns.map V.int) ∧ Q (optV (minI ns)) H
theorem depth_nums : ∀ (ks : List Int), PyData.depthAll (ks.map PyData.int) ≤ 1
  | [] => by simp [PyData.depthAll]
  | k :: ks => by
    have := depth_nums ks
    simp only [List.map_cons, PyData.depthAll, PyData.depth]
    omega
theorem alike_nums (ks : List Int) : AlikeAll (ks.map PyData.int) := alikeAll_datum (α := Int) ks
section
variable {X : Cx}
theorem cr_minDI (hc : X.calm = true) (hu : X.A.units + 2 < cLine) : CallRK X (.builtin "min") [Str.ofString "default"] (rMinDI X.K) := by
  intro pins s σ H xs zs us ws Q I r rz h
  obtain ⟨a, ks, rfl, rfl, hs, q⟩ := h
  obtain ⟨its, rv, hl, _⟩ := I.list hs
  rw [Vals.ref1 r]
  obtain ⟨u, rfl, eu⟩ := vals1 rz
  have eu : u = Value.none := eu
  subst eu
  refine min_list_default (xs := ks.map PyData.int) (I.ok.hd hc) hl.isList (reads_nums rv.ints) (alike_nums ks) (by have := depth_nums ks; omega) (fun h0 h' tk hk => ?_) (fun y ys i v h' tk bs e hv hr hk => ?_)
  · have e : ks = [] := List.map_eq_nil_iff.mp h0
    subst e
    exact ⟨.non, H, I.kept hk, rfl, q⟩
  · cases ks with
    | nil => cases e
    | cons k ks =>
      obtain ⟨rfl, rfl⟩ := List.cons.inj e
      rw [minD_ints] at hr
      cases hr
      exact ⟨.int _, H, I.kept hk, ⟨_, rfl⟩, q⟩
/-- a tuple of ints -/
def TpI (K : PySem.W.Frag) (H : Hp) (x : V) (ns : List Int) : Prop := ∃ b, x = .ref b ∧ SqT K H b (ns.map V.int)
/-- int triples, by what comes first -/
def leT (a b : Int × Int × Int) : Prop := a.1 < b.1 ∨ (a.1 = b.1 ∧ (a.2.1 < b.2.1 ∨ (a.2.1 = b.2.1 ∧ a.2.2 ≤ b.2.2)))
abbrev itT (t : Int × Int × Int) : List Int := [t.1, t.2.1, t.2.2]
abbrev tuT (t : Int × Int × Int) : Tup Int := ⟨itT t⟩
theorem lt_tuT {a b : Int × Int × Int} : DatumOrd.lt (tuT a) (tuT b) = false ↔ leT b a := by
  show listLt (itT a) (itT b) = false ↔ _
  obtain ⟨a1, a2, a3⟩ := a
  obtain ⟨b1, b2, b3⟩ := b
  simp only [itT, listLt, DatumOrd.lt, leT]
  split
  · split
    · split
      · simp; omega
      · simp; omega
    · simp; omega
  · simp; omega
theorem leT_trans {a b c : Int × Int × Int} : leT a b → leT b c → leT a c := by
  unfold leT
  omega
theorem leT_total (a b : Int × Int × Int) : leT a b ∨ leT b a := by
  unfold leT
  omega
theorem min_tuT : ∀ (ts : List (Int × Int × Int)) (t : Int × Int × Int), ∃ m, m ∈ t :: ts ∧ (∀ u ∈ t :: ts, leT m u) ∧ minOf (tuT t) (ts.map tuT) = tuT m
  | [], t => ⟨t, List.mem_cons_self, fun u hu => by rw [List.mem_singleton.mp hu]; exact (leT_total t t).elim id id, rfl⟩
  | y :: ts, t => by
    cases hb : DatumOrd.lt (tuT y) (tuT t) with
    | true =>
      obtain ⟨m, h1, h2, h3⟩ := min_tuT ts y
      have hy : leT y t := by
        rcases leT_total y t with h | h
        · exact h
        · rw [lt_tuT.mpr h] at hb
          cases hb
      refine ⟨m, List.mem_cons_of_mem _ h1, fun u hu => ?_, ?_⟩
      · rcases List.mem_cons.mp hu with rfl | hu
        · exact leT_trans (h2 y List.mem_cons_self) hy
        · exact h2 u hu
      · rw [← h3]
        show List.foldl _ (if DatumOrd.lt (tuT y) (tuT t) = true then _ else _) _ = _
        rw [if_pos hb]
        rfl
    | false =>
      obtain ⟨m, h1, h2, h3⟩ := min_tuT ts t
      have hy : leT t y := lt_tuT.mp hb
      refine ⟨m, ?_, fun u hu => ?_, ?_⟩
      · rcases List.mem_cons.mp h1 with rfl | h1
        · exact List.mem_cons_self
        · exact List.mem_cons_of_mem _ (List.mem_cons_of_mem _ h1)
      · rcases List.mem_cons.mp hu with rfl | hu
        · exact h2 _ List.mem_cons_self
        · rcases List.mem_cons.mp hu with rfl | hu
          · exact leT_trans (h2 t List.mem_cons_self) hy
          · exact h2 u (List.mem_cons_of_mem _ hu)
      · rw [← h3]
        show List.foldl _ (if DatumOrd.lt (tuT y) (tuT t) = true then _ else _) _ = _
        rw [if_neg (by rw [hb]; decide)]
        rfl
def rMinT (K : PySem.W.Frag) : List V → Hp → VK → Prop := fun vs H Q => ∃ (a : Addr) (xs : List V) (ts : List (Int × Int × Int)), vs = [V.ref a] ∧ SqL K H a xs ∧ All2 (fun t x => TpI K H x (itT t)) ts xs ∧ ts ≠ [] ∧
  ∀ (i : Nat) (x : V) (t : Int × Int × Int), xs[i]? = some x → ts[i]? = some t → (∀ u ∈ ts, leT t u) → Q x H
theorem reads_tup (pins : List (Addr × Obj)) {σ : L2.St} {H : Hp} {s : Shared} (I : Inv X pins σ H s) {x : V} {v : Value} {t : Int × Int × Int} (h : TpI X.K H x (itT t)) (r : RelV x v) : Reads s.heap v (Datum.toD (tuT t)) [] := by
  obtain ⟨b, rfl, hb⟩ := h
  obtain rfl : v = Value.ref b := r
  obtain ⟨its, rv, hT, _⟩ := I.tuple hb
  obtain ⟨o, ho, hcl, n, hd⟩ := hT
  exact .tuple ho hcl hd (reads_nums (us := its.toArray.toList) (by simpa using rv.ints))
theorem reads_tups (pins : List (Addr × Obj)) {σ : L2.St} {H : Hp} {s : Shared} (I : Inv X pins σ H s) : ∀ {ts : List (Int × Int × Int)} {xs : List V} {us : List Value}, All2 (fun t x => TpI X.K H x (itT t)) ts xs → Vals xs us → ReadsAll s.heap us ((ts.map tuT).map Datum.toD) []
  | _, _, _, .nil, .nil => .nil
  | _, _, _, .cons h t, .cons r rs => (show ReadsAll s.heap (_ :: _) (_ :: _) ([] ++ []) from .cons (reads_tup pins I h r) (reads_tups pins I t rs))
theorem depth_tups : ∀ (ts : List (Int × Int × Int)), PyData.depthAll ((ts.map tuT).map Datum.toD) ≤ 3
  | [] => by simp [PyData.depthAll]
  | t :: ts => by
    have h1 := depth_tups ts
    have h2 := depth_nums (itT t)
    rw [List.map_cons, List.map_cons, PyData.depthAll]
    have h3 : (Datum.toD (tuT t)).depth ≤ 3 := by
      show (PyData.tuple ((itT t).map PyData.int)).depth ≤ 3
      rw [PyData.depth]
      omega
    omega
theorem tuT_inj {a b : Int × Int × Int} (h : Datum.toD (tuT a) = Datum.toD (tuT b)) : a = b := by
  obtain ⟨a1, a2, a3⟩ := a
  obtain ⟨b1, b2, b3⟩ := b
  have h' : PyData.tuple [.int a1, .int a2, .int a3] = PyData.tuple [.int b1, .int b2, .int b3] := h
  simpa using h'
theorem cr_minT (hc : X.calm = true) (hu : X.A.units + 4 < cLine) : CallR X (.builtin "min") (rMinT X.K) := by
  intro pins s σ H xs us Q I r h
  obtain ⟨a, xs, ts, rfl, hs, hx, hne, q⟩ := h
  obtain ⟨its, rv, hl, _⟩ := I.list hs
  rw [Vals.ref1 r]
  cases ts with
  | nil => exact absurd rfl hne
  | cons t ts =>
    obtain ⟨m, h1, h2, h3⟩ := min_tuT ts t
    have hd := depth_tups (t :: ts)
    have hr := reads_tups pins I hx rv
    refine min_list_data (x := Datum.toD (tuT t)) (xs := (ts.map tuT).map Datum.toD) (I.ok.hd hc) hl.isList hr (alikeAll_datum (α := Tup Int) ((t :: ts).map tuT)) (by
      have : PyData.depthAll (Datum.toD (tuT t) :: (ts.map tuT).map Datum.toD) ≤ 3 := hd
      omega) (fun i v h' tk bs hv hrd hk => ?_)
    have hv' : its[i]? = some v := by simpa using hv
    obtain ⟨x, hxi, hxv⟩ := vals_at rv hv'
    obtain ⟨t', ht', hti⟩ := hx.get' hxi
    rw [minD_map, h3] at hrd
    have e := (reads_keeps hk (reads_tup pins I hti hxv)).unique _ _ hrd
    have e := tuT_inj e.1
    subst e
    exact ⟨x, H, I.kept hk, hxv, q i x _ hxi ht' h2⟩
end
end Tf
/-! exact ways, short ways: plain Lean -/
namespace Tf
/-- o is the least of what S holds -/
def Lst (S : Int → Prop) : Option Int → Prop
  | none => ∀ x, ¬ S x
  | some m => S m ∧ ∀ x, S x → m ≤ x
theorem Lst.eq {S T : Int → Prop} : ∀ {o o' : Option Int}, Lst S o → Lst T o' → (∀ x, S x → ∃ y, T y ∧ y ≤ x) → (∀ x, T x → ∃ y, S y ∧ y ≤ x) → o = o'
  | none, none, _, _, _, _ => rfl
  | none, some m, h, h', _, g => by
    obtain ⟨y, hy, _⟩ := g m h'.1
    exact (h y hy).elim
  | some m, none, h, h', f, _ => by
    obtain ⟨y, hy, _⟩ := f m h.1
    exact (h' y hy).elim
  | some m, some m', h, h', f, g => by
    obtain ⟨y, hy, l1⟩ := f m h.1
    obtain ⟨z, hz, l2⟩ := g m' h'.1
    have := h'.2 y hy
    have := h.2 z hz
    exact congrArg some (by omega)
theorem Lst.trans {S T : Int → Prop} : ∀ {o : Option Int}, Lst S o → (∀ x, S x → ∃ y, T y ∧ y ≤ x) → (∀ x, T x → ∃ y, S y ∧ y ≤ x) → Lst T o
  | none, h, _, g => fun x hx => by
    obtain ⟨y, hy, _⟩ := g x hx
    exact h y hy
  | some m, h, f, g => by
    obtain ⟨y, hy, l1⟩ := f m h.1
    obtain ⟨z, hz, l2⟩ := g y hy
    have l3 := h.2 z hz
    have e : y = m := by omega
    refine ⟨e ▸ hy, fun x hx => ?_⟩
    obtain ⟨z, hz, l2⟩ := g x hx
    have := h.2 z hz
    omega
theorem Lst.congr {S T : Int → Prop} {o : Option Int} (h : Lst S o) (e : ∀ x, S x ↔ T x) : Lst T o :=
  h.trans (fun x hx => ⟨x, (e x).mp hx, Int.le_refl _⟩) (fun x hx => ⟨x, (e x).mpr hx, Int.le_refl _⟩)
theorem lst_minI : ∀ ns : List Int, Lst (· ∈ ns) (minI ns)
  | [] => fun x h => by cases h
  | n :: r => by
    have : ∀ (r : List Int) (n : Int), (r.foldl min n ∈ n :: r) ∧ ∀ x ∈ n :: r, r.foldl min n ≤ x := by
      intro r
      induction r with
      | nil => exact fun n => ⟨List.mem_cons_self, fun x hx => by rw [List.mem_singleton.mp hx]; exact Int.le_refl _⟩
      | cons k r ih =>
        intro n
        obtain ⟨h1, h2⟩ := ih (min n k)
        rw [List.foldl_cons]
        refine ⟨?_, fun x hx => ?_⟩
        · rcases List.mem_cons.mp h1 with h | h
          · rw [h]
            rcases Int.le_total n k with q | q
            · rw [Int.min_eq_left q]
              exact List.mem_cons_self
            · rw [Int.min_eq_right q]
              exact List.mem_cons_of_mem _ List.mem_cons_self
          · exact List.mem_cons_of_mem _ (List.mem_cons_of_mem _ h)
        · have h3 := h2 (min n k) List.mem_cons_self
          rcases List.mem_cons.mp hx with rfl | hx
          · omega
          · rcases List.mem_cons.mp hx with rfl | hx
            · omega
            · exact h2 x (List.mem_cons_of_mem _ hx)
    exact this r n
/-- the sums of the steps of a row -/
def stepS (row : Row) (f : Nat → Option Int) : Int → Prop := fun x => ∃ p ∈ row, ∃ y, f p.2 = some y ∧ x = p.1 + y
theorem getD_step_ne {c : Int} {ls acc : List (Int × Int)} {k j : Int} (e : ¬ j = k + 1) : getD (leastStep c ls acc k) j = getD acc j := by
  unfold leastStep
  dsimp only
  split
  · rw [getD_put, if_neg e]
  · split
    · rw [getD_put, if_neg e]
    · rfl
theorem step_lst {c : Int} {ls acc : List (Int × Int)} {k j : Int} {S : Int → Prop} (h : Lst S (getD acc j)) : Lst (fun y => S y ∨ (j = k + 1 ∧ y = c + (getD ls k).getD 0)) (getD (leastStep c ls acc k) j) := by
  by_cases e : j = k + 1
  · subst e
    unfold leastStep
    dsimp only
    generalize c + (getD ls k).getD 0 = v
    cases hg : getD acc (k + 1) with
    | none =>
      rw [hg] at h
      dsimp only
      rw [getD_put, if_pos rfl]
      exact ⟨.inr ⟨rfl, rfl⟩, fun x hx => hx.elim (fun hx => (h x hx).elim) fun hx => by omega⟩
    | some z =>
      rw [hg] at h
      dsimp only
      split
      · rw [getD_put, if_pos rfl]
        exact ⟨.inr ⟨rfl, rfl⟩, fun x hx => hx.elim (fun hx => by have := h.2 x hx; omega) fun hx => by omega⟩
      · rw [hg]
        exact ⟨.inl h.1, fun x hx => hx.elim (fun hx => h.2 x hx) fun hx => by omega⟩
  · rw [getD_step_ne e]
    exact h.congr fun x => ⟨.inl, fun hx => hx.elim id fun hx => (e hx.1).elim⟩
theorem fold_lst {c : Int} {ls : List (Int × Int)} {j : Int} : ∀ (ks : List Int) {acc : List (Int × Int)} {S : Int → Prop}, Lst S (getD acc j) → Lst (fun y => S y ∨ (j - 1 ∈ ks ∧ y = c + (getD ls (j - 1)).getD 0)) (getD (ks.foldl (leastStep c ls) acc) j)
  | [], _, _, h => h.congr fun x => ⟨.inl, fun hx => hx.elim id fun hx => by cases hx.1⟩
  | k :: ks, acc, S, h => (fold_lst ks (step_lst (k := k) h)).congr fun x => by
    refine ⟨fun hx => ?_, fun hx => ?_⟩
    · rcases hx with (hx | ⟨e, hx⟩) | ⟨h1, h2⟩
      · exact .inl hx
      · have : k = j - 1 := by omega
        subst this
        exact .inr ⟨List.mem_cons_self, hx⟩
      · exact .inr ⟨List.mem_cons_of_mem _ h1, h2⟩
    · rcases hx with hx | ⟨h1, h2⟩
      · exact .inl (.inl hx)
      · rcases List.mem_cons.mp h1 with e | h1
        · refine .inl (.inr ⟨by omega, ?_⟩)
          rw [← e]
          exact h2
        · exact .inr ⟨h1, h2⟩
theorem all_lst {c : Int} {ls acc : List (Int × Int)} {j : Int} {S : Int → Prop} (h : Lst S (getD acc j)) : Lst (fun y => S y ∨ ∃ z, getD ls (j - 1) = some z ∧ y = c + z) (getD (leastAll c ls acc) j) :=
  (fold_lst (ls.map (·.1)) h).congr fun x => by
    refine ⟨fun hx => hx.elim .inl fun ⟨h1, h2⟩ => ?_, fun hx => hx.elim .inl fun ⟨z, h1, h2⟩ => ?_⟩
    · obtain ⟨z, hz⟩ := getD_some h1
      rw [hz] at h2
      exact .inr ⟨z, hz, h2⟩
    · rw [h1]
      exact .inr ⟨List.mem_map.mpr ⟨_, getD_mem h1, rfl⟩, h2⟩
theorem of_lst {look : Nat → List (Int × Int)} {j : Int} : ∀ (row : Row) {acc : List (Int × Int)} {S : Int → Prop}, Lst S (getD acc j) → Lst (fun y => S y ∨ stepS row (fun a => getD (look a) (j - 1)) y) (getD (row.foldl (fun acc p => leastAll p.1 (look p.2) acc) acc) j)
  | [], _, _, h => h.congr fun x => ⟨.inl, fun hx => hx.elim id fun ⟨p, hp, _⟩ => by cases hp⟩
  | p :: row, acc, S, h => (of_lst row (all_lst (c := p.1) (ls := look p.2) h)).congr fun x => by
    refine ⟨fun hx => ?_, fun hx => ?_⟩
    · rcases hx with (hx | ⟨z, h1, h2⟩) | ⟨q, hq, y, h1, h2⟩
      · exact .inl hx
      · exact .inr ⟨p, List.mem_cons_self, z, h1, h2⟩
      · exact .inr ⟨q, List.mem_cons_of_mem _ hq, y, h1, h2⟩
    · rcases hx with hx | ⟨q, hq, y, h1, h2⟩
      · exact .inl (.inl hx)
      · rcases List.mem_cons.mp hq with rfl | hq
        · exact .inl (.inr ⟨y, h1, h2⟩)
        · exact .inr ⟨q, hq, y, h1, h2⟩
theorem lens_lst {rows : List Row} (w : WF rows) {k : Nat} {row : Row} (hr : rows[k]? = some row) (e : k + 1 ≠ rows.length) (j : Int) : Lst (stepS row fun a => getD (lens rows a) (j - 1)) (getD (lens rows k) j) := by
  rw [lens_row w hr e]
  refine (of_lst row (acc := []) (S := fun _ => False) (look := lens rows) (j := j) ?_).congr fun x => ⟨fun h => h.elim (fun h => h.elim) id, .inr⟩
  rw [getD_nil]
  exact fun x h => h
/-- the least cost of the lengths up to most -/
def within (d : List (Int × Int)) (most : Int) : Option Int := minI ((d.filter fun p => decide (p.1 ≤ most)).map (·.2))
theorem within_lst {d : List (Int × Int)} (hn : (d.map (·.1)).Nodup) (most : Int) : Lst (fun x => ∃ m, m ≤ most ∧ getD d m = some x) (within d most) :=
  (lst_minI _).congr fun x => by
    refine ⟨fun hx => ?_, fun ⟨m, h1, h2⟩ => ?_⟩
    · obtain ⟨p, hp, rfl⟩ := List.mem_map.mp hx
      obtain ⟨h1, h2⟩ := List.mem_filter.mp hp
      exact ⟨p.1, of_decide_eq_true h2, getD_of hn h1⟩
    · exact List.mem_map.mpr ⟨_, List.mem_filter.mpr ⟨getD_mem h2, decide_eq_true h1⟩, rfl⟩
theorem lens_nd {rows : List Row} (w : WF rows) {k : Nat} (h : k < rows.length) : Keys (rows.length - k) (lens rows k) := lens_keys w _ k (by omega) (by omega)
theorem short_lst {rows : List Row} (w : WF rows) {k : Nat} {row : Row} (hr : rows[k]? = some row) (e : k + 1 ≠ rows.length) (most : Int) : Lst (stepS row fun a => within (lens rows a) (most - 1)) (within (lens rows k) most) := by
  have hk : k < rows.length := (List.getElem?_eq_some_iff.mp hr).1
  refine (within_lst (lens_nd w hk).1 most).trans ?_ ?_
  · rintro x ⟨m, h1, h2⟩
    have h3 := lens_lst w hr e m
    rw [h2] at h3
    obtain ⟨p, hp, y, h4, h5⟩ := h3.1
    have hpw := w.2 k row hr p hp
    have h6 := within_lst (lens_nd w hpw.2.2).1 (most - 1)
    cases hz : within (lens rows p.2) (most - 1) with
    | none =>
      rw [hz] at h6
      exact (h6 y ⟨m - 1, by omega, h4⟩).elim
    | some z =>
      rw [hz] at h6
      have := h6.2 y ⟨m - 1, by omega, h4⟩
      exact ⟨p.1 + z, ⟨p, hp, z, hz, rfl⟩, by omega⟩
  · rintro x ⟨p, hp, y, h4, h5⟩
    have hpw := w.2 k row hr p hp
    have h6 := within_lst (lens_nd w hpw.2.2).1 (most - 1)
    dsimp only at h4
    rw [h4] at h6
    obtain ⟨m, h7, h8⟩ := h6.1
    have h3 := lens_lst w hr e (m + 1)
    have e1 : m + 1 - 1 = m := by omega
    have h9 : stepS row (fun a => getD (lens rows a) (m + 1 - 1)) (p.1 + y) := ⟨p, hp, y, by dsimp only; rw [e1]; exact h8, rfl⟩
    cases hz : getD (lens rows k) (m + 1) with
    | none =>
      rw [hz] at h3
      exact (h3 _ h9).elim
    | some z =>
      rw [hz] at h3
      have := h3.2 _ h9
      exact ⟨z, ⟨m + 1, by omega, hz⟩, by omega⟩
/-- the least cost of all lengths -/
def tot (rows : List Row) (k : Nat) : Option Int := within (lens rows k) (rows.length : Int)
theorem within_tot {rows : List Row} (w : WF rows) {k : Nat} (h : k < rows.length) {most : Int} (hm : (rows.length : Int) - k ≤ most + 1) : within (lens rows k) most = tot rows k := by
  have hK := lens_nd w h
  have hb : ∀ m x, getD (lens rows k) m = some x → m < (rows.length : Int) - k := fun m x hx => by
    have := hK.2 m (List.mem_map.mpr ⟨_, getD_mem hx, rfl⟩)
    omega
  refine (within_lst hK.1 most).eq (within_lst hK.1 (rows.length : Int)) (fun x ⟨m, h1, h2⟩ => ⟨x, ⟨m, ?_, h2⟩, Int.le_refl _⟩) (fun x ⟨m, h1, h2⟩ => ⟨x, ⟨m, ?_, h2⟩, Int.le_refl _⟩)
  · have := hb m x h2
    omega
  · have := hb m x h2
    omega
theorem stepS_congr {row : Row} {f g : Nat → Option Int} (h : ∀ p ∈ row, f p.2 = g p.2) (x : Int) : stepS row f x ↔ stepS row g x := by
  refine ⟨fun ⟨p, hp, y, h1, h2⟩ => ⟨p, hp, y, (h p hp) ▸ h1, h2⟩, fun ⟨p, hp, y, h1, h2⟩ => ⟨p, hp, y, (h p hp).symm ▸ h1, h2⟩⟩
theorem tot_lst {rows : List Row} (w : WF rows) {k : Nat} {row : Row} (hr : rows[k]? = some row) (e : k + 1 ≠ rows.length) : Lst (stepS row (tot rows)) (tot rows k) := by
  refine (short_lst w hr e (rows.length : Int)).congr (stepS_congr fun p hp => ?_)
  have := w.2 k row hr p hp
  exact within_tot w this.2.2 (by omega)
/-- the first step that comes to what is due -/
def firstP (row : Row) (f : Nat → Option Int) (due : Int) : Option (Int × Nat) := row.find? fun p => decide ((f p.2).map (p.1 + ·) = some due)
def nxt (row : Row) (f : Nat → Option Int) (due : Int) : Nat := match firstP row f due with
  | some p => p.2
  | none => 0
theorem firstP_some {row : Row} {f : Nat → Option Int} {due : Int} (h : Lst (stepS row f) (some due)) : ∃ p y, firstP row f due = some p ∧ p ∈ row ∧ f p.2 = some y ∧ p.1 + y = due ∧ nxt row f due = p.2 := by
  obtain ⟨q, hq, y, h1, h2⟩ := h.1
  have hs : (firstP row f due).isSome := by
    unfold firstP
    rw [List.find?_isSome]
    exact ⟨q, hq, decide_eq_true (by rw [h1]; exact congrArg some h2.symm)⟩
  obtain ⟨p, hp⟩ := Option.isSome_iff_exists.mp hs
  have hp' : List.find? (fun p : Int × Nat => decide ((f p.2).map (p.1 + ·) = some due)) row = some p := hp
  have h3 : (f p.2).map (p.1 + ·) = some due := by simpa using List.find?_some hp'
  obtain ⟨z, h4, h5⟩ := Option.map_eq_some_iff.mp h3
  exact ⟨p, z, hp, List.mem_of_find?_eq_some hp', h4, h5, by unfold nxt; rw [hp]⟩
theorem firstP_same {row : Row} {f g : Nat → Option Int} {due : Int} {p : Int × Nat} (h : firstP row f due = some p) (hg : (g p.2).map (p.1 + ·) = some due) (hf : ∀ q ∈ row, (g q.2).map (q.1 + ·) = some due → (f q.2).map (q.1 + ·) = some due) : firstP row g due = some p := by
  unfold firstP at h ⊢
  induction row with
  | nil => cases h
  | cons q row ih =>
    rw [List.find?_cons] at h ⊢
    by_cases e : (f q.2).map (q.1 + ·) = some due
    · rw [decide_eq_true e] at h
      cases h
      rw [decide_eq_true hg]
    · rw [decide_eq_false e] at h
      have : ¬ (g q.2).map (q.1 + ·) = some due := fun e2 => e (hf q List.mem_cons_self e2)
      rw [decide_eq_false this]
      exact ih h fun q hq => hf q (List.mem_cons_of_mem _ hq)
/-- what the law gathers: the sums of the steps, each with its place -/
def sumsOf (row : Row) (f : Nat → Option Int) : List (Int × Int × Int) := row.foldl (fun acc p => match f p.2 with
  | none => acc
  | some y => acc ++ [(p.1 + y, (acc.length : Int), (p.2 : Int))]) []
theorem sumsOf_snoc {row : Row} {f : Nat → Option Int} {p : Int × Nat} : sumsOf (row ++ [p]) f = match f p.2 with
  | none => sumsOf row f
  | some y => sumsOf row f ++ [(p.1 + y, ((sumsOf row f).length : Int), (p.2 : Int))] := by
  unfold sumsOf
  rw [List.foldl_append]
  rfl
theorem snoc_ind {α : Type} {P : List α → Prop} (h0 : P []) (h1 : ∀ l a, P l → P (l ++ [a])) : ∀ l, P l := fun l => by
  have : ∀ n (l : List α), l.length = n → P l := by
    intro n
    induction n with
    | zero =>
      intro l e
      rw [List.eq_nil_of_length_eq_zero e]
      exact h0
    | succ n ih =>
      intro l e
      rcases List.eq_nil_or_concat l with rfl | ⟨l', a, rfl⟩
      · exact h0
      · rw [List.concat_eq_append] at e ⊢
        exact h1 l' a (ih l' (by simpa using e))
  exact this _ l rfl
theorem sumsOf_mem (f : Nat → Option Int) : ∀ row : Row, (∀ u ∈ sumsOf row f, u.2.1 < ((sumsOf row f).length : Int) ∧ stepS row f u.1) ∧ (∀ x, stepS row f x → ∃ u ∈ sumsOf row f, u.1 = x) :=
  fun row => by
   induction row using snoc_ind with
   | h0 => exact ⟨fun u hu => (nomatch hu), fun x ⟨p, hp, _⟩ => (nomatch hp)⟩
   | h1 row p ih =>
    obtain ⟨ih1, ih2⟩ := ih
    rw [sumsOf_snoc]
    have up : ∀ {x}, stepS row f x → stepS (row ++ [p]) f x := fun ⟨q, hq, h⟩ => ⟨q, List.mem_append_left _ hq, h⟩
    cases hp : f p.2 with
    | none =>
      refine ⟨fun u hu => ⟨(ih1 u hu).1, up (ih1 u hu).2⟩, fun x ⟨q, hq, y, h1, h2⟩ => ?_⟩
      rcases List.mem_append.mp hq with hq | hq
      · exact ih2 x ⟨q, hq, y, h1, h2⟩
      · rw [List.mem_singleton.mp hq, hp] at h1
        cases h1
    | some y =>
      dsimp only
      refine ⟨fun u hu => ?_, fun x ⟨q, hq, z, h1, h2⟩ => ?_⟩
      · rw [List.length_append, List.length_singleton]
        rcases List.mem_append.mp hu with hu | hu
        · have := ih1 u hu
          exact ⟨by omega, up this.2⟩
        · rw [List.mem_singleton.mp hu]
          exact ⟨by show ((sumsOf row f).length : Int) < _; omega, p, by simp, y, hp, rfl⟩
      · rcases List.mem_append.mp hq with hq | hq
        · obtain ⟨u, hu, e⟩ := ih2 x ⟨q, hq, z, h1, h2⟩
          exact ⟨u, List.mem_append_left _ hu, e⟩
        · rw [List.mem_singleton.mp hq] at h1 h2
          rw [hp] at h1
          cases h1
          exact ⟨_, List.mem_append_right _ (List.mem_singleton.mpr rfl), h2.symm⟩
theorem sumsOf_least (f : Nat → Option Int) : ∀ row : Row, ∀ t ∈ sumsOf row f, (∀ u ∈ sumsOf row f, leT t u) → ∃ p, firstP row f t.1 = some p ∧ t.2.2 = (p.2 : Int) :=
  fun row => by
   induction row using snoc_ind with
   | h0 => exact fun t ht => by cases ht
   | h1 row p ih =>
    intro t ht hl
    rw [sumsOf_snoc] at ht hl
    unfold firstP
    rw [List.find?_append]
    cases hp : f p.2 with
    | none =>
      rw [hp] at ht hl
      obtain ⟨q, h1, h2⟩ := ih t ht hl
      refine ⟨q, ?_, h2⟩
      unfold firstP at h1
      rw [h1]
      rfl
    | some y =>
      rw [hp] at ht hl
      dsimp only at ht hl
      rcases List.mem_append.mp ht with ht | ht
      · obtain ⟨q, h1, h2⟩ := ih t ht fun u hu => hl u (List.mem_append_left _ hu)
        refine ⟨q, ?_, h2⟩
        unfold firstP at h1
        rw [h1]
        rfl
      · have e := List.mem_singleton.mp ht
        subst e
        refine ⟨p, ?_, rfl⟩
        have hno : List.find? (fun p_1 : Int × Nat => decide ((f p_1.2).map (p_1.1 + ·) = some (p.1 + y))) row = none := by
          refine List.find?_eq_none.mpr fun q hq hq2 => ?_
          obtain ⟨z, h4, h5⟩ := Option.map_eq_some_iff.mp (of_decide_eq_true hq2)
          obtain ⟨u, hu, e⟩ := (sumsOf_mem f row).2 (q.1 + z) ⟨q, hq, z, h4, rfl⟩
          have h6 := hl u (List.mem_append_left _ hu)
          have h7 := ((sumsOf_mem f row).1 u hu).1
          unfold leT at h6
          dsimp only at h6
          omega
        show (Option.or (List.find? (fun p_1 : Int × Nat => decide ((f p_1.2).map (p_1.1 + ·) = some (p.1 + y))) row) _) = _
        rw [hno, List.find?_cons, decide_eq_true (show (f p.2).map (p.1 + ·) = some (p.1 + y) by rw [hp]; rfl)]
        rfl
/-- the least of the gathered sums leads where the first that comes to what is due leads -/
theorem sumsOf_nxt {row : Row} {f : Nat → Option Int} {due : Int} (h : Lst (stepS row f) (some due)) : sumsOf row f ≠ [] ∧ ∀ t ∈ sumsOf row f, (∀ u ∈ sumsOf row f, leT t u) → t.2.2 = (nxt row f due : Int) := by
  obtain ⟨u, hu, e⟩ := (sumsOf_mem f row).2 due h.1
  refine ⟨fun q => (by rw [q] at hu; cases hu), fun t ht hl => ?_⟩
  have e1 : t.1 = due := by
    have h1 := h.2 _ ((sumsOf_mem f row).1 t ht).2
    have h2 := hl u hu
    unfold leT at h2
    omega
  obtain ⟨p, h1, h2⟩ := sumsOf_least f row t ht hl
  rw [e1] at h1
  rw [h2]
  unfold nxt
  rw [h1]
theorem sumsOf_len (f : Nat → Option Int) : ∀ row : Row, (sumsOf row f).length ≤ row.length :=
  fun row => by
   induction row using snoc_ind with
   | h0 => exact Nat.le_refl _
   | h1 row p ih =>
    rw [sumsOf_snoc, List.length_append]
    cases f p.2 with
    | none =>
      dsimp only
      omega
    | some y =>
      dsimp only
      rw [List.length_append]
      simp
      exact ih
/-- the least of the costs from a row to b -/
def edgeOf (row : Row) (b : Nat) : Option Int := minI ((row.filter fun p => decide (p.2 = b)).map (·.1))
theorem edge_step {row : Row} {f : Nat → Option Int} {due y : Int} {p : Int × Nat} (h : Lst (stepS row f) (some due)) (hp : p ∈ row) (hy : f p.2 = some y) (e : p.1 + y = due) : edgeOf row p.2 = some (due - y) := by
  refine (lst_minI _).eq (T := fun x => x = due - y) (o' := some (due - y)) ⟨rfl, fun x hx => Int.le_of_eq hx.symm⟩ (fun x hx => ⟨due - y, rfl, ?_⟩) (fun x hx => ⟨p.1, ?_, by omega⟩)
  · obtain ⟨q, hq, rfl⟩ := List.mem_map.mp hx
    obtain ⟨h1, h2⟩ := List.mem_filter.mp hq
    have e2 : q.2 = p.2 := of_decide_eq_true h2
    have := h.2 (q.1 + y) ⟨q, h1, y, by rw [e2]; exact hy, rfl⟩
    omega
  · exact List.mem_map.mpr ⟨p, List.mem_filter.mpr ⟨hp, decide_eq_true rfl⟩, rfl⟩
/-- one step of a way -/
structure StepOk (rows : List Row) (f : Nat → Option Int) (k : Nat) (due : Int) (nk : Nat) (row : Row) (y : Int) : Prop where
  row_ : rows[k]? = some row
  lst : Lst (stepS row f) (some due)
  nx : nxt row f due = nk
  lt : k < nk ∧ nk < rows.length
  fy : f nk = some y
  edge : edgeOf row nk = some (due - y)
  step : ∃ c, (c, nk) ∈ row
theorem StepOk.of {rows : List Row} (w : WF rows) {f : Nat → Option Int} {k : Nat} {due : Int} {row : Row} (hr : rows[k]? = some row) (h : Lst (stepS row f) (some due)) : ∃ y, StepOk rows f k due (nxt row f due) row y := by
  obtain ⟨p, y, h1, h2, h3, h4, h5⟩ := firstP_some h
  have hw := w.2 k row hr p h2
  exact ⟨y, hr, h, rfl, by rw [h5]; exact hw.2, by rw [h5]; exact h3, by rw [h5]; exact edge_step h h2 h3 h4, p.1, by rw [h5]; exact h2⟩
/-! exact ways -/
def exactAt (rows : List Row) (m : Int) : Nat → Nat
  | 0 => 0
  | i + 1 => nxt ((rows[exactAt rows m i]?).getD []) (fun a => getD (lens rows a) (m - i - 1)) ((getD (lens rows (exactAt rows m i)) (m - i)).getD 0)
theorem lens_end {rows : List Row} {k : Nat} (e : k + 1 = rows.length) {m x : Int} (h : getD (lens rows k) m = some x) : m = 0 ∧ x = 0 := by
  rw [lens_last e, getD_cons, getD_nil] at h
  split at h
  · next q =>
    have q : (0 : Int) = m := q
    have := Option.some.inj h
    exact ⟨q.symm, this.symm⟩
  · cases h
theorem lens_zero {rows : List Row} (w : WF rows) {k : Nat} (hk : k < rows.length) {x : Int} (h : getD (lens rows k) 0 = some x) : k + 1 = rows.length := by
  by_cases e : k + 1 = rows.length
  · exact e
  · obtain ⟨row, hr⟩ := w.row hk
    have h1 := lens_lst w hr e 0
    rw [h] at h1
    obtain ⟨p, hp, y, h2, _⟩ := h1.1
    have hw := w.2 k row hr p hp
    have := (lens_nd w hw.2.2).2 _ (List.mem_map.mpr ⟨_, getD_mem h2, rfl⟩)
    have : (0 : Int) ≤ 0 - 1 := this.1
    omega
theorem exact_step {rows : List Row} (w : WF rows) {k : Nat} (hk : k < rows.length) {l due : Int} (hl : 0 < l) (h : getD (lens rows k) l = some due) : ∃ row y, rows[k]? = some row ∧ StepOk rows (fun a => getD (lens rows a) (l - 1)) k due (nxt ((rows[k]?).getD []) (fun a => getD (lens rows a) (l - 1)) due) row y := by
  obtain ⟨row, hr⟩ := w.row hk
  have e : k + 1 ≠ rows.length := fun e => by
    have := (lens_end e h).1
    omega
  have h1 := lens_lst w hr e l
  rw [h] at h1
  obtain ⟨y, hs⟩ := StepOk.of w hr h1
  exact ⟨row, y, hr, by rw [hr]; exact hs⟩
theorem exact_at {rows : List Row} (w : WF rows) {m d0 : Int} (h0 : getD (lens rows 0) m = some d0) : ∀ i : Nat, (i : Int) ≤ m → exactAt rows m i < rows.length ∧ Reach rows (exactAt rows m i) ∧ ∃ due, getD (lens rows (exactAt rows m i)) (m - i) = some due
  | 0, _ => ⟨w.1, .first, d0, by show getD (lens rows 0) (m - ((0 : Nat) : Int)) = _; rw [show m - ((0 : Nat) : Int) = m by omega]; exact h0⟩
  | i + 1, hi => by
    obtain ⟨h1, h2, due, h3⟩ := exact_at w h0 i (by omega)
    obtain ⟨row, y, hr, hs⟩ := exact_step w h1 (by omega) h3
    have e : exactAt rows m (i + 1) = nxt ((rows[exactAt rows m i]?).getD []) (fun a => getD (lens rows a) (m - i - 1)) due := by
      show nxt _ _ ((getD (lens rows (exactAt rows m i)) (m - i)).getD 0) = _
      rw [h3]
      rfl
    rw [← e] at hs
    obtain ⟨c, hc⟩ := hs.step
    refine ⟨hs.lt.2, .step h2 hr hc, y, ?_⟩
    rw [show m - ((i + 1 : Nat) : Int) = m - i - 1 by omega]
    exact hs.fy
theorem exact_next {rows : List Row} (w : WF rows) {m d0 : Int} (h0 : getD (lens rows 0) m = some d0) {i : Nat} (hi : (i : Int) < m) : ∃ due row y, getD (lens rows (exactAt rows m i)) (m - i) = some due ∧ StepOk rows (fun a => getD (lens rows a) (m - i - 1)) (exactAt rows m i) due (exactAt rows m (i + 1)) row y := by
  obtain ⟨h1, h2, due, h3⟩ := exact_at w h0 i (by omega)
  obtain ⟨row, y, hr, hs⟩ := exact_step w h1 (by omega) h3
  have e : exactAt rows m (i + 1) = nxt ((rows[exactAt rows m i]?).getD []) (fun a => getD (lens rows a) (m - i - 1)) due := by
    show nxt _ _ ((getD (lens rows (exactAt rows m i)) (m - i)).getD 0) = _
    rw [h3]
    rfl
  rw [← e] at hs
  exact ⟨due, row, y, h3, hs⟩
def exWay (rows : List Row) (m : Int) : List Nat := (List.range (m.toNat + 1)).map (exactAt rows m)
def exOpt (rows : List Row) (m : Int) : Option (List Nat) := if (getD (lens rows 0) m).isSome then some (exWay rows m) else none
/-! short ways -/
def shortAt (rows : List Row) (most : Int) : Nat → Nat
  | 0 => 0
  | i + 1 => nxt ((rows[shortAt rows most i]?).getD []) (fun a => within (lens rows a) (most - i - 1)) ((within (lens rows (shortAt rows most i)) (most - i)).getD 0)
theorem short_step {rows : List Row} (w : WF rows) {k : Nat} (hk : k < rows.length) (e : k + 1 ≠ rows.length) {l due : Int} (h : within (lens rows k) l = some due) : ∃ row y, rows[k]? = some row ∧ StepOk rows (fun a => within (lens rows a) (l - 1)) k due (nxt ((rows[k]?).getD []) (fun a => within (lens rows a) (l - 1)) due) row y := by
  obtain ⟨row, hr⟩ := w.row hk
  have h1 := short_lst w hr e l
  rw [h] at h1
  obtain ⟨y, hs⟩ := StepOk.of w hr h1
  exact ⟨row, y, hr, by rw [hr]; exact hs⟩
theorem short_next' {rows : List Row} (w : WF rows) {most : Int} {i : Nat} (h1 : shortAt rows most i < rows.length) (e : shortAt rows most i + 1 ≠ rows.length) {due : Int} (h3 : within (lens rows (shortAt rows most i)) (most - i) = some due) : ∃ row y, rows[shortAt rows most i]? = some row ∧ StepOk rows (fun a => within (lens rows a) (most - i - 1)) (shortAt rows most i) due (shortAt rows most (i + 1)) row y := by
  obtain ⟨row, y, hr, hs⟩ := short_step w h1 e h3
  have e : shortAt rows most (i + 1) = nxt ((rows[shortAt rows most i]?).getD []) (fun a => within (lens rows a) (most - i - 1)) due := by
    show nxt _ _ ((within (lens rows (shortAt rows most i)) (most - i)).getD 0) = _
    rw [h3]
    rfl
  rw [← e] at hs
  exact ⟨row, y, hr, hs⟩
theorem short_at {rows : List Row} (w : WF rows) {most d0 : Int} (h0 : within (lens rows 0) most = some d0) : ∀ i : Nat, (∀ j, j < i → shortAt rows most j + 1 ≠ rows.length) → shortAt rows most i < rows.length ∧ i ≤ shortAt rows most i ∧ Reach rows (shortAt rows most i) ∧ ∃ due, within (lens rows (shortAt rows most i)) (most - i) = some due
  | 0, _ => ⟨w.1, Nat.le_refl _, .first, d0, by show within (lens rows 0) (most - ((0 : Nat) : Int)) = _; rw [show most - ((0 : Nat) : Int) = most by omega]; exact h0⟩
  | i + 1, hi => by
    obtain ⟨h1, h2, h4, due, h3⟩ := short_at w h0 i fun j hj => hi j (by omega)
    obtain ⟨row, y, hr, hs⟩ := short_next' w h1 (hi i (by omega)) h3
    obtain ⟨c, hc⟩ := hs.step
    refine ⟨hs.lt.2, by have := hs.lt.1; omega, .step h4 hr hc, y, ?_⟩
    rw [show most - ((i + 1 : Nat) : Int) = most - i - 1 by omega]
    exact hs.fy
theorem short_next {rows : List Row} (w : WF rows) {most d0 : Int} (h0 : within (lens rows 0) most = some d0) {i : Nat} (hi : ∀ j, j ≤ i → shortAt rows most j + 1 ≠ rows.length) : ∃ due row y, within (lens rows (shortAt rows most i)) (most - i) = some due ∧ StepOk rows (fun a => within (lens rows a) (most - i - 1)) (shortAt rows most i) due (shortAt rows most (i + 1)) row y := by
  obtain ⟨h1, h2, h4, due, h3⟩ := short_at w h0 i fun j hj => hi j (by omega)
  obtain ⟨row, y, hr, hs⟩ := short_next' w h1 (hi i (by omega)) h3
  exact ⟨due, row, y, h3, hs⟩
/-- a way ends at its N-th state -/
def StopAt (rows : List Row) (most : Int) (N : Nat) : Prop := shortAt rows most N + 1 = rows.length ∧ ∀ j, j < N → shortAt rows most j + 1 ≠ rows.length
theorem StopAt.one {rows : List Row} {most : Int} {N M : Nat} (h : StopAt rows most N) (h' : StopAt rows most M) : N = M := by
  rcases Nat.lt_trichotomy N M with q | q | q
  · exact (h'.2 N q h.1).elim
  · exact q
  · exact (h.2 M q h'.1).elim
theorem StopAt.some_ {rows : List Row} (w : WF rows) {most d0 : Int} (h0 : within (lens rows 0) most = some d0) : ∃ N, N < rows.length ∧ StopAt rows most N := by
  have : ∀ n, (∀ j, j < n → shortAt rows most j + 1 ≠ rows.length) ∨ ∃ N, N < n ∧ StopAt rows most N := by
    intro n
    induction n with
    | zero => exact .inl fun j hj => absurd hj (Nat.not_lt_zero _)
    | succ n ih =>
      rcases ih with h | ⟨N, h1, h2⟩
      · by_cases e : shortAt rows most n + 1 = rows.length
        · exact .inr ⟨n, Nat.lt_succ_self _, e, h⟩
        · exact .inl fun j hj => by
            rcases Nat.lt_succ_iff_lt_or_eq.mp hj with h1 | rfl
            · exact h j h1
            · exact e
      · exact .inr ⟨N, Nat.lt_succ_of_lt h1, h2⟩
  rcases this rows.length with h | h
  · have := short_at w h0 rows.length h
    omega
  · exact h
def ShortWay (rows : List Row) (most : Int) (ws : List Nat) : Prop := ∃ N, N < rows.length ∧ StopAt rows most N ∧ ws = (List.range (N + 1)).map (shortAt rows most)
def ShOpt (rows : List Row) (most : Int) (o : Option (List Nat)) : Prop := (within (lens rows 0) most = none ∧ o = none) ∨ ∃ d0 ws, within (lens rows 0) most = some d0 ∧ ShortWay rows most ws ∧ o = some ws
theorem ShOpt.one {rows : List Row} {most : Int} {o o' : Option (List Nat)} (h : ShOpt rows most o) (h' : ShOpt rows most o') : o = o' := by
  rcases h with ⟨h1, rfl⟩ | ⟨d0, ws, h1, ⟨N, _, h2, rfl⟩, rfl⟩
  · rcases h' with ⟨_, rfl⟩ | ⟨d0, ws, h1', _⟩
    · rfl
    · rw [h1] at h1'
      cases h1'
  · rcases h' with ⟨h1', rfl⟩ | ⟨d0, ws, h1', ⟨M, _, h2', rfl⟩, rfl⟩
    · rw [h1] at h1'
      cases h1'
    · rw [h2.one h2']
/-! the cheapest way -/
theorem short_tot {rows : List Row} (w : WF rows) {most : Int} {i : Nat} {k : Nat} (hk : k < rows.length) (h : (rows.length : Int) + i ≤ most) : within (lens rows k) (most - i) = tot rows k := within_tot w hk (by omega)
/-- a short way within a great bound is the exact way of its length -/
theorem short_exact {rows : List Row} (w : WF rows) {most d0 : Int} (h0 : within (lens rows 0) most = some d0) {N : Nat} (hN : N < rows.length) (hS : StopAt rows most N) (hm : 2 * (rows.length : Int) ≤ most) :
    getD (lens rows 0) (N : Int) = some d0 ∧ ∀ i, i ≤ N → exactAt rows (N : Int) i = shortAt rows most i := by
  have main : ∀ j, j ≤ N → ∃ due, tot rows (shortAt rows most (N - j)) = some due ∧ getD (lens rows (shortAt rows most (N - j))) (j : Int) = some due := by
    intro j
    induction j with
    | zero =>
      intro _
      have e : shortAt rows most (N - 0) + 1 = rows.length := hS.1
      refine ⟨0, ?_, ?_⟩
      · unfold tot
        rw [lens_last e]
        unfold within
        have : decide ((0 : Int) ≤ (rows.length : Int)) = true := decide_eq_true (by omega)
        rw [List.filter_cons, if_pos this]
        rfl
      · rw [lens_last e]
        rfl
    | succ j ih =>
      intro hj
      obtain ⟨y0, hy0, hy1⟩ := ih (by omega)
      have hi : ∀ q, q ≤ N - (j + 1) → shortAt rows most q + 1 ≠ rows.length := fun q hq => hS.2 q (by omega)
      obtain ⟨due, row, y, h1, hs⟩ := short_next w h0 hi
      have hat := short_at w h0 (N - (j + 1)) fun q hq => hi q (by omega)
      have e1 : N - (j + 1) + 1 = N - j := by omega
      rw [e1] at hs
      have hfy := hs.fy
      rw [short_tot w hat.1 (by omega)] at h1
      refine ⟨due, h1, ?_⟩
      have hnk := hs.lt.2
      have hfy : within (lens rows (shortAt rows most (N - j))) (most - ((N - (j + 1) : Nat) : Int) - 1) = some y := hs.fy
      rw [within_tot w hnk (by omega), hy0] at hfy
      have eyy := Option.some.inj hfy
      subst eyy
      have hl := lens_lst w hs.row_ (hi _ (Nat.le_refl _)) ((j + 1 : Nat) : Int)
      have ej : ((j + 1 : Nat) : Int) - 1 = (j : Int) := by omega
      rw [ej] at hl
      -- some step comes to due
      have hd : ∃ p ∈ row, p.2 = shortAt rows most (N - j) ∧ p.1 + y0 = due := by
        obtain ⟨p, z, g1, g2, g3, g4, g5⟩ := firstP_some hs.lst
        have g6 : p.2 = shortAt rows most (N - j) := g5.symm.trans hs.nx
        have g7 := hs.fy
        rw [← g6] at g7
        have g8 := g3.symm.trans g7
        have := Option.some.inj g8
        exact ⟨p, g2, g6, by omega⟩
      obtain ⟨p, hp, hp2, hpd⟩ := hd
      have hmem : stepS row (fun a => getD (lens rows a) (j : Int)) due := ⟨p, hp, y0, by dsimp only; rw [hp2]; exact hy1, hpd.symm⟩
      cases hz : getD (lens rows (shortAt rows most (N - (j + 1)))) ((j + 1 : Nat) : Int) with
      | none =>
        rw [hz] at hl
        exact (hl due hmem).elim
      | some z =>
        rw [hz] at hl
        have h2 := hl.2 due hmem
        have h3 := within_lst (lens_nd w hat.1).1 (rows.length : Int)
        have h4 : within (lens rows (shortAt rows most (N - (j + 1)))) (rows.length : Int) = some due := h1
        rw [h4] at h3
        have h5 := h3.2 z ⟨((j + 1 : Nat) : Int), by omega, hz⟩
        exact congrArg some (by omega)
  have eN : N - N = 0 := by omega
  obtain ⟨due, h1, h2⟩ := main N (Nat.le_refl _)
  rw [eN] at h1 h2
  have e0 : shortAt rows most 0 = 0 := rfl
  rw [e0] at h1 h2
  have e1 : within (lens rows 0) most = tot rows 0 := within_tot w w.1 (by omega)
  rw [e1, h1] at h0
  have := Option.some.inj h0
  subst this
  refine ⟨h2, fun i => ?_⟩
  have h0 : within (lens rows 0) most = some due := e1.trans h1
  induction i with
  | zero => exact fun _ => rfl
  | succ i ih =>
    intro hi
    have ei := ih (by omega)
    obtain ⟨d1, a1, a2⟩ := main (N - i) (by omega)
    rw [show N - (N - i) = i by omega, show ((N - i : Nat) : Int) = (N : Int) - i by omega] at a2
    rw [show N - (N - i) = i by omega] at a1
    have hne : ∀ q, q ≤ i → shortAt rows most q + 1 ≠ rows.length := fun q hq => hS.2 q (by omega)
    obtain ⟨d2, row, y, b1, hs⟩ := short_next w h0 hne
    have hat := short_at w h0 i fun q hq => hne q (by omega)
    rw [short_tot w hat.1 (by omega), a1] at b1
    have := Option.some.inj b1
    subst this
    show nxt ((rows[exactAt rows (N : Int) i]?).getD []) (fun a => getD (lens rows a) ((N : Int) - i - 1)) ((getD (lens rows (exactAt rows (N : Int) i)) ((N : Int) - i)).getD 0) = _
    rw [ei, a2, hs.row_, Option.getD_some, Option.getD_some]
    obtain ⟨p, z, g1, g2, g3, g4, g5⟩ := firstP_some hs.lst
    have g6 : p.2 = shortAt rows most (i + 1) := g5.symm.trans hs.nx
    obtain ⟨d3, c1, c2⟩ := main (N - (i + 1)) (by omega)
    rw [show N - (N - (i + 1)) = i + 1 by omega, show ((N - (i + 1) : Nat) : Int) = (N : Int) - i - 1 by omega] at c2
    rw [show N - (N - (i + 1)) = i + 1 by omega] at c1
    have hpw := w.2 _ _ hs.row_ p g2
    have g7 : within (lens rows p.2) (most - i - 1) = some z := g3
    rw [within_tot w hpw.2.2 (by omega), g6, c1] at g7
    have ez := Option.some.inj g7
    subst ez
    have hsame := firstP_same (g := fun a => getD (lens rows a) ((N : Int) - i - 1)) g1 (by show Option.map (p.1 + ·) (getD (lens rows p.2) ((N : Int) - i - 1)) = _; rw [g6, c2]; exact congrArg some g4) (fun q hq hq2 => by
      obtain ⟨x, x1, x2⟩ := Option.map_eq_some_iff.mp hq2
      have hqw := w.2 _ _ hs.row_ q hq
      have x3 := within_lst (lens_nd w hqw.2.2).1 (most - i - 1)
      cases hz : within (lens rows q.2) (most - i - 1) with
      | none =>
        rw [hz] at x3
        exact (x3 x ⟨(N : Int) - i - 1, by omega, x1⟩).elim
      | some u =>
        rw [hz] at x3
        have x4 := x3.2 x ⟨(N : Int) - i - 1, by omega, x1⟩
        have x5 := hs.lst.2 (q.1 + u) ⟨q, hq, u, hz, rfl⟩
        have x2 : q.1 + x = d1 := x2
        show some (q.1 + u) = some d1
        exact congrArg some (by omega))
    unfold nxt
    rw [hsame]
    exact g6
end Tf
/-! comprehensions over a dict's keys, dict comprehensions, get with a default, min -/
namespace Tf
open PySem PySem.Spec PyProof.Rows L2
section
variable {K : PySem.W.Frag} {σ : L2.St} {H F : Hp} {m : Mem} {g : TG} {tt : TT} {te tk tv td tl ty : TE} {vs : List Nat} {v : V} {α β : Type} {R : Rp α} {S : Rp β} {xs : List α} {Q : VK} {d : List (Int × Int)}
/-! ### a lock about an expression -/
def DLE (a : Addr) (u : HO) (od : Obj) (Q : VK) : VK := fun v H' => H' a = some (.frz od u) ∧ Q v (upd H' a u)
theorem x_lockE {a : Addr} {kvs : List (Key × V)} (O : Own H F m) (h : F a = some (.dK kvs))
    (k : ∀ od H1 F1, Own H1 F1 m → Le F F1 → F1 a = some (.frz od (.dK kvs)) → (∀ F', Same F1 F' → Same F (upd F' a (.dK kvs))) → te σ H1 (DLE a (.dK kvs) od Q)) : tLockE te σ H Q :=
  ⟨a, .dK kvs, O.frz h, True.intro, fun od => k od _ _ (O.relay h) (le_lock h) upd_same fun _ s => unlock_same h s⟩
theorem x_unlockE {F0 F1 F' : Hp} {a : Addr} {kvs : List (Key × V)} {od : Obj} (O : Own H F' m) (h1 : F1 a = some (.frz od (.dK kvs))) (hs : ∀ F', Same F1 F' → Same F0 (upd F' a (.dK kvs))) (s : Same F1 F')
    (k : ∀ H2 F2, Same F0 F2 → Le F' F2 → Own H2 F2 m → Q v H2) : DLE a (.dK kvs) od Q v H := by
  have h : F' a = some (.frz od (.dK kvs)) := s _ _ h1
  exact ⟨O.frz h, k _ _ (hs _ s) (le_unlock h) (O.relay h)⟩
/-! ### over a dict's keys -/
def CK (g : TG) (tt : TT) (te : TE) (vs : List Nat) (σ : L2.St) (Q : VK) : VK := fun x H1 => ∃ d o, x = .ref d ∧ ((∃ kvs, H1 d = some (.frz o (.dK kvs)) ∧ LcW (Itk d o kvs) g tt te vs σ Q H1) ∨ ∃ kvs, H1 d = some (.frz o (.dT kvs)) ∧ LcW (Itkt d o kvs) g tt te vs σ Q H1)
theorem x_lcK (k : tl σ H (CK g tt te vs σ Q)) : tLc (iKeys tl) g tt te vs σ H Q := k
theorem x_docK [MonoS S] {a : Addr} {kvs : List (Key × V)} {ob : Obj} (O : Own H F m) (h : F a = some (.frz ob (.dK kvs))) (hk : kvR rInt F d kvs) (P : Nat → Hp → Mem → List β → Prop) (h0 : P 0 F m [])
    (hs : ∀ D acc i p H' F' m' ys, d[i]? = some p → rDict rInt F' d (.ref a) → Same F F' → Own H' F' ((D, .lst acc) :: m') → All2 (S F') ys acc → ys.length ≤ i → P i F' m' ys →
      g (.int p.1) (wipe σ vs) H' fun σ2 H2 => wipe σ2 vs = wipe σ vs ∧ tt σ2 H2 fun b H3 => if b = true then te σ2 H3 fun y H4 => ∃ acc, H4 D = some (.lst acc) ∧ acc.length < sizeLine ∧ LcP S P F D (i + 1) (upd H4 D (.lst (acc ++ [y]))) else LcP S P F D (i + 1) H3)
    (hd : ∀ v' H' F' m' ys, Same F F' → Own H' F' m' → rList S F' ys v' → P d.length F' m' ys → Q v' H') (hP : ∀ F1 F2 m1 ys i, Same F1 F2 → P i F1 m1 ys → P i F2 m1 ys := by exact fun _ _ _ _ _ _ h => h) : CK g tt te vs σ Q (.ref a) H := by
  refine ⟨a, ob, rfl, .inl ⟨kvs, O.frz h, fun D hD => ?_⟩⟩
  refine lc_it walk_keys (LcP S P F D) ⟨F, m, [], [], Same.refl F, O.own hD, .nil, Nat.zero_le _, h0⟩ (fun i H' _ ⟨F', m', _, _, s, O', _⟩ => O'.frz (s _ _ h)) (fun i x H' H2 hi ⟨F', m', acc, ys, s, O', hy, hl, p⟩ y => ?_) fun H' ⟨F', m', acc, ys, s, O', hy, hl, p⟩ => ?_
  · obtain ⟨rfl, k, w, e, rfl⟩ := y
    obtain ⟨q, hq, e1, _⟩ := All2.get' hk e
    have e1 : k = Sum.inl q.1 := e1
    subst e1
    exact hs D acc i q H2 F' m' ys hq ⟨a, kvs, rfl, .inr ⟨ob, s _ _ h⟩, hk.mono fun _ _ h => h⟩ s O' hy hl p
  · have s2 := O'.freeze_same
    exact hd (.ref D) H' (upd F' D (.lst acc)) m' ys (s.trans s2) O'.freeze ⟨D, acc, rfl, upd_same, all2_up s2 hy⟩ (hP _ _ _ _ _ s2 (by rw [← hk.len]; exact p))
/-! ### dict comprehensions over a list -/
def DcP (S : Rp β) (P : Nat → Hp → Mem → List (Int × β) → Prop) (F : Hp) (D : Addr) (i : Nat) (H : Hp) : Prop :=
  ∃ F' m' kvs ys, Same F F' ∧ Own H F' ((D, .dK kvs) :: m') ∧ kvR S F' ys kvs ∧ ys.length ≤ i ∧ P i F' m' ys
def DcW (J : It) (g : TG) (tt : TT) (tk tv : TE) (vs : List Nat) (σ : L2.St) (Q : VK) (H1 : Hp) : Prop := ∀ D, H1 D = none → ∃ W : Nat → Nat → Hp → Prop, (∃ m, W 0 m (upd H1 D (.dK []))) ∧ ∀ i m H, W i m H →
  (J.stop i H ∧ Q (.ref D) H) ∨ (J.go i H ∧ ∃ Nx : Hp → Prop, (∀ H', Nx H' → ∃ m', m' < m ∧ W (i + 1) m' H') ∧ ∀ x H', J.yld i H x H' → g x (wipe σ vs) H' fun σ2 H2 => wipe σ2 vs = wipe σ vs ∧ tt σ2 H2 fun b H3 =>
    if b = true then tk σ2 H3 fun y H4 => tv σ2 H4 fun z H5 => ∃ kvs k, y = kV k ∧ H5 D = some (.dK kvs) ∧ kvs.length < sizeLine ∧ Nx (upd H5 D (.dK (putK kvs k z))) else Nx H3)
def DCL (K : PySem.W.Frag) (g : TG) (tt : TT) (tk tv : TE) (vs : List Nat) (σ : L2.St) (Q : VK) : VK := fun v H1 => ∃ a, v = .ref a ∧ (∃ xs, SqL K H1 a xs) ∧ DcW (Itl K a) g tt tk tv vs σ Q H1
theorem x_dcL (k : tl σ H (DCL K g tt tk tv vs σ Q)) : tDc (iList K tl) g tt tk tv vs σ H Q := k
theorem x_putC {P : Nat → Hp → Mem → List (Int × β) → Prop} {F0 F4 H4 : Hp} {D : Addr} {kvs : List (Key × V)} {m4 : Mem} {ys : List (Int × β)} {x : Int} {z : β} {y : V} {i : Nat} (O : Own H4 F4 ((D, .dK kvs) :: m4)) (s : Same F0 F4) (hz : S F4 z y) (hk : kvR S F4 ys kvs) (hl : ys.length ≤ i) (hi : i < 16777216)
    (p : P (i + 1) F4 m4 (putD ys x z)) : ∃ kvs k, V.int x = kV k ∧ H4 D = some (.dK kvs) ∧ kvs.length < sizeLine ∧ DcP S P F0 D (i + 1) (upd H4 D (.dK (putK kvs k y))) :=
  ⟨kvs, Sum.inl x, rfl, O.at0, by rw [hk.len, sizeLine_eq]; omega, F4, m4, _, putD ys x z, s, O.set _, hk.put x hz, by have := putD_len (d := ys) (k := x) (x := z); omega, p⟩
theorem x_dodL [MonoS R] [MonoS S] (O : Own H F m) (h : rList R F xs v) (P : Nat → Hp → Mem → List (Int × β) → Prop) (h0 : P 0 F m [])
    (hs : ∀ D kvs i x w H' F' m' ys, xs[i]? = some x → R F' x w → Same F F' → Own H' F' ((D, .dK kvs) :: m') → kvR S F' ys kvs → ys.length ≤ i → P i F' m' ys →
      g w (wipe σ vs) H' fun σ2 H2 => wipe σ2 vs = wipe σ vs ∧ tt σ2 H2 fun b H3 => if b = true then tk σ2 H3 fun y H4 => tv σ2 H4 fun z H5 => ∃ kvs k, y = kV k ∧ H5 D = some (.dK kvs) ∧ kvs.length < sizeLine ∧ DcP S P F D (i + 1) (upd H5 D (.dK (putK kvs k z))) else DcP S P F D (i + 1) H3)
    (hd : ∀ v' H' F' m' ys, Same F F' → Own H' F' m' → rDictX S F' ys v' → P xs.length F' m' ys → Q v' H') (hP : ∀ F1 F2 m1 ys i, Same F1 F2 → P i F1 m1 ys → P i F2 m1 ys := by exact fun _ _ _ _ _ _ h => h) : DCL K g tt tk tv vs σ Q v H := by
  obtain ⟨a, us, rfl, ha, r⟩ := h
  refine ⟨a, rfl, ⟨us, .inl (.inl (O.frz ha))⟩, fun D hD => ?_⟩
  refine ⟨fun i n H' => n = us.length - i ∧ i ≤ us.length ∧ DcP S P F D i H', ⟨us.length, by simp, Nat.zero_le _, F, m, [], [], Same.refl F, O.own hD, .nil, Nat.zero_le _, h0⟩, ?_⟩
  rintro i n H' ⟨rfl, hi, hp⟩
  obtain ⟨F', m', kvs, ys, s, O', hk, hl, p⟩ := id hp
  have hsq : SqL K H' a us := .inl (.inl (O'.frz (s _ _ ha)))
  by_cases hlt : i < us.length
  · refine .inr ⟨⟨us, us[i], hsq, by simp [hlt]⟩, DcP S P F D (i + 1), fun H2 p2 => ⟨us.length - (i + 1), by omega, rfl, hlt, p2⟩, fun x H2 y => ?_⟩
    obtain ⟨e, y⟩ := y
    subst e
    obtain ⟨z, hz, hr⟩ := r.get' (y us hsq)
    exact hs D kvs i z x _ F' m' ys hz (up s hr) s O' hk hl p
  · have e : i = us.length := by omega
    subst e
    obtain ⟨O2, s2, h2⟩ := freezeD O' hk
    exact .inl ⟨⟨us, hsq, Nat.le_refl _⟩, hd (.ref D) H' _ m' ys (s.trans s2) O2 h2 (hP _ _ _ _ _ s2 (by rw [r.length]; exact p))⟩
/-! ### get with a default, min -/
theorem rOpt_V {F : Hp} {o : Option Int} : rOpt rInt F o (optV o) := by
  cases o <;> exact rfl
theorem optV_of {F : Hp} {o : Option Int} {v : V} (h : rOpt rInt F o v) : v = optV o := by
  cases o <;> exact h
theorem x_dget2 (k : td σ H fun x H1 => ∃ a, x = .ref a ∧ IsD H1 a ∧ ty σ H1 fun y H2 => te σ H2 fun z H3 => ∃ o, DGet H3 a y o ∧ Q (o.getD z) H3) : tDGet2 td ty te σ H Q := k
theorem isD_of {α : Type} {R : Rp α} {d : List (Int × α)} {a : Addr} (O : Own H F m) (h : rDict R F d (.ref a)) : IsD H a := by
  obtain ⟨b, kvs, e, hb, _⟩ := h
  cases e
  exact .inl ⟨kvs, rd_own O hb⟩
theorem x_getN {d : List (Int × Int)} {a : Addr} {z : Int} (O : Own H F m) (h : rDict rInt F d (.ref a)) (k : Q (optV (getD d z)) H) : ∃ o, DGet H a (.int z) o ∧ Q (o.getD .non) H := by
  obtain ⟨b, kvs, e, hb, hk⟩ := h
  cases e
  refine ⟨_, .inl ⟨kvs, .inl z, rd_own O hb, rfl, rfl⟩, ?_⟩
  rcases hk.get z with ⟨e1, e2⟩ | ⟨y, w, e1, e2, hr⟩
  · rw [e2]
    rw [e1] at k
    exact k
  · have hr : w = .int y := hr
    rw [e2, hr]
    rw [e1] at k
    exact k
theorem x_minDI {ns : List Int} (O : Own H F m) (h : rList rInt F ns v) (k : Q (optV (minI ns)) H) : rMinDI K [v] [.non] H Q := by
  obtain ⟨a, us, rfl, ha, r⟩ := h
  have e := ints_of r
  subst e
  exact ⟨a, ns, rfl, rfl, .inl (.inl (O.frz ha)), k⟩
theorem x_minL {ns : List Int} {x : Int} (O : Own H F m) (h : rList rInt F ns v) (e : minI ns = some x) (k : Q (.int x) H) : rMin K [v] H Q := by
  obtain ⟨a, us, rfl, ha, r⟩ := h
  have e1 := ints_of r
  subst e1
  have hl := lst_minI ns
  rw [e] at hl
  refine ⟨a, ns, rfl, .inl (.inl (O.frz ha)), List.length_pos_iff.mpr fun q => ?_, fun y h1 h2 => ?_⟩
  · rw [q] at e
    cases e
  · have := hl.2 y h1
    have := h2 x hl.1
    have : y = x := by omega
    exact this ▸ k
theorem x_maxL {ns : List Int} (O : Own H F m) (h : rList rInt F ns v) (hn : ns ≠ []) (k : ∀ x, x ∈ ns → (∀ y ∈ ns, y ≤ x) → Q (.int x) H) : rMax K [v] H Q := by
  obtain ⟨a, us, rfl, ha, r⟩ := h
  have e1 := ints_of r
  subst e1
  exact ⟨a, ns, rfl, .inl (.inl (O.frz ha)), List.length_pos_iff.mpr hn, k⟩
/-- a triple of ints -/
abbrev rT3 : Rp (Int × Int × Int) := rTri rInt rInt rInt
theorem all2_T3 {H F : Hp} (O : Own H F m) : ∀ {ts : List (Int × Int × Int)} {us : List V}, All2 (rT3 F) ts us → All2 (fun t x => TpI K H x (itT t)) ts us
  | _, _, .nil => .nil
  | _, _, .cons ⟨b, u1, u2, u3, e, hb, h1, h2, h3⟩ r => .cons ⟨b, e, by
      cases h1
      cases h2
      cases h3
      exact .inl (.inl (O.frz hb))⟩ (all2_T3 O r)
theorem x_minT3 {ts : List (Int × Int × Int)} {a : Addr} {us : List V} (O : Own H F ((a, .lst us) :: m)) (h : All2 (rT3 F) ts us) (hn : ts ≠ []) (k : ∀ t w, t ∈ ts → (∀ u ∈ ts, leT t u) → rT3 F t w → Q w H) : rMinT K [.ref a] H Q :=
  ⟨a, us, ts, rfl, .inl (.inl O.at0), all2_T3 O h, hn, fun i x t hx ht hl => by
    obtain ⟨w, hw, hr⟩ := h.get ht
    rw [hx] at hw
    cases hw
    exact k t x (List.mem_of_getElem? ht) hl hr⟩
end
section
variable {X : Cx}
theorem pe_fldK {K : PySem.W.Frag} {e : Expr} {f : Str} {q : Pos} {ta : TE} (he : PE X e ta) (hb : attributeBase e f X.env (eval e X.env) = eval e X.env) (hK : X.K = K) : PE X (.Attribute e f q) (tFld K ta f) := hK ▸ pe_fld he hb
/-- a name of its own takes a dict comprehension -/
theorem swD {kx vx : Expr} {cs : List Comprehension} {sp : Scope} {q p : Pos} {z : Str} {n : Nat} {ev : Env} (h1 : ev.scope.kind = .function) (h2 : ev.scope.names.lookup z = some .local) (h3 : (p.line == q.line) = true) (h4 : (sp.names.any fun (n, k) => n == z && (k == .local || k == .cell)) = false) :
    swapsWith (.DictComp kx vx cs sp q) (some (.Name z p)) n ev = pure true := by
  have k1 : ev.kindOf z = some .local := h2
  have k2 : ev.blockKind = .function := by
    unfold Env.blockKind
    rw [h1]
    rfl
  unfold swapsWith
  simp only [k2, k1, h4, Expr.pos, h3] <;> rfl
theorem ps_setDc {i : Nat} {z : Str} {p q r : Pos} {kx vx tg ix : Expr} {fs : List Expr} {sp : Scope} {own : List (Str × Nat)} {wi : TI} {g : TG} {tt : TT} {tk tv : TE} (hc : X.calm = true) (hN : X.N.Nodup) (hz : X.N[i]? = some z) (hl : X.env.scope.names.lookup z = some .local) (hsw : swapsWith (.DictComp kx vx [⟨tg, ix, fs, 0⟩] sp q) (some (.Name z p)) r.line X.env = pure true) (hi : PI X tg ix wi) (ok : BlkOk X.N X.env.scope sp own) (hg : ∀ (s : Shared) (H : Hp) (C : Addr) (cl : List (Str × Addr)) (fp : List Addr), PG (X.blk s H sp (compEnvC sp cl C X.env) fp) tg g) (ht : ∀ (s : Shared) (H : Hp) (C : Addr) (cl : List (Str × Addr)) (fp : List Addr), PTs (X.blk s H sp (compEnvC sp cl C X.env) fp) fs tt) (hk : ∀ (s : Shared) (H : Hp) (C : Addr) (cl : List (Str × Addr)) (fp : List Addr), PE (X.blk s H sp (compEnvC sp cl C X.env) fp) kx tk) (he : ∀ (s : Shared) (H : Hp) (C : Addr) (cl : List (Str × Addr)) (fp : List Addr), PE (X.blk s H sp (compEnvC sp cl C X.env) fp) vx tv) (hs : ∀ x, foldedSetIterable ix X.env x = pure x := by intro _; rfl) : PS X (.Assign [.Name z p] (.DictComp kx vx [⟨tg, ix, fs, 0⟩] sp q) r) (tAsg (tDc wi g tt tk tv (own.map (·.2))) (gName i)) := by
  refine ⟨fun pins s σ H D I h => ?_⟩
  rw [exec_Assign_Name_used _ _ _ _ hsw]
  refine wpAny_bind (wpAny_standAt (wpAny_bind ?_))
  show wpAny _ X.A (do let _ ← comprehension (.DictComp kx vx [⟨tg, ix, fs, 0⟩] sp q) sp X.env (firstIterPos [⟨tg, ix, fs, 0⟩] q) newDict false (eval ix X.env) (some (assign (.Name z p) X.env))) _ _ s
  have h : tDc wi g tt tk tv (own.map (·.2)) σ H (fun y H1 => gName i y σ H1 D.nx) := h
  refine wpAny_bind (thn (dc_core (Qf := fun _ s2 => SP X pins D .next s2) hc hN I hi ok hg ht hk he hs h fun L C s2 m H2 I2 qq hn f => ?_) fun _ s2 hq => wpAny_pure (wpAny_pure hq))
  show wpAny _ _ (assign (.Name z p) X.env (.ref L)) _ _ _
  refine wpAny_assign_Name (store_ok2 (v := V.ref L) I2 hN hz (.inl hl) rfl (fun s3 I3 ⟨a, sb, ha⟩ => ?_) (.inr hl))
  obtain ⟨g0, g1, g2, g3, g4, g5⟩ := f
  have hCa : C ≠ a := by
    rcases ha with e | e
    · rw [e]
      exact g1
    · exact fun e2 => g4 z a e e2.symm
  refine ⟨m, hn.sameBut sb hCa, fun h3 sb3 => ?_⟩
  exact ⟨_, H2, I3.turned (t' := s3.toks) (fun b o hb e => (sb3.2 b hb).trans e) g0 g1 g3 g4 g5, qq⟩
end
end Tf
/-! spectrum papers and the verdict on them: plain Lean -/
namespace Tf
abbrev Pap := List (Int × List (Int × Int))
def pairsOk : Int → List (Int × Int) → Bool
  | _, [] => true
  | last, p :: ps => decide (last < p.1) && decide (0 ≤ p.2) && pairsOk p.1 ps
def statesOk (n : Nat) : Int → Pap → Bool
  | _, [] => true
  | last, r :: rs => decide (last < r.1) && decide (r.1 < (n : Int)) && statesOk n r.1 rs
def look (paper : Pap) (a : Nat) : List (Int × Int) := (getD paper (a : Int)).getD []
def dictEqB (d e : List (Int × Int)) : Bool := decide (d.length = e.length) && d.all fun p => decide (getD e p.1 = some p.2)
def rowAt (rows : List Row) (k : Int) : Row := (rows[k.toNat]?).getD []
def dueOf (rows : List Row) (paper : Pap) (k : Int) : List (Int × Int) := if k + 1 = (rows.length : Int) then [(0, 0)] else leastOf (rowAt rows k) (look paper)
def stepsIn (rows : List Row) (paper : Pap) (k : Int) : Bool := (rowAt rows k).all fun p => (getD paper (p.2 : Int)).isSome
def holdsB (rows : List Row) (paper : Pap) (r : Int × List (Int × Int)) : Bool := stepsIn rows paper r.1 && dictEqB r.2 (dueOf rows paper r.1)
def verdict (rows : List Row) (paper : Pap) : Bool := statesOk rows.length (-1) paper && paper.all (fun r => pairsOk (-1) r.2) && (getD paper 0).isSome && paper.all (holdsB rows paper)
/-! dicts that tell the same -/
def SameD (d e : List (Int × Int)) : Prop := ∀ j, getD d j = getD e j
theorem nd_sub : ∀ (l l' : List Int), l.Nodup → (∀ x ∈ l, x ∈ l') → l.length ≤ l'.length
  | [], _, _, _ => Nat.zero_le _
  | x :: l, l', hn, h => by
    obtain ⟨h1, h2⟩ := List.nodup_cons.mp hn
    have hx := h x List.mem_cons_self
    have := nd_sub l (l'.erase x) h2 fun y hy => by
      have : y ≠ x := fun e => h1 (e ▸ hy)
      exact (List.mem_erase_of_ne this).mpr (h y (List.mem_cons_of_mem _ hy))
    rw [List.length_erase_of_mem hx] at this
    have := List.length_pos_of_mem hx
    rw [List.length_cons]
    omega
theorem SameD.keys {d e : List (Int × Int)} (h : SameD d e) (x : Int) : x ∈ d.map (·.1) ↔ x ∈ e.map (·.1) := by
  have h1 := getD_none (d := d) (k := x)
  have h2 := getD_none (d := e) (k := x)
  rw [h x] at h1
  exact Decidable.not_iff_not.mp (h1.symm.trans h2)
theorem dictEq_same {d e : List (Int × Int)} (hd : (d.map (·.1)).Nodup) (he : (e.map (·.1)).Nodup) : dictEqB d e = true ↔ SameD d e := by
  unfold dictEqB
  rw [Bool.and_eq_true, decide_eq_true_eq, List.all_eq_true]
  refine ⟨fun ⟨hl, ha⟩ j => ?_, fun h => ⟨?_, fun p hp => ?_⟩⟩
  · cases hg : getD d j with
    | some x =>
      have := of_decide_eq_true (ha _ (getD_mem hg))
      exact this.symm
    | none =>
      refine (getD_none.mpr fun hj => ?_).symm
      have hsub := nd_sub (j :: d.map (·.1)) (e.map (·.1)) (List.nodup_cons.mpr ⟨getD_none.mp hg, hd⟩) fun x hx => by
        rcases List.mem_cons.mp hx with rfl | hx
        · exact hj
        · obtain ⟨p, hp, rfl⟩ := List.mem_map.mp hx
          exact List.mem_map.mpr ⟨_, getD_mem (of_decide_eq_true (ha p hp)), rfl⟩
      rw [List.length_cons, List.length_map, List.length_map] at hsub
      omega
  · have h1 := nd_sub _ _ hd fun x hx => (h.keys x).mp hx
    have h2 := nd_sub _ _ he fun x hx => (h.keys x).mpr hx
    rw [List.length_map, List.length_map] at h1 h2
    omega
  · rw [← h p.1]
    exact decide_eq_true (getD_of hd hp)
/-- what the law asks -/
theorem law_same {d e : List (Int × Int)} (hd : (d.map (·.1)).Nodup) (he : (e.map (·.1)).Nodup) : (sortI (e.map (·.1)) = sortI (d.map (·.1)) ∧ ∀ p ∈ e, getD d p.1 = some p.2) ↔ SameD d e := by
  refine ⟨fun ⟨hs, ha⟩ j => ?_, fun h => ⟨?_, fun p hp => ?_⟩⟩
  · have hp : (e.map (·.1)).Perm (d.map (·.1)) := (sortI_perm _).symm.trans ((hs ▸ List.Perm.refl _ : (sortI (e.map (·.1))).Perm (sortI (d.map (·.1)))).trans (sortI_perm _))
    cases hg : getD e j with
    | some x => exact ha _ (getD_mem hg)
    | none => exact getD_none.mpr fun hj => getD_none.mp hg (hp.mem_iff.mpr hj)
  · exact sorted_one ((sortI_perm _).trans ((perm_of he hd fun x => (h.keys x).symm).trans (sortI_perm _).symm)) (sortI_sorted _) (sortI_sorted _)
  · rw [h p.1]
    exact getD_of he hp
theorem leastStep_nd {c : Int} {ls acc : List (Int × Int)} {k : Int} (h : (acc.map (·.1)).Nodup) : ((leastStep c ls acc k).map (·.1)).Nodup := by
  unfold leastStep
  dsimp only
  split
  · exact putD_nodup h
  · split
    · exact putD_nodup h
    · exact h
theorem leastAll_nd {c : Int} {ls : List (Int × Int)} : ∀ (ks : List Int) {acc : List (Int × Int)}, (acc.map (·.1)).Nodup → ((ks.foldl (leastStep c ls) acc).map (·.1)).Nodup
  | [], _, h => h
  | k :: ks, _, h => leastAll_nd ks (leastStep_nd h)
theorem leastOf_nd {look : Nat → List (Int × Int)} (row : Row) : ((leastOf row look).map (·.1)).Nodup := by
  unfold leastOf
  have : ∀ (row : Row) (acc : List (Int × Int)), (acc.map (·.1)).Nodup → ((row.foldl (fun acc p => leastAll p.1 (look p.2) acc) acc).map (·.1)).Nodup := by
    intro row
    induction row with
    | nil => exact fun _ h => h
    | cons p row ih => exact fun acc h => ih _ (leastAll_nd _ h)
  exact this row [] List.nodup_nil
theorem leastOf_lst {look : Nat → List (Int × Int)} (row : Row) (j : Int) : Lst (stepS row fun a => getD (look a) (j - 1)) (getD (leastOf row look) j) := by
  refine (of_lst row (acc := []) (S := fun _ => False) (look := look) (j := j) ?_).congr fun x => ⟨fun h => h.elim (fun h => h.elim) id, .inr⟩
  rw [getD_nil]
  exact fun x h => h
theorem dueOf_nd {rows : List Row} {paper : Pap} {k : Int} : ((dueOf rows paper k).map (·.1)).Nodup := by
  unfold dueOf
  split
  · simp
  · exact leastOf_nd _
/-! ascending pairs, ascending states -/
theorem pairsOk_lt : ∀ {ps : List (Int × Int)} {last : Int}, pairsOk last ps = true → (∀ p ∈ ps, last < p.1) ∧ (ps.map (·.1)).Nodup
  | [], _, _ => ⟨fun _ h => (nomatch h), List.nodup_nil⟩
  | p :: ps, last, h => by
    unfold pairsOk at h
    rw [Bool.and_eq_true, Bool.and_eq_true, decide_eq_true_eq, decide_eq_true_eq] at h
    obtain ⟨⟨h1, h2⟩, h3⟩ := h
    obtain ⟨i1, i2⟩ := pairsOk_lt h3
    refine ⟨fun q hq => ?_, List.nodup_cons.mpr ⟨fun hm => ?_, i2⟩⟩
    · rcases List.mem_cons.mp hq with rfl | hq
      · exact h1
      · have := i1 q hq
        omega
    · obtain ⟨q, hq, e⟩ := List.mem_map.mp hm
      have e : q.1 = p.1 := e
      have := i1 q hq
      omega
theorem statesOk_lt {n : Nat} : ∀ {ps : Pap} {last : Int}, statesOk n last ps = true → (∀ p ∈ ps, last < p.1 ∧ p.1 < (n : Int)) ∧ (ps.map (·.1)).Nodup
  | [], _, _ => ⟨fun _ h => (nomatch h), List.nodup_nil⟩
  | p :: ps, last, h => by
    unfold statesOk at h
    rw [Bool.and_eq_true, Bool.and_eq_true, decide_eq_true_eq, decide_eq_true_eq] at h
    obtain ⟨⟨h1, h2⟩, h3⟩ := h
    obtain ⟨i1, i2⟩ := statesOk_lt h3
    refine ⟨fun q hq => ?_, List.nodup_cons.mpr ⟨fun hm => ?_, i2⟩⟩
    · rcases List.mem_cons.mp hq with rfl | hq
      · exact ⟨h1, h2⟩
      · have := i1 q hq
        omega
    · obtain ⟨q, hq, e⟩ := List.mem_map.mp hm
      have e : q.1 = p.1 := e
      have := i1 q hq
      omega
theorem pairsOk_of : ∀ (ps : List (Int × Int)) (last : Int), (ps.map (·.1)).Pairwise (· < ·) → (∀ p ∈ ps, last < p.1 ∧ 0 ≤ p.2) → pairsOk last ps = true
  | [], _, _, _ => rfl
  | p :: ps, last, h, hb => by
    unfold pairsOk
    rw [List.map_cons, List.pairwise_cons] at h
    have h1 := hb p List.mem_cons_self
    rw [Bool.and_eq_true, Bool.and_eq_true, decide_eq_true_eq, decide_eq_true_eq]
    exact ⟨h1, pairsOk_of ps p.1 h.2 fun q hq => ⟨h.1 _ (List.mem_map_of_mem hq), (hb q (List.mem_cons_of_mem _ hq)).2⟩⟩
theorem statesOk_of {n : Nat} : ∀ (ps : Pap) (last : Int), (ps.map (·.1)).Pairwise (· < ·) → (∀ p ∈ ps, last < p.1 ∧ p.1 < (n : Int)) → statesOk n last ps = true
  | [], _, _, _ => rfl
  | p :: ps, last, h, hb => by
    unfold statesOk
    rw [List.map_cons, List.pairwise_cons] at h
    have h1 := hb p List.mem_cons_self
    rw [Bool.and_eq_true, Bool.and_eq_true, decide_eq_true_eq, decide_eq_true_eq]
    exact ⟨h1, statesOk_of ps p.1 h.2 fun q hq => ⟨h.1 _ (List.mem_map_of_mem hq), (hb q (List.mem_cons_of_mem _ hq)).2⟩⟩
/-! told -/
theorem strict_of {l : List Int} (h1 : l.Pairwise (· ≤ ·)) (h2 : l.Nodup) : l.Pairwise (· < ·) :=
  (List.pairwise_and_iff.mpr ⟨h1, h2⟩).imp fun ⟨h, e⟩ => by
    have e : _ ≠ _ := e
    omega
theorem told_keys {d : List (Int × Int)} : (told d).map (·.1) = sortI (d.map (·.1)) := by
  unfold told
  rw [List.map_map]
  exact List.map_id _
theorem told_get {d : List (Int × Int)} (hd : (d.map (·.1)).Nodup) (j : Int) : getD (told d) j = getD d j := by
  have hk : (told d).map (·.1) = sortI (d.map (·.1)) := told_keys
  have hn : ((told d).map (·.1)).Nodup := by
    rw [hk]
    exact (sortI_perm _).nodup_iff.mpr hd
  cases hg : getD d j with
  | none => exact getD_none.mpr fun h => getD_none.mp hg ((sortI_perm _).mem_iff.mp (hk ▸ h))
  | some x =>
    refine getD_of hn ?_
    unfold told
    refine List.mem_map.mpr ⟨j, (sortI_perm _).mem_iff.mpr (List.mem_map.mpr ⟨_, getD_mem hg, rfl⟩), ?_⟩
    rw [hg]
    rfl
theorem lens_pos {rows : List Row} (w : WF rows) : ∀ (n k : Nat), k + n = rows.length → ∀ m x, getD (lens rows k) m = some x → 0 ≤ x := by
  intro n
  induction n using Nat.strongRecOn with
  | _ n ih =>
    intro k hk m x hx
    by_cases hlt : k < rows.length
    · by_cases e : k + 1 = rows.length
      · rw [(lens_end e hx).2]
        exact Int.le_refl _
      · obtain ⟨row, hr⟩ := w.row hlt
        have h1 := lens_lst w hr e m
        rw [hx] at h1
        obtain ⟨p, hp, y, h2, h3⟩ := h1.1
        have hw := w.2 k row hr p hp
        have := ih (rows.length - p.2) (by omega) p.2 (by omega) _ _ h2
        omega
    · have e : rows.length - k = 0 := by omega
      unfold lens at hx
      rw [e] at hx
      unfold lensF at hx
      cases hx
theorem told_ok {rows : List Row} (w : WF rows) {k : Nat} (hk : k < rows.length) : pairsOk (-1) (told (lens rows k)) = true := by
  have hK := lens_nd w hk
  refine pairsOk_of _ _ ?_ fun p hp => ?_
  · rw [told_keys]
    exact strict_of (sortI_sorted _) ((sortI_perm _).nodup_iff.mpr hK.1)
  · have hp1 : p.1 ∈ (lens rows k).map (·.1) := (sortI_perm _).mem_iff.mp (told_keys ▸ List.mem_map_of_mem hp)
    have hn : ((told (lens rows k)).map (·.1)).Nodup := by
      rw [told_keys]
      exact (sortI_perm _).nodup_iff.mpr hK.1
    have h2 := getD_of hn hp
    rw [told_get hK.1] at h2
    have := (hK.2 _ hp1).1
    have := lens_pos w (rows.length - k) k (by omega) _ _ h2
    omega
/-- a right paper: of a set of states that holds the first one and each next one -/
def RightP (rows : List Row) (p : Pap) : Prop := ∃ ks : List Int, ks.Pairwise (· < ·) ∧ (∀ x ∈ ks, 0 ≤ x ∧ x < (rows.length : Int)) ∧ (0 : Int) ∈ ks ∧ (∀ (k : Nat) (row : Row), (k : Int) ∈ ks → rows[k]? = some row → ∀ q ∈ row, (q.2 : Int) ∈ ks) ∧ p = ks.map fun k => (k, told (lens rows k.toNat))
theorem right_get {rows : List Row} {ks : List Int} (hn : ks.Nodup) {x : Int} (hx : x ∈ ks) : getD (ks.map fun k => (k, told (lens rows k.toNat))) x = some (told (lens rows x.toNat)) :=
  getD_of (by rw [List.map_map]; exact (List.map_id ks).symm ▸ hn) (List.mem_map.mpr ⟨x, hx, rfl⟩)
theorem verdict_right {rows : List Row} (w : WF rows) {p : Pap} (h : RightP rows p) : verdict rows p = true := by
  obtain ⟨ks, h1, h2, h3, h4, rfl⟩ := h
  have hn : ks.Nodup := h1.imp fun h e => by omega
  unfold verdict
  rw [Bool.and_eq_true, Bool.and_eq_true, Bool.and_eq_true]
  refine ⟨⟨⟨?_, ?_⟩, ?_⟩, ?_⟩
  · refine statesOk_of _ _ (by rw [List.map_map]; exact (List.map_id ks).symm ▸ h1) fun q hq => ?_
    obtain ⟨k, hk, rfl⟩ := List.mem_map.mp hq
    have := h2 k hk
    exact ⟨by show -1 < k; omega, this.2⟩
  · refine List.all_eq_true.mpr fun q hq => ?_
    obtain ⟨k, hk, rfl⟩ := List.mem_map.mp hq
    have := h2 k hk
    exact told_ok w (by omega)
  · rw [right_get hn h3]
    rfl
  · refine List.all_eq_true.mpr fun q hq => ?_
    obtain ⟨k, hk, rfl⟩ := List.mem_map.mp hq
    have hb := h2 k hk
    obtain ⟨j, rfl⟩ : ∃ j : Nat, k = (j : Int) := ⟨k.toNat, by omega⟩
    have hj : j < rows.length := by omega
    obtain ⟨row, hr⟩ := w.row hj
    have erow : rowAt rows (j : Int) = row := by
      unfold rowAt
      rw [Int.toNat_natCast, hr]
      rfl
    have hK := lens_nd w hj
    unfold holdsB
    rw [Bool.and_eq_true]
    refine ⟨?_, ?_⟩
    · unfold stepsIn
      rw [erow]
      refine List.all_eq_true.mpr fun q hq => ?_
      rw [right_get hn (h4 j row hk hr q hq)]
      rfl
    · have hn2 : ((told (lens rows j)).map (·.1)).Nodup := by
        rw [told_keys]
        exact (sortI_perm _).nodup_iff.mpr hK.1
      show dictEqB (told (lens rows (j : Int).toNat)) _ = true
      rw [Int.toNat_natCast]
      refine (dictEq_same hn2 dueOf_nd).mpr fun m => ?_
      rw [told_get hK.1]
      unfold dueOf
      by_cases e : j + 1 = rows.length
      · rw [if_pos (by omega), lens_last e]
      · rw [if_neg (by omega), erow]
        refine (lens_lst w hr e m).eq (leastOf_lst row m) (fun x hx => ⟨x, ?_, Int.le_refl _⟩) (fun x hx => ⟨x, ?_, Int.le_refl _⟩)
        · refine (stepS_congr (fun q hq => ?_) x).mp hx
          have hw := w.2 j row hr q hq
          unfold look
          rw [right_get hn (h4 j row hk hr q hq), Option.getD_some, Int.toNat_natCast, told_get (lens_nd w hw.2.2).1]
        · refine (stepS_congr (fun q hq => ?_) x).mpr hx
          have hw := w.2 j row hr q hq
          unfold look
          rw [right_get hn (h4 j row hk hr q hq), Option.getD_some, Int.toNat_natCast, told_get (lens_nd w hw.2.2).1]
theorem PaperOk.right {rows : List Row} (w : WF rows) {p : Pap} (h : PaperOk rows p) : RightP rows p := by
  obtain ⟨ks, a1, a2, a3, a4, rfl⟩ := h
  refine ⟨ks, strict_of a2 a1, fun x hx => ?_, (a4 0).mpr .first, fun k row hk hr q hq => (a4 _).mpr (.step ((a4 k).mp hk) hr hq), rfl⟩
  have h0 := a3 x hx
  obtain ⟨n, rfl⟩ : ∃ n : Nat, x = (n : Int) := ⟨x.toNat, by omega⟩
  have := ((a4 n).mp hx).lt w
  omega
end Tf
/-! == of two dicts of ints, != of two lists of ints -/
namespace Tf
open PySem PySem.Spec PyProof.Rows L2
abbrev kvI (p : Int × Int) : Key × V := (Sum.inl p.1, V.int p.2)
theorem kvI_of {F : Hp} : ∀ {d : List (Int × Int)} {ks : List (Key × V)}, kvR rInt F d ks → ks = d.map kvI
  | _, _, .nil => rfl
  | p :: d, q :: ks, .cons ⟨h1, h2⟩ r => by
    have h1 : q.1 = Sum.inl p.1 := h1
    have h2 : q.2 = V.int p.2 := h2
    rw [List.map_cons, ← kvI_of r]
    show q :: ks = (Sum.inl p.1, V.int p.2) :: ks
    rw [← h1, ← h2]
theorem kvI_val {F : Hp} : ∀ {d : List (Int × Int)}, kvR rInt F d (d.map kvI)
  | [] => .nil
  | _ :: _ => .cons ⟨rfl, rfl⟩ kvI_val
theorem valV_I (e : List (Int × Int)) (k : Int) : valV (e.map kvI) (Sum.inl k) = (getD e k).map V.int := by
  rcases (kvI_val (F := fun _ => none) (d := e)).get k with ⟨e1, e2⟩ | ⟨y, w, e1, e2, hr⟩
  · rw [e1, e2]
    rfl
  · have hr : w = .int y := hr
    rw [e1, e2, hr]
    rfl
theorem hits_I {A : Around} {s : Shared} {e : List (Int × Int)} {vb : List (Key × Value)} (rb : KV (e.map kvI) vb) : ∀ (d : List (Int × Int)) (va : List (Key × Value)), KV (d.map kvI) va → PySem.W.KeqHits A s vb va (d.all fun p => decide (getD e p.1 = some p.2)) := by
  intro d
  induction d with
  | nil =>
    intro va h
    cases h
    exact .nil
  | cons p d ih =>
    intro va h
    cases h with
    | @cons _ q _ qs h t =>
      obtain ⟨h1, h2⟩ := h
      obtain ⟨k, v⟩ := q
      have h1 : Sum.inl p.1 = k := h1
      subst h1
      obtain ⟨tk, rfl⟩ := (show ∃ t, v = Value.int p.2 t from h2)
      have rr := rb.val (Sum.inl p.1)
      rw [valV_I] at rr
      rw [List.all_cons]
      cases hg : getD e p.1 with
      | none =>
        rw [hg] at rr
        have hn : valueAt vb (Sum.inl p.1) = none := by
          cases hv : valueAt vb (Sum.inl p.1) with
          | none => rfl
          | some y =>
            rw [hv] at rr
            cases rr
        exact .miss hn
      | some y =>
        rw [hg] at rr
        obtain ⟨z, hz, rz⟩ := rr.some_of
        obtain ⟨t2, rfl⟩ := (show ∃ t, z = Value.int y t from rz)
        have e3 : decide (some y = some p.2) = (p.2 == y) := by
          by_cases h : p.2 = y
          · subst h
            simp
          · have : ¬ y = p.2 := fun q => h q.symm
            simp [h, this]
        rw [e3]
        exact .hit hz (SeqAt.EqAt.int_int _ _ _ _) (ih qs t)
def rEqDI : R2 := fun x y H Q => ∃ a b d e, x = .ref a ∧ y = .ref b ∧ H a = some (.dK (d.map kvI)) ∧ H b = some (.dK (e.map kvI)) ∧ Q (.bl (dictEqB d e)) H
theorem op_eqDI {X : Cx} (hu : X.A.units < cLine) : OpR X (compareOp .Eq) rEqDI := by
  intro pins s σ H x y v u Q I rx ry h
  obtain ⟨a, b, d, e, rfl, rfl, ea, eb, q⟩ := h
  obtain rfl : v = Value.ref a := rx
  obtain rfl : u = Value.ref b := ry
  obtain ⟨_, ya, va, ra, da⟩ := (show ObjOk X.prog X.w H s.heap a (.dK (d.map kvI)) from I.hok a _ ea)
  obtain ⟨_, yb, vb, rb, db⟩ := (show ObjOk X.prog X.w H s.heap b (.dK (e.map kvI)) from I.hok b _ eb)
  have la : va.length = d.length := by rw [← ra.length, List.length_map]
  have lb : vb.length = e.length := by rw [← rb.length, List.length_map]
  refine PySem.W.keq_eq (knd := mixKind X.prog X.w) ya yb da db hu (fun _ => hits_I rb d va ra) ⟨.bl _, H, I, ?_, q⟩
  show Value.bool _ = Value.bool _
  rw [la, lb]
  rfl
theorem x_eqDI {H F : Hp} {m : Mem} {Q : VK} {d e : List (Int × Int)} {v w : V} (O : Own H F m) (h : rDictX rInt F d v) (h2 : rDictX rInt F e w) (k : Q (.bl (dictEqB d e)) H) : rEqDI v w H Q := by
  obtain ⟨a, ks, rfl, ha, hk⟩ := h
  obtain ⟨b, ls, rfl, hb, hl⟩ := h2
  rw [kvI_of hk] at ha
  rw [kvI_of hl] at hb
  exact ⟨a, b, d, e, rfl, rfl, O.frz ha, O.frz hb, k⟩
end Tf
/-! lists of our own that are bent: insert, pop, store at a place -/
namespace Tf
open PySem PySem.Spec PyProof.Rows L2
def rInsert : V → List V → Hp → VK → Prop := fun x vs H Q => ∃ (l : Addr) (xs : List V) (i : Int) (y : V), x = .ref l ∧ vs = [.int i, y] ∧ H l = some (.lst xs) ∧ xs.length < sizeLine ∧ 0 ≤ i ∧ i < 2 ^ 63 ∧
    Q .non (upd H l (.lst (xs.take i.toNat ++ [y] ++ xs.drop i.toNat)))
theorem mt_ins {X : Cx} : MtR X "list.insert" rInsert := mt_insert
section
variable {K : PySem.W.Frag} {H F : Hp} {m : Mem} {a b p : Addr} {o : HO} {vs us : List V} {v w : V} {z : Int} {j : Nat} {Q : VK} {R : Hp → Prop}
theorem x_insert (O : Own H F ((a, .lst vs) :: m)) (hz : z = (j : Int)) (hj : j < 16777216) (hl : vs.length < 16777216) (k : ∀ H', Own H' F ((a, .lst (vs.take j ++ [v] ++ vs.drop j)) :: m) → Q .non H') : rInsert (.ref a) [.int z, v] H Q := by
  subst hz
  refine ⟨a, vs, j, v, rfl, rfl, O.at0, by rw [sizeLine_eq]; exact hl, by omega, by omega, ?_⟩
  rw [Int.toNat_natCast]
  exact k _ (O.set _)
theorem x_popAt (O : Own H F ((a, .lst vs) :: m)) (hz : z = (j : Int)) (hx : vs[j]? = some w) (hl : vs.length < 16777216) (k : ∀ H', Own H' F ((a, .lst (vs.eraseIdx j)) :: m) → Q w H') : rPopAt (.ref a) [.int z] H Q := by
  subst hz
  have hj := (List.getElem?_eq_some_iff.mp hx).1
  refine ⟨a, vs, j, j, w, rfl, rfl, O.at0, by omega, by omega, ?_, hx, k _ (O.set _)⟩
  unfold seqIndex?
  have h1 : ¬ (j : Int) < 0 := by omega
  simp [h1, hj]
theorem ixN_at (hz : z = (j : Int)) {n : Nat} (h : j < n) : ixN n z = some j := by
  subst hz
  unfold ixN
  rw [if_pos (by omega), if_pos (by omega)]
  simp
theorem ixN_end {n : Nat} (h : 0 < n) : ixN n (-1) = some (n - 1) := by
  unfold ixN
  rw [if_neg (by omega), if_pos (by omega)]
  congr 1
  omega
theorem x_setN (O : Own H F ((a, .lst vs) :: m)) (hj : ixN vs.length z = some j) (k : ∀ H', Own H' F ((a, .lst (vs.set j v)) :: m) → R H') : rSetL (.ref a) (.int z) v H R :=
  ⟨a, vs, z, j, rfl, rfl, O.at0, hj, k _ (O.set _)⟩
/-- a list that stands among our cells is read -/
theorem x_ixM (O : Own H F m) (h : (a, HO.lst vs) ∈ m) (e : z = (j : Int)) (hx : vs[j]? = some w) (k : Q w H) : rIxL K (.ref a) (.int z) H Q :=
  ⟨a, vs, z, w, rfl, rfl, .inl (.inl (O.get h)), atI_of e hx, k⟩
theorem atI_end {us : List V} {w : V} (h : us[us.length - 1]? = some w) : atI us (-1) = some w := by
  have hl := (List.getElem?_eq_some_iff.mp h).1
  unfold atI
  rw [ixN_end (by omega)]
  exact h
theorem x_endM (O : Own H F m) (h : (a, HO.lst vs) ∈ m) (hx : vs[vs.length - 1]? = some w) (k : Q w H) : rIxL K (.ref a) (.int (-1)) H Q :=
  ⟨a, vs, -1, w, rfl, rfl, .inl (.inl (O.get h)), atI_end hx, k⟩
theorem x_ixF (O : Own H F m) (h : F a = some (.lst vs)) (e : z = (j : Int)) (hx : vs[j]? = some w) (k : Q w H) : rIxL K (.ref a) (.int z) H Q :=
  ⟨a, vs, z, w, rfl, rfl, .inl (.inl (O.frz h)), atI_of e hx, k⟩
theorem x_rawL (O : Own H F m) (hl : vs.length ≤ 16777216) (k : ∀ p H' F', Same F F' → F' p = some (.lst vs) → Own H' F' m → Q (.ref p) H') : NewL vs Q H :=
  ⟨by rw [sizeLine_eq]; exact hl, fun p hp => k p _ _ (same_new (O.fresh hp)) upd_same (O.new hp)⟩
theorem x_listM (O : Own H F m) (h : (a, HO.lst vs) ∈ m) (k : ∀ l H', H l = none → Own H' F ((l, .lst vs) :: m) → Q (.ref l) H') : rListOf K [.ref a] H Q :=
  ⟨a, vs, rfl, .inl (.inl (.inl (O.get h))), fun l hl => k l _ hl (O.own hl)⟩
theorem x_listFO {α : Type} {R : Rp α} {xs : List α} [MonoS R] (O : Own H F m) (h : rList R F xs v) (k : ∀ l vs H', H l = none → Own H' F ((l, .lst vs) :: m) → All2 (R F) xs vs → Q (.ref l) H') : rListOf K [v] H Q := by
  obtain ⟨a, vs, rfl, ha, r⟩ := h
  exact ⟨a, vs, rfl, .inl (.inl (.inl (O.frz ha))), fun l hl => k l vs _ hl (O.own hl) r⟩
theorem x_lenM (O : Own H F m) (h : (a, HO.lst vs) ∈ m) (k : Q (.int vs.length) H) : rLen K [.ref a] H Q := ⟨a, vs, rfl, .inl (.inl (.inl (O.get h))), k⟩
theorem tq_listM {Q : Bool → Hp → Prop} (O : Own H F m) (h : (a, HO.lst vs) ∈ m) (k : Q (!vs.isEmpty) H) : TQ K Q (.ref a) H := tq_list (O.get h) k
end
theorem Own.less {H F : Hp} {m m' : Mem} (O : Own H F m) (h : m'.Sublist m) : Own H F m' := ⟨O.sub, fun x hx => O.mem x (h.mem hx), (h.map _).nodup O.nd⟩
theorem Own.bring {H F : Hp} {m : Mem} {c : Addr × HO} (O : Own H F m) (h : c ∈ m) : ∃ rest, Own H F (c :: rest) ∧ (c :: rest).Perm m := by
  obtain ⟨l1, l2, rfl⟩ := List.append_of_mem h
  exact ⟨l1 ++ l2, O.perm List.perm_middle, List.perm_middle.symm⟩
/-! a paper that is bent: its list, its pair lists are ours -/
abbrev BZ := V × (Addr × HO)
def RB (F : Hp) (r : Int × List (Int × Int)) (z : BZ) : Prop := ∃ a q ws, z = (.ref a, (q, .lst ws)) ∧ F a = some (.lst [.int r.1, .ref q]) ∧ All2 (rPair rInt rInt F) r.2 ws
theorem RB.up {F F' : Hp} (s : Same F F') {r z} (h : RB F r z) : RB F' r z := let ⟨a, q, ws, e, h1, h2⟩ := h; ⟨a, q, ws, e, s _ _ h1, all2_up s h2⟩
abbrev RBs (F : Hp) : Pap → List BZ → Prop := All2 (RB F)
theorem RBs.up {F F' : Hp} (s : Same F F') {p : Pap} {zs : List BZ} (h : RBs F p zs) : RBs F' p zs := h.mono fun _ _ => RB.up s
abbrev bentM (p : Addr) (o : HO) (b : Addr) (zs : List BZ) (m : Mem) : Mem := (p, o) :: (b, .lst (zs.map (·.1))) :: (zs.map (·.2) ++ m)
structure BSize (n : Nat) (pap : Pap) : Prop where
  len : pap.length ≤ n
  lens : ∀ r ∈ pap, r.2.length ≤ n
def spBend : Sp := fun vs H Q _ => ∃ (p : Addr) (o : HO) (b : Addr) (kind : Int) (at_ : Nat) (zs : List BZ) (pap : Pap) (n : Nat) (F : Hp) (m : Mem), vs = [.ref p, .ref b, .int kind, .int (at_ : Int)] ∧ Own H F (bentM p o b zs m) ∧ PoolOk F o ∧ RBs F pap zs ∧ BSize n pap ∧ 4 ≤ n ∧ n ≤ 4000 ∧ at_ < zs.length ∧
  ∀ H' F' o' zs' pap', Same F F' → Own H' F' (bentM p o' b zs' m) → PoolOk F' o' → RBs F' pap' zs' → BSize (n + 1) pap' → Q .non H'
/-- a pick out of a list that stands still or is ours -/
def spPickO : Sp := fun vs H Q _ => ∃ p o a us F m, vs = [.ref p, .ref a] ∧ Own H F ((p, o) :: m) ∧ PoolOk F o ∧ (F a = some (.lst us) ∨ (a, HO.lst us) ∈ m) ∧ us ≠ [] ∧ us.length < 1000000 ∧
  ∀ w H' o', w ∈ us → Own H' F ((p, o') :: m) → PoolOk F o' → Q w H'
namespace All2
variable {α β : Type} {R : α → β → Prop}
theorem take {n : Nat} : ∀ {xs : List α} {ys : List β}, All2 R xs ys → All2 R (xs.take n) (ys.take n) := by
  induction n with
  | zero => intro _ _ _; exact .nil
  | succ n ih =>
    intro xs ys h
    cases h with
    | nil => exact .nil
    | cons h t => exact .cons h (ih t)
theorem drop {n : Nat} : ∀ {xs : List α} {ys : List β}, All2 R xs ys → All2 R (xs.drop n) (ys.drop n) := by
  induction n with
  | zero => intro _ _ h; exact h
  | succ n ih =>
    intro xs ys h
    cases h with
    | nil => exact .nil
    | cons h t => exact ih t
theorem eraseIdx : ∀ {n : Nat} {xs : List α} {ys : List β}, All2 R xs ys → All2 R (xs.eraseIdx n) (ys.eraseIdx n)
  | _, _, _, .nil => .nil
  | 0, _, _, .cons _ t => t
  | n + 1, _, _, .cons h t => .cons h (eraseIdx (n := n) t)
theorem ins {n : Nat} {xs : List α} {ys : List β} {x : α} {y : β} (h : All2 R xs ys) (hx : R x y) : All2 R (xs.take n ++ [x] ++ xs.drop n) (ys.take n ++ [y] ++ ys.drop n) := ((take h).app (.cons hx .nil)).app (drop h)
end All2
theorem mem_ins {α : Type} {n : Nat} {xs : List α} {x y : α} (h : y ∈ xs.take n ++ [x] ++ xs.drop n) : y ∈ xs ∨ y = x := by
  rcases List.mem_append.mp h with h | h
  · rcases List.mem_append.mp h with h | h
    · exact .inl (List.mem_of_mem_take h)
    · exact .inr (List.mem_singleton.mp h)
  · exact .inl (List.mem_of_mem_drop h)
theorem perm_ins {α : Type} {n : Nat} (xs : List α) (x : α) : (xs.take n ++ [x] ++ xs.drop n).Perm (x :: xs) := by
  rw [List.append_assoc]
  refine List.perm_middle.trans ?_
  show (x :: (xs.take n ++ xs.drop n)).Perm _
  rw [List.take_append_drop]
theorem BSize.ins {n j : Nat} {pap : Pap} {r : Int × List (Int × Int)} (h : BSize n pap) (hr : r.2.length ≤ n + 1) : BSize (n + 1) (pap.take j ++ [r] ++ pap.drop j) where
  len := by
    rw [(perm_ins pap r).length_eq, List.length_cons]
    have := h.len
    omega
  lens := fun x hx => by
    rcases mem_ins hx with hx | rfl
    · have := h.lens x hx
      omega
    · exact hr
theorem BSize.set {n j : Nat} {pap : Pap} {r : Int × List (Int × Int)} (h : BSize n pap) (hr : r.2.length ≤ n + 1) : BSize (n + 1) (pap.set j r) where
  len := by
    rw [List.length_set]
    have := h.len
    omega
  lens := fun x hx => by
    rcases List.mem_or_eq_of_mem_set hx with hx | rfl
    · have := h.lens x hx
      omega
    · exact hr
theorem BSize.sub {n : Nat} {pap pap' : Pap} (h : BSize n pap) (hl : pap'.length ≤ pap.length) (hm : ∀ r ∈ pap', r ∈ pap) : BSize (n + 1) pap' where
  len := by
    have := h.len
    omega
  lens := fun x hx => by
    have := h.lens x (hm x hx)
    omega
section
variable {H F : Hp} {m : Mem} {p b : Addr} {o : HO} {zs : List BZ} {z : BZ} {j : Nat}
theorem bent_ins (O : Own H F ((b, .lst ((zs.map (·.1)).take j ++ [z.1] ++ (zs.map (·.1)).drop j)) :: z.2 :: (p, o) :: (zs.map (·.2) ++ m))) : Own H F (bentM p o b (zs.take j ++ [z] ++ zs.drop j) m) := by
  have e : (zs.take j ++ [z] ++ zs.drop j).map (·.1) = (zs.map (·.1)).take j ++ [z.1] ++ (zs.map (·.1)).drop j := by
    rw [List.map_append, List.map_append, List.map_take, List.map_drop]
    rfl
  unfold bentM
  rw [e]
  refine O.perm ?_
  have h1 : ((zs.take j ++ [z] ++ zs.drop j).map (·.2)).Perm (z.2 :: zs.map (·.2)) := (perm_ins zs z).map _
  have h2 := h1.append_right m
  rw [List.cons_append] at h2
  refine List.Perm.trans ?_ ((List.Perm.cons _ (List.Perm.cons _ h2)).symm)
  refine List.Perm.trans (List.Perm.cons _ (List.Perm.swap _ _ _)) ?_
  exact List.Perm.swap _ _ _
theorem set_take : ∀ {l : List BZ} {j : Nat} {z : BZ}, l[j]? = some z → ∀ z', ∃ l1 l2, l = l1 ++ z :: l2 ∧ l.set j z' = l1 ++ z' :: l2 ∧ l.eraseIdx j = l1 ++ l2
  | [], _, _, h, _ => by simp at h
  | x :: l, 0, z, h, z' => by
    have h : x = z := by simpa using h
    subst h
    exact ⟨[], l, rfl, rfl, rfl⟩
  | x :: l, j + 1, z, h, z' => by
    obtain ⟨l1, l2, h1, h2, h3⟩ := set_take (l := l) (j := j) (by simpa using h) z'
    exact ⟨x :: l1, l2, by rw [List.cons_append, ← h1], by rw [List.set_cons_succ, h2, List.cons_append], by rw [List.eraseIdx_cons_succ, h3, List.cons_append]⟩
/-- the pair list of one row comes to the front -/
theorem bent_out (O : Own H F (bentM p o b zs m)) (h : zs[j]? = some z) : ∃ rest, Own H F ((p, o) :: z.2 :: rest) ∧ (b, HO.lst (zs.map (·.1))) ∈ rest ∧
    ∀ (H' F' : Hp) (o' : HO) (z' : BZ), z'.1 = z.1 → Own H' F' ((p, o') :: z'.2 :: rest) → Own H' F' (bentM p o' b (zs.set j z') m) := by
  obtain ⟨l1, l2, e1, _, _⟩ := set_take h z
  refine ⟨(b, .lst (zs.map (·.1))) :: ((l1 ++ l2).map (·.2) ++ m), O.perm ?_, List.mem_cons_self, fun H' F' o' z' hz O' => ?_⟩
  · refine List.Perm.cons _ ?_
    refine List.Perm.trans (List.Perm.cons _ ?_) (List.Perm.swap _ _ _)
    have h2 : (l1.map (·.2) ++ z.2 :: l2.map (·.2)).Perm (z.2 :: (l1.map (·.2) ++ l2.map (·.2))) := List.perm_middle
    have h3 := h2.append_right m
    rw [e1, List.map_append, List.map_cons, List.map_append]
    exact h3
  · obtain ⟨l1', l2', f1, f2, _⟩ := set_take h z'
    have hzs : (zs.set j z').map (·.1) = zs.map (·.1) := by
      rw [f2, f1, List.map_append, List.map_append, List.map_cons, List.map_cons, hz]
    refine O'.perm ?_
    unfold bentM
    rw [hzs]
    refine List.Perm.cons _ ?_
    refine List.Perm.trans (List.Perm.swap _ _ _) (List.Perm.cons _ ?_)
    have h1 : (l1 ++ l2).Perm (l1' ++ l2') := by
      have : (z :: (l1 ++ l2)).Perm (z :: (l1' ++ l2')) := by
        refine List.perm_middle.symm.trans (List.Perm.trans ?_ List.perm_middle)
        rw [← e1, ← f1]
      exact (List.perm_cons z).mp this
    have e3 : (l1' ++ z' :: l2').map (·.2) = l1'.map (·.2) ++ z'.2 :: l2'.map (·.2) := by
      rw [List.map_append]
      rfl
    rw [f2, e3]
    have h2 : (z'.2 :: ((l1 ++ l2).map (·.2))).Perm (l1'.map (·.2) ++ z'.2 :: l2'.map (·.2)) := by
      refine List.Perm.trans (List.Perm.cons _ (h1.map _)) ?_
      rw [List.map_append]
      exact List.perm_middle.symm
    exact h2.append_right m
theorem map_erase {α β : Type} {f : α → β} : ∀ (l : List α) (j : Nat), (l.eraseIdx j).map f = (l.map f).eraseIdx j
  | [], _ => rfl
  | _ :: _, 0 => rfl
  | x :: l, j + 1 => by
    rw [List.eraseIdx_cons_succ, List.map_cons, List.map_cons, List.eraseIdx_cons_succ, map_erase l j]
theorem bent_pop (O : Own H F ((b, .lst ((zs.map (·.1)).eraseIdx j)) :: (p, o) :: (zs.map (·.2) ++ m))) : Own H F (bentM p o b (zs.eraseIdx j) m) := by
  have e : (zs.eraseIdx j).map (·.1) = (zs.map (·.1)).eraseIdx j := by
    rw [map_erase]
  unfold bentM
  rw [e]
  refine O.swap.less ?_
  refine List.Sublist.cons₂ _ (List.Sublist.cons₂ _ ?_)
  exact List.Sublist.append_right ((List.eraseIdx_sublist zs j).map _) m
theorem swap_perm {l : List BZ} {i j : Nat} {x y : BZ} (hi : l[i]? = some x) (hj : l[j]? = some y) : ((l.set i y).set j x).Perm l := by
  obtain ⟨h1, e1⟩ := List.getElem?_eq_some_iff.mp hi
  obtain ⟨h2, e2⟩ := List.getElem?_eq_some_iff.mp hj
  subst e1 e2
  exact List.set_set_perm h1 h2
theorem bent_swap {i : Nat} {x y : BZ} (hi : zs[i]? = some x) (hj : zs[j]? = some y) (O : Own H F ((b, .lst (((zs.map (·.1)).set i y.1).set j x.1)) :: (p, o) :: (zs.map (·.2) ++ m))) : Own H F (bentM p o b ((zs.set i y).set j x) m) := by
  have e : ((zs.set i y).set j x).map (·.1) = ((zs.map (·.1)).set i y.1).set j x.1 := by
    rw [List.map_set, List.map_set]
  unfold bentM
  rw [e]
  refine O.swap.perm ?_
  exact List.Perm.cons _ (List.Perm.cons _ (((swap_perm hi hj).symm.map _).append_right m))
theorem bent_set {z' : BZ} (h : zs[j]? = some z) (O : Own H F ((b, .lst ((zs.map (·.1)).set j z'.1)) :: z'.2 :: (p, o) :: (zs.map (·.2) ++ m))) : Own H F (bentM p o b (zs.set j z') m) := by
  have e : (zs.set j z').map (·.1) = (zs.map (·.1)).set j z'.1 := by rw [List.map_set]
  obtain ⟨l1, l2, e1, e2, _⟩ := set_take h z'
  unfold bentM
  rw [e]
  have O2 : Own H F ((b, .lst ((zs.map (·.1)).set j z'.1)) :: z'.2 :: (p, o) :: ((l1 ++ l2).map (·.2) ++ m)) := by
    refine O.less ?_
    refine List.Sublist.cons₂ _ (List.Sublist.cons₂ _ (List.Sublist.cons₂ _ ?_))
    rw [e1]
    exact List.Sublist.append_right ((List.Sublist.append_left (List.sublist_cons_self _ _) _).map _) m
  refine O2.perm ?_
  rw [e2, List.map_append, List.map_append, List.map_cons]
  have h2 : (z'.2 :: (l1.map (·.2) ++ l2.map (·.2))).Perm (l1.map (·.2) ++ z'.2 :: l2.map (·.2)) := List.perm_middle.symm
  refine List.Perm.trans ?_ ((List.Perm.cons _ (List.Perm.cons _ (h2.append_right m))))
  rw [List.cons_append]
  exact List.Perm.trans (List.Perm.cons _ (List.Perm.swap _ _ _)) (List.Perm.swap _ _ _)
end
/-- one of fresh pair lists -/
theorem pick_cell {H F : Hp} {cells m : Mem} {w : V} (O : Own H F (cells ++ m)) (hw : w ∈ cells.map fun c => V.ref c.1) (hc : ∀ c ∈ cells, ∃ ws ps, c.2 = HO.lst ws ∧ All2 (rPair rInt rInt F) ps ws ∧ ps.length ≤ 4) :
    ∃ q ws ps, w = .ref q ∧ Own H F ((q, .lst ws) :: m) ∧ All2 (rPair rInt rInt F) ps ws ∧ ps.length ≤ 4 := by
  obtain ⟨c, hcm, rfl⟩ := List.mem_map.mp hw
  obtain ⟨ws, ps, e, h1, h2⟩ := hc c hcm
  refine ⟨c.1, ws, ps, rfl, ?_, h1, h2⟩
  have : (c.1, HO.lst ws) = c := by rw [← e]
  rw [this]
  exact O.less (List.Sublist.append_right (List.singleton_sublist.mpr hcm) m)
/-- all stands still in the end -/
abbrev rPairsL : Rp (List (Int × Int)) := rList (rPair rInt rInt)
def rTwo {α β : Type} (R : Rp α) (S : Rp β) : Rp (α × β) := fun F p v => ∃ a u w, v = .ref a ∧ F a = some (.lst [u, w]) ∧ R F p.1 u ∧ S F p.2 w
instance {α β : Type} {R : Rp α} {S : Rp β} [MonoS R] [MonoS S] : MonoS (rTwo R S) := ⟨fun s ⟨a, u, w, e, h, r, t⟩ => ⟨a, u, w, e, s _ _ h, up s r, up s t⟩⟩
abbrev rPapL : Rp Pap := rList (rTwo rInt rPairsL)
theorem bent_cells {H : Hp} {m : Mem} : ∀ {pap : Pap} {zs : List BZ} {F : Hp}, RBs F pap zs → Own H F (zs.map (·.2) ++ m) → ∃ F', Same F F' ∧ Own H F' m ∧ All2 (rTwo rInt rPairsL F') pap (zs.map (·.1))
  | _, _, F, .nil, O => ⟨F, Same.refl F, O, .nil⟩
  | _, _, F, .cons (x := r) (y := z) h t, O => by
    obtain ⟨a, q, ws, rfl, h1, h2⟩ := h
    have O : Own H F ((q, .lst ws) :: (_ ++ m)) := O
    have s1 := O.freeze_same
    obtain ⟨F', s2, O', h3⟩ := bent_cells (RBs.up s1 t) O.freeze
    refine ⟨F', s1.trans s2, O', .cons ⟨a, .int r.1, .ref q, rfl, (s1.trans s2) _ _ h1, rfl, q, ws, rfl, s2 _ _ upd_same, all2_up (s1.trans s2) h2⟩ h3⟩
theorem bent_all {H F : Hp} {m : Mem} {p b : Addr} {o : HO} {zs : List BZ} {pap : Pap} (O : Own H F (bentM p o b zs m)) (h : RBs F pap zs) : ∃ F', Same F F' ∧ Own H F' ((p, o) :: m) ∧ rPapL F' pap (.ref b) := by
  have s1 := O.swap.freeze_same
  have O1 := O.swap.freeze
  have O2 : Own H (upd F b (.lst (zs.map (·.1)))) (zs.map (·.2) ++ ((p, o) :: m)) := O1.perm List.perm_middle.symm
  obtain ⟨F', s2, O', h3⟩ := bent_cells (RBs.up s1 h) O2
  exact ⟨F', s1.trans s2, O', b, _, rfl, s2 _ _ upd_same, h3⟩
/-! a list that is made by a comprehension, and stays ours -/
section
variable {K : PySem.W.Frag} {σ : L2.St} {H F : Hp} {m : Mem} {g : TG} {tt : TT} {te : TE} {vs : List Nat} {v : V} {α β : Type} {R : Rp α} {S : Rp β} {xs : List α} {Q : VK}
theorem x_docLO [MonoS R] (O : Own H F m) (h : rList R F xs v) (P : Nat → Hp → Mem → List β → Prop) (h0 : P 0 F m [])
    (hs : ∀ D acc i x w H' F' m' ys, xs[i]? = some x → R F' x w → Same F F' → Own H' F' ((D, .lst acc) :: m') → All2 (S F') ys acc → ys.length ≤ i → P i F' m' ys →
      g w (wipe σ vs) H' fun σ2 H2 => wipe σ2 vs = wipe σ vs ∧ tt σ2 H2 fun b H3 => if b = true then te σ2 H3 fun y H4 => ∃ acc, H4 D = some (.lst acc) ∧ acc.length < sizeLine ∧ LcP S P F D (i + 1) (upd H4 D (.lst (acc ++ [y]))) else LcP S P F D (i + 1) H3)
    (hd : ∀ D acc H' F' m' ys, Same F F' → Own H' F' ((D, .lst acc) :: m') → All2 (S F') ys acc → P xs.length F' m' ys → Q (.ref D) H') : CL K g tt te vs σ Q v H := by
  obtain ⟨a, us, rfl, ha, r⟩ := h
  refine ⟨a, rfl, ⟨us, .inl (.inl (O.frz ha))⟩, fun D hD => lc_list (LcP S P F D) ⟨F, m, [], [], Same.refl F, O.own hD, .nil, Nat.zero_le _, h0⟩ (fun i H' _ ⟨F', m', _, _, s, O', _⟩ => .inl (.inl (O'.frz (s _ _ ha)))) (fun i w H' hi ⟨F', m', acc, ys, s, O', hy, hl, p⟩ => ?_) fun H' ⟨F', m', acc, ys, s, O', hy, hl, p⟩ => ?_⟩
  · obtain ⟨x, hx, hr⟩ := r.get' hi
    exact hs D acc i x w H' F' m' ys hx (up s hr) s O' hy hl p
  · exact hd D acc H' F' m' ys s O' hy (by rw [r.length]; exact p)
/-- any value, as it is -/
def rRaw : Rp V := fun _ x v => v = x
instance : MonoS rRaw := ⟨fun _ h => h⟩
theorem raw_of {F : Hp} : ∀ {xs vs : List V}, All2 (rRaw F) xs vs → vs = xs
  | _, _, .nil => rfl
  | _, _, .cons h t => by rw [show _ = _ from h, raw_of t]
theorem x_two0 {T : Rp α} {p : α × β} (O : Own H F m) (h : rTwo T S F p v) (k : ∀ w, T F p.1 w → Q w H) : rIxL K v (.int 0) H Q := by
  obtain ⟨a, u, w, rfl, ha, r, s⟩ := h
  exact ⟨a, [u, w], 0, u, rfl, rfl, .inl (.inl (O.frz ha)), rfl, k u r⟩
theorem x_two1 {T : Rp α} {p : α × β} (O : Own H F m) (h : rTwo T S F p v) (k : ∀ w, S F p.2 w → Q w H) : rIxL K v (.int 1) H Q := by
  obtain ⟨a, u, w, rfl, ha, r, s⟩ := h
  exact ⟨a, [u, w], 1, w, rfl, rfl, .inl (.inl (O.frz ha)), rfl, k w s⟩
end
theorem perm_snoc {α : Type} (Z rest : List α) (x : α) : (x :: (Z ++ rest)).Perm ((Z ++ [x]) ++ rest) := by
  rw [List.append_assoc]
  exact List.perm_middle.symm
theorem BSize.mono {n k : Nat} {pap : Pap} (h : BSize n pap) (hk : n ≤ k) : BSize k pap := ⟨Nat.le_trans h.len hk, fun r hr => Nat.le_trans (h.lens r hr) hk⟩
def spBent : Sp := fun vs H Q _ => ∃ (p : Addr) (o : HO) (v : V) (pap : Pap) (F : Hp) (m : Mem), vs = [.ref p, v] ∧ Own H F ((p, o) :: m) ∧ PoolOk F o ∧ rPapL F pap v ∧ BSize 2000 pap ∧
  ∀ w H' F' o' pap', Same F F' → Own H' F' ((p, o') :: m) → PoolOk F' o' → rPapL F' pap' w → BSize 2002 pap' → Q w H'
end Tf
/-! != of lists of ints; a dict that is locked is asked; a return out of a loop over a dict -/
namespace Tf
open PySem PySem.Spec PyProof.Rows L2
theorem eqvAll_ints : ∀ (xs ys : List Int), PyData.eqvAll (xs.map PyData.int) (ys.map PyData.int) = decide (xs = ys)
  | [], [] => rfl
  | [], y :: ys => rfl
  | x :: xs, [] => rfl
  | x :: xs, y :: ys => by
    rw [List.map_cons, List.map_cons]
    unfold PyData.eqvAll
    rw [eqvAll_ints xs ys]
    unfold PyData.eqv
    by_cases h : x = y
    · subst h
      simp
    · simp [h]
theorem canLay_ints : ∀ (xs : List Int), PyData.canLayAll0 (xs.map PyData.int) = true
  | [] => rfl
  | x :: xs => by
    rw [List.map_cons]
    unfold PyData.canLayAll0 PyData.canLay0
    rw [canLay_ints xs]
    rfl
theorem shaped_ints (xs : List Int) : SeqAt.shaped (.list (xs.map PyData.int)) = true := by
  unfold SeqAt.shaped
  rw [Bool.and_eq_true]
  refine ⟨?_, decide_eq_true ?_⟩
  · unfold PyData.canLay0
    exact canLay_ints xs
  · have h := depth_nums xs
    show PyData.depthAll (xs.map PyData.int) + 1 ≤ 64
    omega
theorem shaped_intsT (xs : List Int) : SeqAt.shaped (.tuple (xs.map PyData.int)) = true := by
  unfold SeqAt.shaped
  rw [Bool.and_eq_true]
  refine ⟨?_, decide_eq_true ?_⟩
  · unfold PyData.canLay0
    exact canLay_ints xs
  · have h := depth_nums xs
    show PyData.depthAll (xs.map PyData.int) + 1 ≤ 64
    omega
theorem dp_ints {K : PySem.W.Frag} {H : Hp} : ∀ (xs : List Int), DpAll K H (xs.map V.int) (xs.map PyData.int)
  | [] => .nil
  | x :: xs => .cons (.int x) (dp_ints xs)
section
variable {K : PySem.W.Frag} {H F : Hp} {m : Mem} {v w : V} {Q : VK} {ns ms : List Int}
theorem dp_listI (O : Own H F m) (h : rList rInt F ns v) : Dp K H v (.list (ns.map PyData.int)) := by
  obtain ⟨a, vs, rfl, ha, r⟩ := h
  have e := ints_of r
  subst e
  exact .lst (.inl (.inl (O.frz ha))) (dp_ints ns)
theorem dp_tupI (O : Own H F m) (h : rTup rInt F ns v) : Dp K H v (.tuple (ns.map PyData.int)) := by
  obtain ⟨a, vs, rfl, ha, r⟩ := h
  have e := ints_of r
  subst e
  exact .tup (.inl (.inl (O.frz ha))) (dp_ints ns)
theorem x_neLI (O : Own H F m) (h : rList rInt F ns v) (h2 : rList rInt F ms w) (k : Q (.bl (!decide (ns = ms))) H) : rNeD K v w H Q := by
  refine ⟨_, _, dp_listI O h, dp_listI O h2, shaped_ints ns, shaped_ints ms, ?_⟩
  have e : PyData.eqv (.list (ns.map PyData.int)) (.list (ms.map PyData.int)) = decide (ns = ms) := by
    rw [← eqvAll_ints]
    unfold PyData.eqv
    rfl
  rw [e]
  exact k
theorem x_eqTI (O : Own H F m) (h : rTup rInt F ns v) (h2 : rTup rInt F ms w) (k : Q (.bl (decide (ns = ms))) H) : rEqD K v w H Q := by
  refine ⟨_, _, dp_tupI O h, dp_tupI O h2, shaped_intsT ns, shaped_intsT ms, ?_⟩
  have e : PyData.eqv (.tuple (ns.map PyData.int)) (.tuple (ms.map PyData.int)) = decide (ns = ms) := by
    rw [← eqvAll_ints]
    unfold PyData.eqv
    rfl
  rw [e]
  exact k
end
/-- return out of a loop over a dict -/
theorem x_unlockR {F0 F1 F' H : Hp} {m : Mem} {D : Ends} {v : V} {a : Addr} {kvs : List (Key × V)} {od : Obj} (O : Own H F' m) (h1 : F1 a = some (.frz od (.dK kvs))) (hs : ∀ F', Same F1 F' → Same F0 (upd F' a (.dK kvs))) (s : Same F1 F')
    (k : ∀ H2 F2, Same F0 F2 → Le F' F2 → Own H2 F2 m → D.rt v H2) : Ends.rt (DL a (.dK kvs) od D) v H := by
  have h : F' a = some (.frz od (.dK kvs)) := s _ _ h1
  exact ⟨O.frz h, k _ _ (hs _ s) (le_unlock h) (O.relay h)⟩
theorem x_orC {b c : Bool} {A B X : Prop} (e : (if c = true then A else B) → X) (k : if (b || c) = true then A else B) : if b = true then (if true = true then A else B) else X := by
  cases b with
  | true => exact k
  | false => exact e k
theorem filt_take_yes {α : Type} {l : List α} {p : α → Bool} {i : Nat} {x : α} (hi : l[i]? = some x) (h : p x = true) : (l.take (i + 1)).filter p = (l.take i).filter p ++ [x] := by
  rw [List.take_add_one, hi, List.filter_append]
  congr 1
  show [x].filter p = [x]
  rw [List.filter_cons, if_pos h, List.filter_nil]
theorem filt_take_no {α : Type} {l : List α} {p : α → Bool} {i : Nat} {x : α} (hi : l[i]? = some x) (h : p x = false) : (l.take (i + 1)).filter p = (l.take i).filter p := by
  rw [List.take_add_one, hi, List.filter_append]
  show _ ++ [x].filter p = _
  rw [List.filter_cons, if_neg (by rw [h]; decide), List.filter_nil, List.append_nil]
theorem x_lock2 {σ : L2.St} {H F : Hp} {m : Mem} {D : Ends} {t : TS} {a : Addr} {kvs : List (Key × V)} (O : Own H F m) (h : F a = some (.dK kvs))
    (k : ∀ od H1 F1, Own H1 F1 m → Le F F1 → F1 a = some (.frz od (.dK kvs)) → (∀ b u, b ≠ a → F b = some u → F1 b = some u) → (∀ F', Same F1 F' → Same F (upd F' a (.dK kvs))) → t (DL a (.dK kvs) od D) σ H1) : tLock t D σ H :=
  ⟨a, .dK kvs, O.frz h, True.intro, fun od => k od _ _ (O.relay h) (le_lock h) upd_same (fun b u hb e => by rw [upd_ne hb]; exact e) fun _ s => unlock_same h s⟩
theorem all2_memR {α β : Type} {R : α → β → Prop} : ∀ {xs : List α} {ys : List β} {y : β}, All2 R xs ys → y ∈ ys → ∃ x, x ∈ xs ∧ R x y
  | _, _, _, .nil, h => (nomatch h)
  | _, _, _, .cons (x := x) (y := y') h t, hm => by
    rcases List.mem_cons.mp hm with rfl | hm
    · exact ⟨x, List.mem_cons_self, h⟩
    · obtain ⟨z, h1, h2⟩ := all2_memR t hm
      exact ⟨z, List.mem_cons_of_mem _ h1, h2⟩
theorem all2_monoM {α β : Type} {R S : α → β → Prop} : ∀ {xs : List α} {ys : List β}, All2 R xs ys → (∀ x y, y ∈ ys → R x y → S x y) → All2 S xs ys
  | _, _, .nil, _ => .nil
  | _, _, .cons h t, f => .cons (f _ _ List.mem_cons_self h) (all2_monoM t fun x y hy => f x y (List.mem_cons_of_mem _ hy))
/-- the dicts within a dict that is locked are not locked -/
theorem kvR_lock {F F1 : Hp} {a : Addr} {p : List (Int × List (Int × Int))} {kvs : List (Key × V)} (h : F a = some (.dK kvs)) (hk : kvR rLens F p kvs) (hne : ∀ b u, b ≠ a → F b = some u → F1 b = some u) : kvR rLens F1 p kvs := by
  refine all2_monoM hk fun x y hy ⟨e, b, kv1, eb, hb, hr⟩ => ⟨e, b, kv1, eb, hne b _ (fun z => ?_) hb, hr⟩
  subst z
  rw [h] at hb
  cases hb
  obtain ⟨q, _, _, q2⟩ := all2_memR hr hy
  have q2 : y.2 = .int q.2 := q2
  rw [eb] at q2
  cases q2
theorem x_chain {r r' : R2} {ta tb tc : TE} {σ : L2.St} {H : Hp} {Q : VK} (k : ta σ H fun x H1 => tb σ H1 fun y H2 => r x y H2 (BQ fun b H3 => if b = true then tc σ H3 fun w' H4 => r' y w' H4 Q else Q (.bl false) H3)) : tChain r r' ta tb tc σ H Q := k
theorem x_part {te : TE} {σ : L2.St} {H : Hp} {Q : Option Int → Hp → Prop} (k : te σ H fun x H1 => ∃ i, x = .int i ∧ Q (some i) H1) : tPart te σ H Q := k
section
variable {K : PySem.W.Frag} {σ : L2.St} {H F : Hp} {m : Mem} {g : TG} {tt : TT} {te tk tv tl : TE} {vs : List Nat} {v : V} {α β : Type} {R : Rp α} {S : Rp β} {xs : List α} {Q : VK}
def DCS (K : PySem.W.Frag) (g : TG) (tt : TT) (tk tv : TE) (vs : List Nat) (σ : L2.St) (Q : VK) : VK := fun v H1 => ∃ a, v = .ref a ∧ (((∃ xs, SqL K H1 a xs) ∧ DcW (Itl K a) g tt tk tv vs σ Q H1) ∨ ((∃ xs, SqT K H1 a xs) ∧ DcW (Itt K a) g tt tk tv vs σ Q H1))
theorem x_dcS (k : tl σ H (DCS K g tt tk tv vs σ Q)) : tDc (iSeq K tl) g tt tk tv vs σ H Q := k
def DCT (K : PySem.W.Frag) (g : TG) (tt : TT) (tk tv : TE) (vs : List Nat) (σ : L2.St) (Q : VK) : VK := fun v H1 => ∃ a, v = .ref a ∧ (∃ xs, SqT K H1 a xs) ∧ DcW (Itt K a) g tt tk tv vs σ Q H1
theorem x_dodT [MonoS R] [MonoS S] (O : Own H F m) (h : rTup R F xs v) (P : Nat → Hp → Mem → List (Int × β) → Prop) (h0 : P 0 F m [])
    (hs : ∀ D kvs i x w H' F' m' ys, xs[i]? = some x → R F' x w → Same F F' → Own H' F' ((D, .dK kvs) :: m') → kvR S F' ys kvs → ys.length ≤ i → P i F' m' ys →
      g w (wipe σ vs) H' fun σ2 H2 => wipe σ2 vs = wipe σ vs ∧ tt σ2 H2 fun b H3 => if b = true then tk σ2 H3 fun y H4 => tv σ2 H4 fun z H5 => ∃ kvs k, y = kV k ∧ H5 D = some (.dK kvs) ∧ kvs.length < sizeLine ∧ DcP S P F D (i + 1) (upd H5 D (.dK (putK kvs k z))) else DcP S P F D (i + 1) H3)
    (hd : ∀ v' H' F' m' ys, Same F F' → Own H' F' m' → rDictX S F' ys v' → P xs.length F' m' ys → Q v' H') (hP : ∀ F1 F2 m1 ys i, Same F1 F2 → P i F1 m1 ys → P i F2 m1 ys := by exact fun _ _ _ _ _ _ h => h) : DCT K g tt tk tv vs σ Q v H := by
  obtain ⟨a, us, rfl, ha, r⟩ := h
  refine ⟨a, rfl, ⟨us, .inl (.inl (O.frz ha))⟩, fun D hD => ?_⟩
  refine ⟨fun i n H' => n = us.length - i ∧ i ≤ us.length ∧ DcP S P F D i H', ⟨us.length, by simp, Nat.zero_le _, F, m, [], [], Same.refl F, O.own hD, .nil, Nat.zero_le _, h0⟩, ?_⟩
  rintro i n H' ⟨rfl, hi, hp⟩
  obtain ⟨F', m', kvs, ys, s, O', hk, hl, p⟩ := id hp
  have hsq : SqT K H' a us := .inl (.inl (O'.frz (s _ _ ha)))
  by_cases hlt : i < us.length
  · refine .inr ⟨⟨us, us[i], hsq, by simp [hlt]⟩, DcP S P F D (i + 1), fun H2 p2 => ⟨us.length - (i + 1), by omega, rfl, hlt, p2⟩, fun x H2 y => ?_⟩
    obtain ⟨e, y⟩ := y
    subst e
    obtain ⟨z, hz, hr⟩ := r.get' (y us hsq)
    exact hs D kvs i z x _ F' m' ys hz (up s hr) s O' hk hl p
  · have e : i = us.length := by omega
    subst e
    obtain ⟨O2, s2, h2⟩ := freezeD O' hk
    exact .inl ⟨⟨us, hsq, Nat.le_refl _⟩, hd (.ref D) H' _ m' ys (s.trans s2) O2 h2 (hP _ _ _ _ _ s2 (by rw [r.length]; exact p))⟩
theorem x_dodS [MonoS R] [MonoS S] (O : Own H F m) (h : rSeq R F xs v) (P : Nat → Hp → Mem → List (Int × β) → Prop) (h0 : P 0 F m [])
    (hs : ∀ D kvs i x w H' F' m' ys, xs[i]? = some x → R F' x w → Same F F' → Own H' F' ((D, .dK kvs) :: m') → kvR S F' ys kvs → ys.length ≤ i → P i F' m' ys →
      g w (wipe σ vs) H' fun σ2 H2 => wipe σ2 vs = wipe σ vs ∧ tt σ2 H2 fun b H3 => if b = true then tk σ2 H3 fun y H4 => tv σ2 H4 fun z H5 => ∃ kvs k, y = kV k ∧ H5 D = some (.dK kvs) ∧ kvs.length < sizeLine ∧ DcP S P F D (i + 1) (upd H5 D (.dK (putK kvs k z))) else DcP S P F D (i + 1) H3)
    (hd : ∀ v' H' F' m' ys, Same F F' → Own H' F' m' → rDictX S F' ys v' → P xs.length F' m' ys → Q v' H') (hP : ∀ F1 F2 m1 ys i, Same F1 F2 → P i F1 m1 ys → P i F2 m1 ys := by exact fun _ _ _ _ _ _ h => h) : DCS K g tt tk tv vs σ Q v H := by
  rcases h with h | h
  · obtain ⟨a, e, h1, h2⟩ := x_dodL (K := K) O h P h0 hs hd hP
    exact ⟨a, e, .inl ⟨h1, h2⟩⟩
  · obtain ⟨a, e, h1, h2⟩ := x_dodT (K := K) O h P h0 hs hd hP
    exact ⟨a, e, .inr ⟨h1, h2⟩⟩
end
theorem fm_take {α β : Type} {l : List α} {p : α → Option β} {i : Nat} {x : α} (hi : l[i]? = some x) : (l.take (i + 1)).filterMap p = (l.take i).filterMap p ++ (p x).toList := by
  rw [List.take_add_one, hi, List.filterMap_append]
  congr 1
end Tf
/-! slices from the second on, zip of two tuples, the last item, any value -/
namespace Tf
open PySem PySem.Spec PyProof.Rows L2 RZ
/-- anything -/
def rAny : Rp Unit := fun _ _ _ => True
instance : MonoS rAny := ⟨fun _ _ => True.intro⟩
section
variable {K : PySem.W.Frag} {σ : L2.St} {H F : Hp} {m : Mem} {D : Ends} {tb : TS} {g : TG} {v w : V} {te : TE} {tl th : TO} {ta : TA} {α β : Type} {R : Rp α} {S : Rp β} {xs : List α} {ys : List β} {Q : VK}
theorem x_sl {r : V → Option Int → Option Int → Hp → VK → Prop} (k : te σ H fun x H1 => tl σ H1 fun l H2 => th σ H2 fun u H3 => r x l u H3 Q) : tSl r te tl th σ H Q := k
theorem x_noP {Q : Option Int → Hp → Prop} (k : Q none H) : tNoPart σ H Q := k
theorem x_partI {Q : Option Int → Hp → Prop} {i : Int} (k : Q (some i) H) : tPart (tC (.int i)) σ H Q := ⟨i, rfl, k⟩
theorem x_slT1 (O : Own H F m) (h : rTup R F xs v) (hn : xs ≠ []) (k : ∀ w H' F', Same F F' → Own H' F' m → rTup R F' (xs.drop 1) w → Q w H') [MonoS R] : rSlT K v (some 1) none H Q := by
  obtain ⟨a, us, rfl, ha, r⟩ := h
  have hl : 0 < us.length := by
    rw [← r.length]
    exact List.length_pos_iff.mpr hn
  have e1 : HT.sIx us.length 0 (some 1) = 1 := by
    unfold HT.sIx
    dsimp only
    rw [if_neg (by decide)]
    show min 1 us.length = 1
    omega
  have e2 : HT.sIx us.length us.length none = us.length := rfl
  have ec : cutV us (some 1) none = us.drop 1 := by
    unfold cutV
    rw [e1, e2]
    exact List.take_of_length_le (by rw [List.length_drop]; exact Nat.le_refl _)
  refine ⟨a, us, rfl, .inl (.inl (O.frz ha)), fun q => by rw [e1] at q; exact absurd q.1 (by decide), fun p hp => ?_⟩
  rw [ec]
  have s : Same F (upd F p (.tup (us.drop 1))) := same_new (O.fresh hp)
  refine k _ _ _ s (O.new hp) ⟨p, _, rfl, upd_same, ?_⟩
  have : All2 (R F) (xs.drop 1) (us.drop 1) := by
    cases r with
    | nil => exact .nil
    | cons _ t => exact t
  exact all2_up s this
/-! zip -/
def FZ (K : PySem.W.Frag) (g : TG) (tb : TS) (D : Ends) (σ : L2.St) : List V → Hp → Prop := fun vs H1 => ∃ a b xs ys, vs = [.ref a, .ref b] ∧ ((SqL K H1 a xs ∧ SqL K H1 b ys ∧ ForW (Itz K a b) g tb D σ H1) ∨ (SqT K H1 a xs ∧ SqT K H1 b ys ∧ ForW (ItzT K a b) g tb D σ H1))
theorem x_forZ (k : ta σ H (FZ K g tb D σ)) : tFor (iZipA K ta) g tb D σ H := k
theorem walk_zT {a b : Addr} {us zs : List V} : Walk (ItzT K a b) (min us.length zs.length) (fun H => SqT K H a us ∧ SqT K H b zs) (YPair (fun i => us[i]?) (fun i => zs[i]?)) where
  goes := fun i _ hi q => ⟨us, zs, us[i]'(by omega), zs[i]'(by omega), q.1, q.2, List.getElem?_eq_getElem (by omega), List.getElem?_eq_getElem (by omega)⟩
  stops := fun _ q => ⟨us, zs, q.1, q.2, by omega⟩
  yields := fun i H v H' _ q ⟨T, x, z, e1, e2, e3, e4, e5⟩ => ⟨T, x, z, e1, e2, e3, e4 us q.1, e5 zs q.2⟩
theorem x_doZ [MonoS R] [MonoS S] (O : Own H F m) (h1 : rTup R F xs v) (h2 : rTup S F ys w) (P : Nat → L2.St → Hp → Mem → Prop) (h0 : P 0 σ F m)
    (hs : ∀ i x y z σ' H' F' m', xs[i]? = some x → ys[i]? = some y → rPair R S F' (x, y) z → Same F F' → Own H' F' m' → P i σ' F' m' → g z σ' H' fun σ2 H2 => tb { D with nx := LI P F (i + 1), ct := LI P F (i + 1), bk := D.nx } σ2 H2)
    (hd : ∀ σ' H' F' m', Same F F' → Own H' F' m' → P (min xs.length ys.length) σ' F' m' → D.nx σ' H') (hP : ∀ i σ' F1 F2 m1, Same F1 F2 → P i σ' F1 m1 → P i σ' F2 m1 := by exact fun _ _ _ _ _ _ h => h) : FZ K g tb D σ [v, w] H := by
  obtain ⟨a, us, rfl, ha, r⟩ := h1
  obtain ⟨b, zs, rfl, hb, r2⟩ := h2
  refine ⟨a, b, us, zs, rfl, .inr ⟨.inl (.inl (O.frz ha)), .inl (.inl (O.frz hb)), ?_⟩⟩
  refine for_it walk_zT (LI P F) ⟨F, m, Same.refl F, O, h0⟩ (fun i σ' H' _ ⟨F', m', s, O', _⟩ => ⟨.inl (.inl (O'.frz (s _ _ ha))), .inl (.inl (O'.frz (s _ _ hb)))⟩) ?_ fun σ' H' ⟨F', m', s, O', p⟩ => hd σ' H' F' m' s O' (by rw [r.length, r2.length]; exact p)
  rintro i x σ' H' H2 hi ⟨F', m', s, O', p⟩ ⟨T, u, z, rfl, hT, rfl, hu, hz⟩
  obtain ⟨x1, hx1, hr1⟩ := r.get' hu
  obtain ⟨y1, hy1, hr2⟩ := r2.get' hz
  have s2 : Same F' (upd F' T (.tup [u, z])) := same_new (O'.fresh hT)
  exact hs i x1 y1 (.ref T) σ' _ _ m' hx1 hy1 ⟨T, u, z, rfl, upd_same, up (s.trans s2) hr1, up (s.trans s2) hr2⟩ (s.trans s2) (O'.new hT) (hP _ _ _ _ _ s2 p)
/-! the last -/
theorem atI_last {us : List V} {w : V} (h : us[us.length - 1]? = some w) : atI us (-1) = some w := by
  have hl := (List.getElem?_eq_some_iff.mp h).1
  unfold atI ixN
  rw [if_neg (by decide)]
  have : -(us.length : Int) ≤ -1 := by omega
  rw [if_pos this]
  show us[((-1 : Int) + us.length).toNat]? = some w
  rw [show ((-1 : Int) + us.length).toNat = us.length - 1 by omega]
  exact h
theorem x_lastT {x : α} (O : Own H F m) (h : rTup R F xs v) (hx : xs[xs.length - 1]? = some x) (k : ∀ w, R F x w → Q w H) : rIxT K v (.int (-1)) H Q := by
  obtain ⟨a, us, rfl, ha, r⟩ := h
  obtain ⟨w, hw, hr⟩ := r.get hx
  exact ⟨a, us, -1, w, rfl, rfl, .inl (.inl (O.frz ha)), atI_last (by rw [← r.length]; exact hw), k w hr⟩
theorem x_lastO {a : Addr} {us : List V} (O : Own H F ((a, .lst us) :: m)) (hx : us[us.length - 1]? = some w) (k : Q w H) : rIxL K (.ref a) (.int (-1)) H Q :=
  ⟨a, us, -1, w, rfl, rfl, .inl (.inl O.at0), atI_last hx, k⟩
end
end Tf
/-! order of data: <, min, max of tuples of ints and of pairs with them -/
namespace Tf
open PySem PySem.Spec PyProof.Rows L2
section
variable {prog : Program} {w : World} {A : Around} {E : Value → Shared → Prop} {s : Shared}
theorem call_min_twoH {a b : Value} {Q : Value → Shared → Prop}
    (h : wpAny (model prog w) A.in1 (pyIter (.ref s.heap.objs.size)) (fun it s₂ => ∃ I fp wr G n P St H bt, it = .ref I ∧ PySem.WalksS prog w A.in1 I fp wr G n P St ∧ St 0 s₂ ∧ (∀ b ∈ fp, b < s₂.heap.objs.size) ∧ 0 < n ∧
      (∀ b o, H.get? b = some o → b ∉ wr) ∧ (∀ b o, H.get? b = some o → s₂.heap.get? b = some o) ∧ PySem.CmpIn prog w A.in1 .Lt H P bt ∧ ∀ v s', P (argBest bt (n - 1)) v → PySem.Moved wr G s₂ s' → Q v s') E
      { s with heap := s.heap.push { cls := .type "tuple", data := .seq #[a, b] } }) :
    wpAny (model prog w) A (call (.builtin "min") [a, b]) Q E s := by
  have hname : (toString "min" ++ toString ".loop" : String) = "min.loop" := by decide
  refine call_function_tree F.kind_min F.plain_min F.entry_min (F.args_min2 _ _) ?_
  show wpAny _ A.in1 (Builtin.Builtins.bindParams "min" ["key", "default"] 0 ⟨[], []⟩ >>= _) _ _ s
  refine wpAny_bind (wpAny_of_eq (show Builtin.Builtins.bindParams "min" ["key", "default"] 0 ⟨[], []⟩ = pure [none, none] from rfl) ?_)
  show wpAny _ A.in1 (newTuple [a, b] >>= _) _ _ s
  refine wpAny_bind (wpAny_newObj_type ?_)
  refine wpAny_bind (wpAny_mono h (fun it s₂ h₂ => ?_) fun _ _ e => e)
  obtain ⟨I, fp, wr, G, n, P, St, H, bt, rfl, W, hst, hfp, hn, hw, hkeep, hcmp, hQ⟩ := h₂
  refine wpAny_bind (wpAny_newObj_type ?_)
  have hSf : s₂.heap.objs.size ∉ fp := fun hm => Nat.lt_irrefl _ (hfp _ hm)
  rw [hname]
  refine wpAny_pure ⟨plainId_quiet F.plain_min_loop _, PySem.codeAny_min_loop_firstH W H hw bt hcmp s₂.heap.objs.size hSf (PySem.fresh_in hkeep) _ hn (fun b o e => Heap.get?_push_of_some _ (hkeep b o e)) (W.frame 0 s₂ _ s₂.toks hst (Nat.le_refl _) fun b _ o e => Heap.get?_push_of_some _ e) (Heap.get?_push_size _ rfl) fun v s' hP hm => ?_⟩
  exact hQ v s' hP (PySem.Moved.drop_new (tk := s₂.toks) hm (Nat.le_refl _))
theorem call_max_twoH {a b : Value} {Q : Value → Shared → Prop}
    (h : wpAny (model prog w) A.in1 (pyIter (.ref s.heap.objs.size)) (fun it s₂ => ∃ I fp wr G n P St H bt, it = .ref I ∧ PySem.WalksS prog w A.in1 I fp wr G n P St ∧ St 0 s₂ ∧ (∀ b ∈ fp, b < s₂.heap.objs.size) ∧ 0 < n ∧
      (∀ b o, H.get? b = some o → b ∉ wr) ∧ (∀ b o, H.get? b = some o → s₂.heap.get? b = some o) ∧ PySem.CmpIn prog w A.in1 .Gt H P bt ∧ ∀ v s', P (argBest bt (n - 1)) v → PySem.Moved wr G s₂ s' → Q v s') E
      { s with heap := s.heap.push { cls := .type "tuple", data := .seq #[a, b] } }) :
    wpAny (model prog w) A (call (.builtin "max") [a, b]) Q E s := by
  have hname : (toString "max" ++ toString ".loop" : String) = "max.loop" := by decide
  refine call_function_tree F.kind_max F.plain_max F.entry_max (F.args_max2 _ _) ?_
  show wpAny _ A.in1 (Builtin.Builtins.bindParams "max" ["key", "default"] 0 ⟨[], []⟩ >>= _) _ _ s
  refine wpAny_bind (wpAny_of_eq (show Builtin.Builtins.bindParams "max" ["key", "default"] 0 ⟨[], []⟩ = pure [none, none] from rfl) ?_)
  show wpAny _ A.in1 (newTuple [a, b] >>= _) _ _ s
  refine wpAny_bind (wpAny_newObj_type ?_)
  refine wpAny_bind (wpAny_mono h (fun it s₂ h₂ => ?_) fun _ _ e => e)
  obtain ⟨I, fp, wr, G, n, P, St, H, bt, rfl, W, hst, hfp, hn, hw, hkeep, hcmp, hQ⟩ := h₂
  refine wpAny_bind (wpAny_newObj_type ?_)
  have hSf : s₂.heap.objs.size ∉ fp := fun hm => Nat.lt_irrefl _ (hfp _ hm)
  rw [hname]
  refine wpAny_pure ⟨plainId_quiet F.plain_max_loop _, PySem.codeAny_max_loop_firstH W H hw bt hcmp s₂.heap.objs.size hSf (PySem.fresh_in hkeep) _ hn (fun b o e => Heap.get?_push_of_some _ (hkeep b o e)) (W.frame 0 s₂ _ s₂.toks hst (Nat.le_refl _) fun b _ o e => Heap.get?_push_of_some _ e) (Heap.get?_push_size _ rfl) fun v s' hP hm => ?_⟩
  exact hQ v s' hP (PySem.Moved.drop_new (tk := s₂.toks) hm (Nat.le_refl _))
theorem readsAll_two {h : Heap} {a b : Value} {x y : PyData} {as bs : List Addr} (ra : Reads h a x as) (rb : Reads h b y bs) : ReadsAll h [a, b] [x, y] (as ++ (bs ++ [])) := .cons ra (.cons rb .nil)
theorem min_two_data {a b : Value} {x y : PyData} {as bs : List Addr} {Q : Value → Shared → Prop} (hh : A.handled = none) (ra : Reads s.heap a x as) (rb : Reads s.heap b y bs) (ha : PySem.W.AlikeAll [x, y]) (hu : A.units + 1 + PyData.depthAll [x, y] < cLine)
    (h : ∀ h' tk, (∀ b o, s.heap.get? b = some o → h'.get? b = some o) → Q (if PySem.W.dataLt y x then b else a) { s with heap := h', toks := tk }) :
    wpAny (model prog w) A (call (.builtin "min") [a, b]) Q E s := by
  have hT : (s.heap.push { cls := .type "tuple", data := .seq #[a, b] }).IsTuple s.heap.objs.size #[a, b] := ⟨_, Heap.get?_push_size _ rfl, rfl, 0, rfl⟩
  have k1 : ∀ b' o, s.heap.get? b' = some o → (s.heap.push { cls := .type "tuple", data := .seq #[a, b] }).get? b' = some o := fun b' o e => Heap.get?_push_of_some _ e
  have hr : ReadsAll (s.heap.push { cls := .type "tuple", data := .seq #[a, b] }) (#[a, b] : Array Value).toList [x, y] (as ++ (bs ++ [])) := readsAll_two (PySem.W.reads_keeps k1 ra) (PySem.W.reads_keeps k1 rb)
  refine call_min_twoH (PySem.W.iter_tupleW (s := { s with heap := s.heap.push { cls := .type "tuple", data := .seq #[a, b] } }) (A := A.in1) hh hT fun s₂ e W st hfp hw hk => ?_)
  refine ⟨_, _, _, _, _, _, _, _, _, rfl, W, st, hfp, by simp, hw, hk, PySem.W.cmpIn_lt (A := A.in1) (s := { s with heap := s.heap.push { cls := .type "tuple", data := .seq #[a, b] } }) hr ha (by show A.units + 1 + _ < _; exact hu), fun v s' hP m => ?_⟩
  obtain ⟨h', tk, rfl, hk'⟩ := PySem.W.moved_old e rfl m
  have hv : v = if PySem.W.dataLt y x then b else a := by
    cases hc : PySem.W.dataLt y x <;> simp [argBest, hc] at hP <;> simp [hP]
  rw [hv]
  exact h h' tk fun b' o e => hk' b' o (k1 b' o e)
theorem max_two_data {a b : Value} {x y : PyData} {as bs : List Addr} {Q : Value → Shared → Prop} (hh : A.handled = none) (ra : Reads s.heap a x as) (rb : Reads s.heap b y bs) (ha : PySem.W.AlikeAll [x, y]) (hu : A.units + 1 + PyData.depthAll [x, y] < cLine)
    (h : ∀ h' tk, (∀ b o, s.heap.get? b = some o → h'.get? b = some o) → Q (if PySem.W.dataLt x y then b else a) { s with heap := h', toks := tk }) :
    wpAny (model prog w) A (call (.builtin "max") [a, b]) Q E s := by
  have hT : (s.heap.push { cls := .type "tuple", data := .seq #[a, b] }).IsTuple s.heap.objs.size #[a, b] := ⟨_, Heap.get?_push_size _ rfl, rfl, 0, rfl⟩
  have k1 : ∀ b' o, s.heap.get? b' = some o → (s.heap.push { cls := .type "tuple", data := .seq #[a, b] }).get? b' = some o := fun b' o e => Heap.get?_push_of_some _ e
  have hr : ReadsAll (s.heap.push { cls := .type "tuple", data := .seq #[a, b] }) (#[a, b] : Array Value).toList [x, y] (as ++ (bs ++ [])) := readsAll_two (PySem.W.reads_keeps k1 ra) (PySem.W.reads_keeps k1 rb)
  refine call_max_twoH (PySem.W.iter_tupleW (s := { s with heap := s.heap.push { cls := .type "tuple", data := .seq #[a, b] } }) (A := A.in1) hh hT fun s₂ e W st hfp hw hk => ?_)
  refine ⟨_, _, _, _, _, _, _, _, _, rfl, W, st, hfp, by simp, hw, hk, PySem.W.cmpIn_gt (A := A.in1) (s := { s with heap := s.heap.push { cls := .type "tuple", data := .seq #[a, b] } }) hr ha (by show A.units + 1 + _ < _; exact hu), fun v s' hP m => ?_⟩
  obtain ⟨h', tk, rfl, hk'⟩ := PySem.W.moved_old e rfl m
  have hv : v = if PySem.W.dataLt x y then b else a := by
    cases hc : PySem.W.dataLt x y <;> simp [argBest, hc] at hP <;> simp [hP]
  rw [hv]
  exact h h' tk fun b' o e => hk' b' o (k1 b' o e)
end
/-! ### the rules -/
section
variable {X : Cx}
def rLtD (K : PySem.W.Frag) : R2 := fun x y H Q => ∃ d e, Dp K H x d ∧ Dp K H y e ∧ PySem.W.alike d e = true ∧ d ≠ .none ∧ d.depth ≤ 40 ∧ Q (.bl (PySem.W.dataLt d e)) H
theorem op_ltD (hu : X.A.units + 64 < cLine) : OpR X (compareOp .Lt) (rLtD X.K) := by
  intro pins s σ H x y v u Q I rx ry h
  obtain ⟨d, e, hd, he, ha, hn, hl, q⟩ := h
  obtain ⟨as, r1⟩ := Dp.reads I d x v hd rx
  obtain ⟨bs, r2⟩ := Dp.reads I e y u he ry
  refine PySem.W.lt_data r1 r2 ha hn ?_ ⟨.bl _, H, I, rfl, q⟩
  have := Nat.min_le_left d.depth e.depth
  omega
def rMin2D (K : PySem.W.Frag) : List V → Hp → VK → Prop := fun vs H Q => ∃ x y d e, vs = [x, y] ∧ Dp K H x d ∧ Dp K H y e ∧ PySem.W.AlikeAll [d, e] ∧ d.depth ≤ 40 ∧ e.depth ≤ 40 ∧ Q (if PySem.W.dataLt e d then y else x) H
theorem depth_two {d e : PyData} (h1 : d.depth ≤ 40) (h2 : e.depth ≤ 40) : PyData.depthAll [d, e] ≤ 42 := by
  rw [PyData.depthAll, PyData.depthAll, PyData.depthAll]
  omega
theorem cr_min2D (hc : X.calm = true) (hu : X.A.units + 64 < cLine) : CallR X (.builtin "min") (rMin2D X.K) := by
  intro pins s σ H xs us Q I r h
  obtain ⟨x, y, d, e, rfl, hd, he, ha, h1, h2, q⟩ := h
  obtain ⟨u, w', rfl, rx, ry⟩ := vals2 r
  obtain ⟨as, r1⟩ := Dp.reads I d x u hd rx
  obtain ⟨bs, r2⟩ := Dp.reads I e y w' he ry
  have := depth_two h1 h2
  refine min_two_data (I.ok.hd hc) r1 r2 ha (by omega) fun h' tk k => ⟨_, H, I.kept k, ?_, q⟩
  cases PySem.W.dataLt e d with
  | true => exact ry
  | false => exact rx
def rMax2D (K : PySem.W.Frag) : List V → Hp → VK → Prop := fun vs H Q => ∃ x y d e, vs = [x, y] ∧ Dp K H x d ∧ Dp K H y e ∧ PySem.W.AlikeAll [d, e] ∧ d.depth ≤ 40 ∧ e.depth ≤ 40 ∧ Q (if PySem.W.dataLt d e then y else x) H
theorem cr_max2D (hc : X.calm = true) (hu : X.A.units + 64 < cLine) : CallR X (.builtin "max") (rMax2D X.K) := by
  intro pins s σ H xs us Q I r h
  obtain ⟨x, y, d, e, rfl, hd, he, ha, h1, h2, q⟩ := h
  obtain ⟨u, w', rfl, rx, ry⟩ := vals2 r
  obtain ⟨as, r1⟩ := Dp.reads I d x u hd rx
  obtain ⟨bs, r2⟩ := Dp.reads I e y w' he ry
  have := depth_two h1 h2
  refine max_two_data (I.ok.hd hc) r1 r2 ha (by omega) fun h' tk k => ⟨_, H, I.kept k, ?_, q⟩
  cases PySem.W.dataLt d e with
  | true => exact ry
  | false => exact rx
def rMinD (K : PySem.W.Frag) : List V → Hp → VK → Prop := fun vs H Q => ∃ (a : Addr) (xs : List V) (d : PyData) (ds : List PyData), vs = [V.ref a] ∧ SqL K H a xs ∧ DpAll K H xs (d :: ds) ∧ PySem.W.AlikeAll (d :: ds) ∧ PyData.depthAll (d :: ds) ≤ 40 ∧
  ∀ (i : Nat) (x : V) (e : PyData), xs[i]? = some x → (d :: ds)[i]? = some e → e = PySem.W.minD d ds → Q x H
theorem dpAll_get {K : PySem.W.Frag} {H : Hp} : ∀ {xs : List V} {ds : List PyData} {i : Nat} {x : V}, DpAll K H xs ds → xs[i]? = some x → ∃ d, ds[i]? = some d ∧ Dp K H x d
  | _, _, _, _, .nil, h => by simp at h
  | _, _, 0, _, .cons h _, e => by
    cases e
    exact ⟨_, rfl, h⟩
  | _, _, i + 1, _, .cons _ t, e => by
    obtain ⟨d, h1, h2⟩ := dpAll_get (i := i) t (by simpa using e)
    exact ⟨d, by simpa using h1, h2⟩
theorem cr_minDat (hc : X.calm = true) (hu : X.A.units + 64 < cLine) : CallR X (.builtin "min") (rMinD X.K) := by
  intro pins s σ H xs us Q I r h
  obtain ⟨a, vs, d, ds, rfl, hs, hx, hal, hdp, q⟩ := h
  obtain ⟨its, rv, hl, _⟩ := I.list hs
  rw [Vals.ref1 r]
  obtain ⟨as, hr⟩ := Dp.readsAll I (d :: ds) vs its hx rv
  refine PySem.W.min_list_data (I.ok.hd hc) hl.isList (by simpa using hr) hal (by omega) (fun i v h' tk bs hv hrd hk => ?_)
  have hv' : its[i]? = some v := by simpa using hv
  obtain ⟨x, hxi, hxv⟩ := vals_at rv hv'
  obtain ⟨e, he, hde⟩ := dpAll_get hx hxi
  obtain ⟨cs, hre⟩ := Dp.reads I e x v hde hxv
  have eq := (PySem.W.reads_keeps hk hre).unique _ _ hrd
  exact ⟨x, H, I.kept hk, hxv, q i x e hxi he (by simpa using eq.1)⟩
end
end Tf
/-! Lean values whose order is Python's -/
namespace Tf
open PySem PySem.Spec PyProof.Rows L2
/-- what stands for x tells the data enc x, which is ordered by lt -/
class DatO {α : Type} (R : Rp α) (enc : outParam (α → PyData)) (lt : outParam (α → α → Bool)) : Prop where
  dp : ∀ {K : PySem.W.Frag} {H F : Hp} {m : Mem} {x : α} {v : V}, Own H F m → R F x v → Dp K H v (enc x)
  inj : ∀ {x y : α}, enc x = enc y → x = y
  alike : ∀ (x y : α), PySem.W.alike (enc x) (enc y) = true
  some_ : ∀ (x : α), enc x ≠ .none
  lt_eq : ∀ (x y : α), PySem.W.dataLt (enc x) (enc y) = lt x y
  deep : ∀ (x : α), (enc x).depth ≤ 9
  lays : ∀ (x : α), (enc x).canLay0 = true
  eqv : ∀ (x y : α), PyData.eqv (enc x) (enc y) = true ↔ x = y
def ltL (xs ys : List Int) : Bool := PySem.W.listLt (α := Int) xs ys
def ltP {α β : Type} [DecidableEq α] (l1 : α → α → Bool) (l2 : β → β → Bool) (p q : α × β) : Bool := if p.1 = q.1 then l2 p.2 q.2 else l1 p.1 q.1
def encI (i : Int) : PyData := .int i
def encT (xs : List Int) : PyData := .tuple (xs.map PyData.int)
def encP {α β : Type} (e1 : α → PyData) (e2 : β → PyData) (p : α × β) : PyData := .tuple [e1 p.1, e2 p.2]
def ltI (a b : Int) : Bool := decide (a < b)
theorem ints_inj : ∀ {x y : List Int}, x.map PyData.int = y.map PyData.int → x = y
  | [], [], _ => rfl
  | [], _ :: _, h => by cases h
  | _ :: _, [], h => by cases h
  | a :: x, b :: y, h => by
    rw [List.map_cons, List.map_cons] at h
    obtain ⟨h1, h2⟩ := List.cons.inj h
    rw [PyData.int.inj h1, ints_inj h2]
instance : DatO rInt encI ltI where
  dp := fun _ h => by
    have h : _ = V.int _ := h
    subst h
    exact .int _
  inj := fun h => by cases h; rfl
  alike := fun x y => PySem.W.DatumOrd.alike (α := Int) x y
  some_ := fun x h => by cases h
  lt_eq := fun x y => PySem.W.DatumOrd.lt_eq (α := Int) x y
  deep := fun x => by
    show (PyData.int x).depth ≤ 9
    rw [PyData.depth]
    omega
  lays := fun x => rfl
  eqv := fun x y => by
    show PyData.eqv (.int x) (.int y) = true ↔ _
    unfold PyData.eqv
    simp
instance : DatO (rTup rInt) encT ltL where
  dp := fun O h => dp_tupI O h
  inj := fun {x y} h => by
    have h : PyData.tuple (x.map PyData.int) = PyData.tuple (y.map PyData.int) := h
    exact ints_inj (PyData.tuple.inj h)
  alike := fun x y => PySem.W.DatumOrd.alike (α := PySem.W.Tup Int) ⟨x⟩ ⟨y⟩
  some_ := fun x h => by cases h
  lt_eq := fun x y => PySem.W.DatumOrd.lt_eq (α := PySem.W.Tup Int) ⟨x⟩ ⟨y⟩
  deep := fun x => by
    have := depth_nums x
    show (PyData.tuple (x.map PyData.int)).depth ≤ 9
    rw [PyData.depth]
    omega
  lays := fun x => by
    show PyData.canLay0 (.tuple _) = true
    unfold PyData.canLay0
    exact canLay_ints x
  eqv := fun x y => by
    show PyData.eqv (.tuple _) (.tuple _) = true ↔ _
    unfold PyData.eqv
    rw [eqvAll_ints]
    exact decide_eq_true_iff
section
variable {α β : Type} {R : Rp α} {S : Rp β} {e1 : α → PyData} {e2 : β → PyData} {l1 : α → α → Bool} {l2 : β → β → Bool}
instance : DatO (rPair rInt (rTup rInt)) (encP encI encT) (ltP ltI ltL) where
  dp := fun O ⟨a, u, w, e, h, r, t⟩ => by
    subst e
    exact .tup (.inl (.inl (O.frz h))) (.cons (DatO.dp (R := rInt) O r) (.cons (DatO.dp (R := rTup rInt) O t) .nil))
  inj := fun {x y} h => by
    have h := PyData.tuple.inj h
    obtain ⟨h1, h2⟩ := List.cons.inj h
    obtain ⟨h2, _⟩ := List.cons.inj h2
    exact Prod.ext (DatO.inj (R := rInt) h1) (DatO.inj (R := rTup rInt) h2)
  alike := fun x y => PySem.W.DatumOrd.alike (α := Int × PySem.W.Tup Int) (x.1, ⟨x.2⟩) (y.1, ⟨y.2⟩)
  some_ := fun x h => by cases h
  lt_eq := fun x y => by
    refine (PySem.W.DatumOrd.lt_eq (α := Int × PySem.W.Tup Int) (x.1, ⟨x.2⟩) (y.1, ⟨y.2⟩)).trans ?_
    rfl
  deep := fun x => by
    have := depth_nums x.2
    show (PyData.tuple [PyData.int x.1, PyData.tuple (x.2.map PyData.int)]).depth ≤ 9
    rw [PyData.depth, PyData.depthAll, PyData.depthAll, PyData.depthAll, PyData.depth, PyData.depth]
    omega
  lays := fun x => by
    show PyData.canLay0 (.tuple _) = true
    unfold PyData.canLay0 PyData.canLayAll0
    rw [DatO.lays (R := rInt) x.1]
    unfold PyData.canLayAll0
    rw [DatO.lays (R := rTup rInt) x.2]
    rfl
  eqv := fun x y => by
    show PyData.eqv (.tuple [_, _]) (.tuple [_, _]) = true ↔ _
    unfold PyData.eqv PyData.eqvAll PyData.eqvAll PyData.eqvAll
    rw [Bool.and_eq_true, Bool.and_eq_true, DatO.eqv (R := rInt) x.1 y.1, DatO.eqv (R := rTup rInt) x.2 y.2]
    exact ⟨fun h => Prod.ext h.1 h.2.1, fun h => by subst h; exact ⟨rfl, rfl, rfl⟩⟩
end
section
variable {α : Type} {R : Rp α} {enc : α → PyData} {lt : α → α → Bool} [D : DatO R enc lt] {K : PySem.W.Frag} {H F : Hp} {m : Mem} {v w : V} {x y : α} {Q : VK}
include D
theorem dato_shaped (x : α) : SeqAt.shaped (enc x) = true := by
  unfold SeqAt.shaped
  rw [D.lays x, Bool.true_and]
  have := D.deep x
  exact decide_eq_true (by omega)
theorem x_ltD (O : Own H F m) (h : R F x v) (h2 : R F y w) (k : Q (.bl (lt x y)) H) : rLtD K v w H Q :=
  ⟨enc x, enc y, D.dp O h, D.dp O h2, D.alike x y, D.some_ x, by have := D.deep x; omega, by rw [D.lt_eq]; exact k⟩
theorem x_eqD [DecidableEq α] (O : Own H F m) (h : R F x v) (h2 : R F y w) (k : Q (.bl (decide (x = y))) H) : rEqD K v w H Q := by
  refine ⟨enc x, enc y, D.dp O h, D.dp O h2, dato_shaped (R := R) x, dato_shaped (R := R) y, ?_⟩
  have e : PyData.eqv (enc x) (enc y) = decide (x = y) := by
    by_cases z : x = y
    · rw [decide_eq_true z, (D.eqv x y).mpr z]
    · rw [decide_eq_false z, Bool.eq_false_iff]
      exact fun q => z ((D.eqv x y).mp q)
  rw [e]
  exact k
theorem x_neD [DecidableEq α] (O : Own H F m) (h : R F x v) (h2 : R F y w) (k : Q (.bl (!decide (x = y))) H) : rNeD K v w H Q := by
  refine ⟨enc x, enc y, D.dp O h, D.dp O h2, dato_shaped (R := R) x, dato_shaped (R := R) y, ?_⟩
  have e : PyData.eqv (enc x) (enc y) = decide (x = y) := by
    by_cases z : x = y
    · rw [decide_eq_true z, (D.eqv x y).mpr z]
    · rw [decide_eq_false z, Bool.eq_false_iff]
      exact fun q => z ((D.eqv x y).mp q)
  rw [e]
  exact k
theorem alike_of (xs : List α) : PySem.W.AlikeAll (xs.map enc) := by
  constructor
  · intro a ha b hb
    obtain ⟨x, _, rfl⟩ := List.mem_map.mp ha
    obtain ⟨y, _, rfl⟩ := List.mem_map.mp hb
    exact D.alike x y
  · intro a ha
    obtain ⟨x, _, rfl⟩ := List.mem_map.mp ha
    exact D.some_ x
theorem x_min2D (O : Own H F m) (h : R F x v) (h2 : R F y w) (k1 : lt y x = true → Q w H) (k2 : lt y x = false → Q v H) : rMin2D K [v, w] H Q := by
  refine ⟨v, w, enc x, enc y, rfl, D.dp O h, D.dp O h2, alike_of (R := R) [x, y], by have := D.deep x; omega, by have := D.deep y; omega, ?_⟩
  rw [D.lt_eq]
  cases e : lt y x with
  | true => exact k1 e
  | false => exact k2 e
theorem x_max2D (O : Own H F m) (h : R F x v) (h2 : R F y w) (k1 : lt x y = true → Q w H) (k2 : lt x y = false → Q v H) : rMax2D K [v, w] H Q := by
  refine ⟨v, w, enc x, enc y, rfl, D.dp O h, D.dp O h2, alike_of (R := R) [x, y], by have := D.deep x; omega, by have := D.deep y; omega, ?_⟩
  rw [D.lt_eq]
  cases e : lt x y with
  | true => exact k1 e
  | false => exact k2 e
theorem dpAll_of (O : Own H F m) : ∀ {xs : List α} {vs : List V}, All2 (R F) xs vs → DpAll K H vs (xs.map enc)
  | _, _, .nil => .nil
  | _, _, .cons h t => .cons (D.dp O h) (dpAll_of O t)
/-- the first of the least -/
def minO (lt : α → α → Bool) (x : α) (xs : List α) : α := xs.foldl (fun a y => if lt y a = true then y else a) x
theorem minD_of (x : α) : ∀ xs : List α, PySem.W.minD (enc x) (xs.map enc) = enc (minO lt x xs) := fun xs => by
  unfold PySem.W.minD minO
  induction xs generalizing x with
  | nil => rfl
  | cons y ys ih =>
    rw [List.map_cons, List.foldl_cons, List.foldl_cons, ← ih]
    (try dsimp only)
    rw [D.lt_eq y x]
    cases lt y x <;> rfl
theorem depthAll_le (xs : List α) : PyData.depthAll (xs.map enc) ≤ 10 := by
  induction xs with
  | nil => simp [PyData.depthAll]
  | cons x xs ih =>
    have := D.deep x
    rw [List.map_cons, PyData.depthAll]
    omega
theorem x_minDat {ts : List α} {t : α} (O : Own H F m) (h : rList R F (t :: ts) v) (k : ∀ w, R F (minO lt t ts) w → Q w H) : rMinD K [v] H Q := by
  obtain ⟨a, us, rfl, ha, r⟩ := h
  refine ⟨a, us, enc t, ts.map enc, rfl, .inl (.inl (O.frz ha)), dpAll_of (R := R) O r, alike_of (R := R) (t :: ts), by have := depthAll_le (R := R) (t :: ts); rw [List.map_cons] at this; omega, fun i x e hx he heq => ?_⟩
  obtain ⟨y, hy, hr⟩ := r.get' hx
  have he : ((t :: ts).map enc)[i]? = some e := he
  rw [List.getElem?_map, hy] at he
  have he : enc y = e := Option.some.inj he
  rw [minD_of (R := R) t ts, ← he] at heq
  have := D.inj heq
  exact k x (this ▸ hr)
end
/-! the orders -/
structure Tot {α : Type} (lt : α → α → Bool) : Prop where
  irr : ∀ a, lt a a = false
  tr : ∀ {a b c}, lt a b = true → lt b c = true → lt a c = true
  tot : ∀ {a b}, lt a b = false → lt b a = false → a = b
theorem totI : Tot ltI := ⟨fun a => by simp [ltI], fun h1 h2 => by simp [ltI] at *; omega, fun h1 h2 => by simp [ltI] at *; omega⟩
theorem ltL_cons {x y : Int} {xs ys : List Int} : ltL (x :: xs) (y :: ys) = if x = y then ltL xs ys else decide (x < y) := rfl
theorem totL : Tot ltL := by
  refine ⟨fun a => ?_, fun {a b c} => ?_, fun {a b} => ?_⟩
  · induction a with
    | nil => rfl
    | cons x a ih => rw [ltL_cons, if_pos rfl, ih]
  · induction a generalizing b c with
    | nil =>
      cases b with
      | nil => intro h; cases h
      | cons y b =>
        cases c with
        | nil => intro _ h; cases h
        | cons z c => intro _ _; rfl
    | cons x a ih =>
      cases b with
      | nil => intro h; cases h
      | cons y b =>
        cases c with
        | nil => intro _ h; cases h
        | cons z c =>
          rw [ltL_cons, ltL_cons, ltL_cons]
          intro h1 h2
          by_cases e1 : x = y
          · rw [if_pos e1] at h1
            by_cases e2 : y = z
            · rw [if_pos e2] at h2
              rw [if_pos (e1.trans e2)]
              exact ih h1 h2
            · rw [if_neg e2] at h2
              rw [if_neg (by omega)]
              have := of_decide_eq_true h2
              exact decide_eq_true (by omega)
          · rw [if_neg e1] at h1
            have h1 := of_decide_eq_true h1
            by_cases e2 : y = z
            · rw [if_neg (by omega)]
              exact decide_eq_true (by omega)
            · rw [if_neg e2] at h2
              have h2 := of_decide_eq_true h2
              rw [if_neg (by omega)]
              exact decide_eq_true (by omega)
  · induction a generalizing b with
    | nil =>
      cases b with
      | nil => intro _ _; rfl
      | cons y b => intro h; cases h
    | cons x a ih =>
      cases b with
      | nil => intro _ h; cases h
      | cons y b =>
        rw [ltL_cons, ltL_cons]
        intro h1 h2
        by_cases e : x = y
        · rw [if_pos e] at h1
          rw [if_pos e.symm] at h2
          rw [e, ih h1 h2]
        · rw [if_neg e] at h1
          rw [if_neg fun z => e z.symm] at h2
          have h1 := of_decide_eq_false h1
          have h2 := of_decide_eq_false h2
          omega
theorem totP {α β : Type} [DecidableEq α] {l1 : α → α → Bool} {l2 : β → β → Bool} (t1 : Tot l1) (t2 : Tot l2) : Tot (ltP l1 l2) := by
  refine ⟨fun a => ?_, fun {a b c} h1 h2 => ?_, fun {a b} h1 h2 => ?_⟩
  · unfold ltP
    rw [if_pos rfl]
    exact t2.irr _
  · unfold ltP at *
    by_cases e1 : a.1 = b.1
    · rw [if_pos e1] at h1
      by_cases e2 : b.1 = c.1
      · rw [if_pos e2] at h2
        rw [if_pos (e1.trans e2)]
        exact t2.tr h1 h2
      · rw [if_neg e2] at h2
        rw [if_neg (fun z => e2 (e1.symm.trans z)), e1]
        exact h2
    · rw [if_neg e1] at h1
      by_cases e2 : b.1 = c.1
      · rw [if_neg (fun z => e1 (z.trans e2.symm)), ← e2]
        exact h1
      · rw [if_neg e2] at h2
        by_cases e3 : a.1 = c.1
        · have := t1.tr h1 h2
          rw [e3, t1.irr] at this
          cases this
        · rw [if_neg e3]
          exact t1.tr h1 h2
  · unfold ltP at *
    by_cases e : a.1 = b.1
    · rw [if_pos e] at h1
      rw [if_pos e.symm] at h2
      exact Prod.ext e (t2.tot h1 h2)
    · rw [if_neg e] at h1
      rw [if_neg fun z => e z.symm] at h2
      exact absurd (t1.tot h1 h2) e
theorem minO_spec {α : Type} {lt : α → α → Bool} (T : Tot lt) : ∀ (ts : List α) (t : α), minO lt t ts ∈ t :: ts ∧ ∀ u ∈ t :: ts, lt u (minO lt t ts) = false
  | [], t => ⟨List.mem_cons_self, fun u hu => by rw [List.mem_singleton.mp hu]; exact T.irr t⟩
  | y :: ts, t => by
    have le_tr : ∀ {a b c : α}, lt b a = false → lt c b = false → lt c a = false := fun {a b c} h1 h2 => by
      cases e : lt c a with
      | false => rfl
      | true =>
        cases e2 : lt a b with
        | true => rw [T.tr e e2] at h2; cases h2
        | false =>
          have := T.tot e2 h1
          subst this
          rw [e] at h2
          cases h2
    have e0 : minO lt t (y :: ts) = minO lt (if lt y t = true then y else t) ts := rfl
    cases hb : lt y t with
    | true =>
      rw [e0, hb, if_pos rfl]
      obtain ⟨h1, h2⟩ := minO_spec T ts y
      refine ⟨List.mem_cons_of_mem _ h1, fun u hu => ?_⟩
      rcases List.mem_cons.mp hu with rfl | hu
      · have h3 := h2 y List.mem_cons_self
        refine le_tr h3 ?_
        cases e : lt u y with
        | false => rfl
        | true =>
          have := T.tr hb e
          rw [T.irr] at this
          cases this
      · exact h2 u hu
    | false =>
      rw [e0, hb, if_neg (by decide)]
      obtain ⟨h1, h2⟩ := minO_spec T ts t
      refine ⟨?_, fun u hu => ?_⟩
      · rcases List.mem_cons.mp h1 with h1 | h1
        · rw [h1]
          exact List.mem_cons_self
        · exact List.mem_cons_of_mem _ (List.mem_cons_of_mem _ h1)
      · rcases List.mem_cons.mp hu with rfl | hu
        · exact h2 _ List.mem_cons_self
        · rcases List.mem_cons.mp hu with rfl | hu
          · exact le_tr (h2 t List.mem_cons_self) hb
          · exact h2 u (List.mem_cons_of_mem _ hu)
end Tf
/-! pages of a press task with their fillings: plain Lean -/
namespace Tf
abbrev UnitT := Int × (Int × Int × Int) × Int
abbrev VarT := Int × List UnitT × List Int
abbrev StrT := List VarT
structure Told where
  strands : List StrT
  floats : List (Int × Int)
  lines : List (Int × Bool)
  tall : Int
  fap : Int
  rule : Int
  fgap : Int
abbrev G3 := Int × Int × Int
abbrev Pl := Nat × Nat × Nat
abbrev Sx := Nat × Nat × Nat × Nat × Nat
abbrev Sx.pl (a : Sx) : Pl := (a.1, a.2.1, a.2.2.1)
abbrev plL (p : Pl) : List Int := [(p.1 : Int), (p.2.1 : Int), (p.2.2 : Int)]
abbrev stL (a : Sx) : List Int := [(a.1 : Int), (a.2.1 : Int), (a.2.2.1 : Int), (a.2.2.2.1 : Int), (a.2.2.2.2 : Int)]
def strand (T : Told) (k : Nat) : StrT := (T.strands[k]?).getD []
def vari (T : Told) (k m : Nat) : Option VarT := (strand T k).find? fun v => decide (v.2.1.length = m)
/-! glue -/
def glueU (g : Option G3) (u : UnitT) : G3 := match g with
  | none => (u.1, 0, 0)
  | some g => (g.1 + (u.1 + u.2.1.1), g.2.1 + u.2.1.2.1, g.2.2 + u.2.1.2.2)
def glueOf (us : List UnitT) : Option G3 := us.foldl (fun g u => some (glueU g u)) none
theorem glueOf_snoc (us : List UnitT) (u : UnitT) : glueOf (us ++ [u]) = some (glueU (glueOf us) u) := by
  unfold glueOf
  rw [List.foldl_append]
  rfl
theorem glueOf_none {us : List UnitT} : glueOf us = none ↔ us = [] := by
  refine ⟨fun h => ?_, fun h => by subst h; rfl⟩
  rcases List.eq_nil_or_concat us with rfl | ⟨l, u, rfl⟩
  · rfl
  · rw [List.concat_eq_append, glueOf_snoc] at h
    cases h
structure WU (u : UnitT) : Prop where
  h0 : 0 ≤ u.1
  g0 : 0 ≤ u.2.1.1
  g1 : 0 ≤ u.2.1.2.1
  g2 : 0 ≤ u.2.1.2.2
  gg : u.2.1.2.2 ≤ u.2.1.1
def okU (H : Int) (us : List UnitT) : Prop := (∀ g, glueOf us = some g → g.1 - g.2.2 ≤ H) ∧ ∀ u ∈ us.tail, u.2.2 ≠ -1
theorem okU_nil {H : Int} : okU H [] := ⟨fun _ h => (nomatch h), fun _ h => (nomatch h)⟩
theorem okU_snoc {H : Int} {us : List UnitT} {u : UnitT} (hu : WU u) : okU H (us ++ [u]) ↔ okU H us ∧ (glueU (glueOf us) u).1 - (glueU (glueOf us) u).2.2 ≤ H ∧ (us = [] ∨ u.2.2 ≠ -1) := by
  unfold okU
  rw [glueOf_snoc]
  cases us with
  | nil =>
    refine ⟨fun h => ⟨okU_nil, h.1 _ rfl, .inl rfl⟩, fun h => ⟨fun g hg => ?_, fun u hu => (nomatch hu)⟩⟩
    cases hg
    exact h.2.1
  | cons x xs =>
    have e : ((x :: xs) ++ [u]).tail = xs ++ [u] := rfl
    rw [e]
    refine ⟨fun h => ⟨⟨fun g hg => ?_, fun v hv => h.2 v (List.mem_append_left _ hv)⟩, h.1 _ rfl, .inr (h.2 u (List.mem_append_right _ List.mem_cons_self))⟩, fun h => ⟨fun g hg => by cases hg; exact h.2.1, fun v hv => ?_⟩⟩
    · have := h.1 _ rfl
      rw [hg] at this
      unfold glueU at this
      dsimp only at this
      have := hu.h0
      have := hu.gg
      omega
    · rcases List.mem_append.mp hv with hv | hv
      · exact h.1.2 v hv
      · rw [List.mem_singleton.mp hv]
        rcases h.2.2 with z | z
        · cases z
        · exact z
theorem okU_pre {H : Int} {us : List UnitT} : ∀ (vs : List UnitT), (∀ u ∈ vs, WU u) → okU H (us ++ vs) → okU H us := by
  intro vs
  induction vs generalizing us with
  | nil => intro _ h; rwa [List.append_nil] at h
  | cons v vs ih =>
    intro hw h
    have e : us ++ v :: vs = (us ++ [v]) ++ vs := by simp
    rw [e] at h
    exact ((okU_snoc (hw v List.mem_cons_self)).mp (ih (fun u hu => hw u (List.mem_cons_of_mem _ hu)) h)).1
/-! fills -/
abbrev En := List Int × List UnitT × Int
abbrev Fi := Option G3 × Int × List Int
abbrev ltPF : Int × List Int → Int × List Int → Bool := ltP ltI ltL
theorem totPF : Tot ltPF := totP totI totL
structure Reps (H : Int) (fs : List Fi) (L : List En) : Prop where
  snd : ∀ f ∈ fs, ∃ us, (f.2.2, us, f.2.1) ∈ L ∧ f.1 = glueOf us ∧ okU H us
  cmp : ∀ e ∈ L, okU H e.2.1 → ∃ f ∈ fs, f.1 = glueOf e.2.1 ∧ ltPF (e.2.2, e.1) (f.2.1, f.2.2) = false
  len : fs.length ≤ L.length
theorem Reps.start {H : Int} : Reps H [(none, 0, [])] [([], [], 0)] where
  snd := fun f hf => by
    rw [List.mem_singleton.mp hf]
    exact ⟨[], List.mem_cons_self, rfl, okU_nil⟩
  cmp := fun e he _ => by
    rw [List.mem_singleton.mp he]
    exact ⟨_, List.mem_cons_self, rfl, totPF.irr _⟩
  len := Nat.le_refl _
def withU (H : Int) (u : UnitT) (f : Fi) : Option Fi := if (glueU f.1 u).1 - (glueU f.1 u).2.2 ≤ H ∧ (f.1 = none ∨ u.2.2 ≠ -1) then some (some (glueU f.1 u), f.2) else none
theorem Reps.unit {H : Int} {fs : List Fi} {L : List En} {u : UnitT} (h : Reps H fs L) (hu : WU u) : Reps H (fs.filterMap (withU H u)) (L.map fun e => (e.1, e.2.1 ++ [u], e.2.2)) where
  snd := fun f hf => by
    obtain ⟨f0, hf0, e⟩ := List.mem_filterMap.mp hf
    unfold withU at e
    split at e
    · next hc =>
      cases e
      obtain ⟨us, h1, h2, h3⟩ := h.snd f0 hf0
      refine ⟨us ++ [u], List.mem_map.mpr ⟨_, h1, rfl⟩, by rw [glueOf_snoc, h2], (okU_snoc hu).mpr ⟨h3, by rw [← h2]; exact hc.1, ?_⟩⟩
      rcases hc.2 with z | z
      · rw [h2] at z
        exact .inl (glueOf_none.mp z)
      · exact .inr z
    · cases e
  cmp := fun e he hok => by
    obtain ⟨e0, he0, rfl⟩ := List.mem_map.mp he
    obtain ⟨h1, h2, h3⟩ := (okU_snoc hu).mp hok
    obtain ⟨f, hf, hg, hl⟩ := h.cmp e0 he0 h1
    refine ⟨(some (glueU f.1 u), f.2), List.mem_filterMap.mpr ⟨f, hf, ?_⟩, ?_, hl⟩
    · unfold withU
      rw [if_pos]
      rw [hg]
      refine ⟨h2, ?_⟩
      rcases h3 with z | z
      · exact .inl (glueOf_none.mpr z)
      · exact .inr z
    · show some (glueU f.1 u) = glueOf (e0.2.1 ++ [u])
      rw [glueOf_snoc, hg]
  len := by
    rw [List.length_map]
    exact Nat.le_trans (List.length_filterMap_le _ _) h.len
theorem ltL_snoc {m : Int} : ∀ {a b : List Int}, a.length = b.length → ltL (a ++ [m]) (b ++ [m]) = ltL a b
  | [], [], _ => by
    show ltL [m] [m] = _
    rw [totL.irr]
    rfl
  | [], _ :: _, h => by cases h
  | _ :: _, [], h => by cases h
  | x :: a, y :: b, h => by
    rw [List.cons_append, List.cons_append, ltL_cons, ltL_cons, ltL_snoc (Nat.succ.inj h)]
def extV (L : List En) (v : VarT) (n : Nat) : List En := L.map fun e => (e.1 ++ [(v.2.1.length : Int)], e.2.1 ++ v.2.1.take n, e.2.2 + v.1)
theorem Reps.begun {H : Int} {fs : List Fi} {L : List En} {n : Nat} (h : Reps H fs L) (hl : ∀ e ∈ L, e.1.length = n) (v : VarT) : Reps H (fs.map fun f => (f.1, f.2.1 + v.1, f.2.2 ++ [(v.2.1.length : Int)])) (extV L v 0) where
  snd := fun f hf => by
    obtain ⟨f0, hf0, rfl⟩ := List.mem_map.mp hf
    obtain ⟨us, h1, h2, h3⟩ := h.snd f0 hf0
    exact ⟨us, List.mem_map.mpr ⟨_, h1, by simp⟩, h2, h3⟩
  cmp := fun e he hok => by
    obtain ⟨e0, he0, rfl⟩ := List.mem_map.mp he
    have e1 : e0.2.1 ++ v.2.1.take 0 = e0.2.1 := by simp
    dsimp only at hok ⊢
    rw [e1] at hok ⊢
    obtain ⟨f, hf, hg, hlt⟩ := h.cmp e0 he0 hok
    refine ⟨_, List.mem_map.mpr ⟨f, hf, rfl⟩, hg, ?_⟩
    obtain ⟨us, h1, _, _⟩ := h.snd f hf
    have l1 := hl e0 he0
    have l2 := hl _ h1
    unfold ltPF ltP at hlt ⊢
    dsimp only at hlt ⊢
    by_cases z : e0.2.2 = f.2.1
    · rw [if_pos z] at hlt
      rw [if_pos (by omega), ltL_snoc (l1.trans l2.symm)]
      exact hlt
    · rw [if_neg z] at hlt
      rw [if_neg (by omega)]
      unfold ltI at hlt ⊢
      have := of_decide_eq_false hlt
      exact decide_eq_false (by omega)
  len := by
    unfold extV
    rw [List.length_map, List.length_map]
    exact h.len
theorem Reps.app {H : Int} {fs fs' : List Fi} {L L' : List En} (h : Reps H fs L) (h' : Reps H fs' L') : Reps H (fs ++ fs') (L ++ L') where
  snd := fun f hf => by
    rcases List.mem_append.mp hf with hf | hf
    · obtain ⟨us, h1, h2⟩ := h.snd f hf
      exact ⟨us, List.mem_append_left _ h1, h2⟩
    · obtain ⟨us, h1, h2⟩ := h'.snd f hf
      exact ⟨us, List.mem_append_right _ h1, h2⟩
  cmp := fun e he hok => by
    rcases List.mem_append.mp he with he | he
    · obtain ⟨f, h1, h2⟩ := h.cmp e he hok
      exact ⟨f, List.mem_append_left _ h1, h2⟩
    · obtain ⟨f, h1, h2⟩ := h'.cmp e he hok
      exact ⟨f, List.mem_append_right _ h1, h2⟩
  len := by
    rw [List.length_append, List.length_append]
    have := h.len
    have := h'.len
    omega
theorem Reps.nil {H : Int} : Reps H [] [] := ⟨fun _ h => (nomatch h), fun _ h => (nomatch h), Nat.le_refl _⟩
theorem le_trPF {a b c : Int × List Int} (h1 : ltPF b a = false) (h2 : ltPF c b = false) : ltPF c a = false := by
  cases e : ltPF c a with
  | false => rfl
  | true =>
    cases e2 : ltPF a b with
    | true => rw [totPF.tr e e2] at h2; cases h2
    | false =>
      have := totPF.tot e2 h1
      subst this
      rw [e] at h2
      cases h2
theorem Reps.least {H : Int} {fs rs : List Fi} {L : List En} (h : Reps H fs L) (h1 : ∀ r ∈ rs, r ∈ fs) (h2 : ∀ f ∈ fs, ∃ r ∈ rs, r.1 = f.1 ∧ ltPF f.2 r.2 = false) (h3 : rs.length ≤ fs.length) : Reps H rs L where
  snd := fun f hf => h.snd f (h1 f hf)
  cmp := fun e he hok => by
    obtain ⟨f, hf, hg, hl⟩ := h.cmp e he hok
    obtain ⟨r, hr, hg2, hl2⟩ := h2 f hf
    exact ⟨r, hr, hg2.trans hg, le_trPF hl2 hl⟩
  len := Nat.le_trans h3 h.len
theorem Reps.same {H : Int} {fs : List Fi} {L L' : List En} (h : Reps H fs L) (hm : ∀ e, e ∈ L ↔ e ∈ L') (hl : L.length ≤ L'.length) : Reps H fs L' where
  snd := fun f hf => by
    obtain ⟨us, h1, h2⟩ := h.snd f hf
    exact ⟨us, (hm _).mp h1, h2⟩
  cmp := fun e he hok => h.cmp e ((hm e).mpr he) hok
  len := Nat.le_trans h.len hl
/-! the entries of a place: filling, units, costs -/
def extS (L : List En) (s : StrT) : List En := L.flatMap fun e => s.map fun v => (e.1 ++ [(v.2.1.length : Int)], e.2.1 ++ v.2.1, e.2.2 + v.1)
def fullL (T : Told) (k0 : Nat) (u0 : List UnitT) : Nat → List En
  | 0 => [([], u0, 0)]
  | n + 1 => extS (fullL T k0 u0 n) (strand T (k0 + n))
def restU (T : Told) (a : Pl) : List UnitT := if a.2.2 = 0 then [] else (((vari T a.1 a.2.1).map (·.2.1)).getD []).drop a.2.2
def nextK (a : Pl) : Nat := if a.2.2 = 0 then a.1 else a.1 + 1
def entries (T : Told) (a b : Pl) : List En :=
  if b.1 = a.1 ∧ 0 < a.2.2 then [([], (restU T a).take (b.2.2 - a.2.2), 0)]
  else if b.2.2 = 0 then fullL T (nextK a) (restU T a) (b.1 - nextK a)
  else match vari T b.1 b.2.1 with
    | some v => extV (fullL T (nextK a) (restU T a) (b.1 - nextK a)) v b.2.2
    | none => []
theorem fullL_len {T : Told} {k0 : Nat} {u0 : List UnitT} : ∀ {n : Nat} {e : En}, e ∈ fullL T k0 u0 n → e.1.length = n
  | 0, e, h => by rw [List.mem_singleton.mp h]; rfl
  | n + 1, e, h => by
    obtain ⟨e0, h0, h1⟩ := List.mem_flatMap.mp h
    obtain ⟨v, hv, rfl⟩ := List.mem_map.mp h1
    show (e0.1 ++ _).length = _
    rw [List.length_append, fullL_len h0]
    rfl
theorem fullL_pre {T : Told} {k0 : Nat} {u0 : List UnitT} {n : Nat} : ∀ {j : Nat} {e : En}, e ∈ fullL T k0 u0 (n + j) → ∃ e0 ∈ fullL T k0 u0 n, ∃ vs, e.2.1 = e0.2.1 ++ vs ∧ ∀ u ∈ vs, ∃ k, ∃ v ∈ strand T k, u ∈ v.2.1
  | 0, e, h => ⟨e, h, [], by simp, fun u hu => by cases hu⟩
  | j + 1, e, h => by
    obtain ⟨e1, h1, h2⟩ := List.mem_flatMap.mp (show e ∈ extS (fullL T k0 u0 (n + j)) (strand T (k0 + (n + j))) from h)
    obtain ⟨v, hv, rfl⟩ := List.mem_map.mp h2
    obtain ⟨e0, h3, vs, h4, h5⟩ := fullL_pre h1
    refine ⟨e0, h3, vs ++ v.2.1, ?_, fun u hu => ?_⟩
    · show e1.2.1 ++ v.2.1 = _
      rw [h4, List.append_assoc]
    · rcases List.mem_append.mp hu with hu | hu
      · exact h5 u hu
      · exact ⟨_, v, hv, hu⟩
/-- the strand begins: all variants, each with all its units -/
theorem extS_mem {L : List En} {s : StrT} (e : En) : e ∈ s.flatMap (fun v => extV L v v.2.1.length) ↔ e ∈ extS L s := by
  unfold extS extV
  constructor
  · intro h
    obtain ⟨v, hv, h⟩ := List.mem_flatMap.mp h
    obtain ⟨e0, h0, rfl⟩ := List.mem_map.mp h
    exact List.mem_flatMap.mpr ⟨e0, h0, List.mem_map.mpr ⟨v, hv, by rw [List.take_length]⟩⟩
  · intro h
    obtain ⟨e0, h0, h⟩ := List.mem_flatMap.mp h
    obtain ⟨v, hv, rfl⟩ := List.mem_map.mp h
    exact List.mem_flatMap.mpr ⟨v, hv, List.mem_map.mpr ⟨e0, h0, by rw [List.take_length]⟩⟩
theorem extS_length {L : List En} {s : StrT} : (extS L s).length = L.length * s.length := by
  unfold extS
  induction L with
  | nil => simp
  | cons e L ih => rw [List.flatMap_cons, List.length_append, ih, List.length_map, List.length_cons, Nat.succ_mul, Nat.add_comm]
theorem flatV_length {L : List En} : ∀ (s : StrT), (s.flatMap (fun v => extV L v v.2.1.length)).length = L.length * s.length
  | [] => by simp
  | v :: s => by
    rw [List.flatMap_cons, List.length_append, flatV_length s]
    unfold extV
    rw [List.length_map, List.length_cons, Nat.mul_succ, Nat.add_comm]
theorem extV_take {L : List En} {v : VarT} {n : Nat} {u : UnitT} (hu : v.2.1[n]? = some u) : extV L v (n + 1) = (extV L v n).map fun e => (e.1, e.2.1 ++ [u], e.2.2) := by
  unfold extV
  rw [List.map_map]
  refine List.map_congr_left fun e _ => ?_
  show (_, e.2.1 ++ v.2.1.take (n + 1), _) = (_, (e.2.1 ++ v.2.1.take n) ++ [u], _)
  rw [List.take_add_one, hu, List.append_assoc]
  rfl
end Tf
/-! what a page costs, and the pages of a state: plain Lean -/
namespace Tf
def badn (slack room : Int) : Int := if slack = 0 then 0 else if room = 0 then 10000 else if 100 * slack * slack * slack / (room * room * room) < 10000 then 100 * slack * slack * slack / (room * room * room) else 10000
def badG (H : Int) (g : G3) (loose : Bool) : Int := if H - g.1 < 0 then badn (-(H - g.1)) g.2.2 else if loose = true then 0 else badn (H - g.1) g.2.1
def fillC (H : Int) (g : G3) (loose : Bool) : Int := (10 + badG H g loose) * (10 + badG H g loose)
def dueF (T : Told) (k : Nat) : Nat := (T.floats.filter fun f => decide (f.2 ≤ (k : Int))).length
def notesOf (s : StrT) : Int := (((s[0]?).map (·.2.2)).getD []).sum
def aheadL (T : Told) (k : Nat) : Int := ((T.strands.take k).map notesOf).sum
def dueL (T : Told) (p : Pl) : Int := if p.2.2 = 0 then aheadL T p.1 else aheadL T p.1 + ((((vari T p.1 p.2.1).map (·.2.2)).getD []).take p.2.2).sum
def nextC (T : Told) (p : Pl) : Option Int :=
  if p.1 = T.strands.length then none
  else if p.2.2 = 0 then ((strand T p.1)[0]?).bind fun v => (v.2.1[0]?).map (·.2.2)
  else (vari T p.1 p.2.1).bind fun v => (v.2.1[p.2.2]?).map (·.2.2)
def endS (T : Told) : Sx := (T.strands.length, 0, 0, T.floats.length, T.lines.length)
def looseB (T : Told) (b : Sx) : Bool := decide (b = endS T) || decide (nextC T b.pl = some (-1))
def waitC (fl li no : Int) : Int := if 0 < li then 5000 * fl + (2000 + 100 * li + 1000000000 * no) else 5000 * fl
def openN (T : Told) (n : Nat) : Nat := ((T.lines.take n).filter (·.2)).length
def otherL (T : Told) (a b : Sx) : Int :=
  (((T.floats.drop a.2.2.2.1).take (b.2.2.2.1 - a.2.2.2.1)).map fun f => f.1 + T.fgap).sum + (if a.2.2.2.2 < b.2.2.2.2 then T.rule + (((T.lines.drop a.2.2.2.2).take (b.2.2.2.2 - a.2.2.2.2)).map (·.1)).sum else 0)
def waitB (T : Told) (b : Sx) : Int :=
  let due := if (b.2.2.2.2 : Int) > dueL T b.pl then (b.2.2.2.2 : Int) else dueL T b.pl
  waitC (if (dueF T b.1 : Int) - b.2.2.2.1 > 0 then (dueF T b.1 : Int) - b.2.2.2.1 else 0) (due - b.2.2.2.2) ((openN T due.toNat : Int) - openN T b.2.2.2.2)
def endC (T : Told) (a b : Sx) : Int :=
  if b.pl = a.pl then waitB T b + 4000
  else match nextC T b.pl with
    | none => waitB T b
    | some c => if c = -1 then waitB T b else waitB T b + c * c
def addG (g : Option G3) (o : Int) : G3 := match g with
  | none => (o, 0, 0)
  | some g => (g.1 + o, g.2.1 + 0, g.2.2 + 0)
/-- of the two places, b may stand behind a on a page -/
def follows (a b : Pl) : Prop := a.1 < b.1 ∨ (b.1 = a.1 ∧ ((0 < a.2.2 ∧ b.2.1 = a.2.1 ∧ a.2.2 ≤ b.2.2) ∨ a.2.2 = 0))
instance (a b : Pl) : Decidable (follows a b) := by unfold follows; infer_instance
def canFL (T : Told) (a b : Sx) : Prop := a.2.2.2.1 ≤ b.2.2.2.1 ∧ a.2.2.2.2 ≤ b.2.2.2.2 ∧ a ≠ b ∧ ((b.2.2.2.1 - a.2.2.2.1 : Nat) : Int) ≤ T.fap ∧ (a.2.2.2.1 < b.2.2.2.1 → b.2.2.2.1 ≤ dueF T b.1) ∧ (a.2.2.2.2 < b.2.2.2.2 → (b.2.2.2.2 : Int) ≤ dueL T b.pl)
instance (T : Told) (a b : Sx) : Decidable (canFL T a b) := by unfold canFL; infer_instance
def costE (T : Told) (a b : Sx) (e : En) : Option (Int × List Int) :=
  if (∀ u ∈ e.2.1.tail, u.2.2 ≠ -1) ∧ (addG (glueOf e.2.1) (otherL T a b)).1 - (addG (glueOf e.2.1) (otherL T a b)).2.2 ≤ T.tall then
    some (e.2.2 + fillC T.tall (addG (glueOf e.2.1) (otherL T a b)) (looseB T b) + endC T a b, e.1)
  else none
def minOpt (l : List (Int × List Int)) : Option (Int × List Int) := match l with
  | [] => none
  | x :: xs => some (minO ltPF x xs)
def pageT (T : Told) (a b : Sx) : Option (Int × List Int) := if follows a.pl b.pl ∧ canFL T a b then minOpt ((entries T a.pl b.pl).filterMap (costE T a b)) else none
theorem minOpt_some {l : List (Int × List Int)} {x : Int × List Int} (h : x ∈ l) (hx : ∀ u ∈ l, ltPF u x = false) : minOpt l = some x := by
  cases l with
  | nil => cases h
  | cons y ys =>
    obtain ⟨h1, h2⟩ := minO_spec totPF ys y
    show some (minO ltPF y ys) = some x
    rw [totPF.tot (hx _ h1) (h2 x h)]
theorem minOpt_mem {l : List (Int × List Int)} {x : Int × List Int} (h : minOpt l = some x) : x ∈ l ∧ ∀ u ∈ l, ltPF u x = false := by
  cases l with
  | nil => cases h
  | cons y ys =>
    have h : some (minO ltPF y ys) = some x := h
    cases h
    exact minO_spec totPF ys y
theorem minOpt_none {l : List (Int × List Int)} : minOpt l = none ↔ l = [] := by
  cases l with
  | nil => exact ⟨fun _ => rfl, fun _ => rfl⟩
  | cons y ys => exact ⟨fun h => (nomatch h), fun h => (nomatch h)⟩
theorem minOpt_eq {l l' : List (Int × List Int)} (h1 : ∀ x ∈ l, ∃ y ∈ l', ltPF x y = false) (h2 : ∀ x ∈ l', ∃ y ∈ l, ltPF x y = false) (h3 : ∀ x ∈ l, x ∈ l') : minOpt l = minOpt l' := by
  cases e : minOpt l with
  | none =>
    rw [minOpt_none] at e
    subst e
    refine (minOpt_none.mpr ?_).symm
    cases l' with
    | nil => rfl
    | cons x xs =>
      obtain ⟨y, hy, _⟩ := h2 x List.mem_cons_self
      cases hy
  | some x =>
    obtain ⟨m1, m2⟩ := minOpt_mem e
    refine (minOpt_some (h3 x m1) fun u hu => ?_).symm
    obtain ⟨y, hy, hl⟩ := h2 u hu
    exact le_trPF (m2 y hy) hl
/-- what the program takes the least of -/
def pairF (H o : Int) (loose : Bool) (f : Fi) : Option (Int × List Int) := if (addG f.1 o).1 - (addG f.1 o).2.2 ≤ H then some (f.2.1 + fillC H (addG f.1 o) loose, f.2.2) else none
theorem ltPF_add {c : Int} {x y : Int × List Int} : ltPF (x.1 + c, x.2) (y.1 + c, y.2) = ltPF x y := by
  unfold ltPF ltP
  dsimp only
  by_cases z : x.1 = y.1
  · rw [if_pos z, if_pos (by omega)]
  · rw [if_neg z, if_neg (by omega)]
    unfold ltI
    by_cases h : x.1 < y.1
    · rw [decide_eq_true h, decide_eq_true (by omega)]
    · rw [decide_eq_false h, decide_eq_false (by omega)]
theorem minOpt_add {c : Int} (l : List (Int × List Int)) : minOpt (l.map fun x => (x.1 + c, x.2)) = (minOpt l).map fun x => (x.1 + c, x.2) := by
  cases e : minOpt l with
  | none =>
    rw [minOpt_none] at e
    subst e
    rfl
  | some x =>
    obtain ⟨m1, m2⟩ := minOpt_mem e
    refine minOpt_some (List.mem_map.mpr ⟨x, m1, rfl⟩) fun u hu => ?_
    obtain ⟨y, hy, rfl⟩ := List.mem_map.mp hu
    rw [ltPF_add]
    exact m2 y hy
/-- the least of the fills is the page -/
theorem best_page {T : Told} {a b : Sx} {fs : List Fi} (h : Reps T.tall fs (entries T a.pl b.pl)) (hf : follows a.pl b.pl) (hc : canFL T a b) (ho : 0 ≤ otherL T a b) :
    ((minOpt (fs.filterMap (pairF T.tall (otherL T a b) (looseB T b)))).map fun x => (x.1 + endC T a b, x.2)) = pageT T a b := by
  unfold pageT
  rw [if_pos ⟨hf, hc⟩, ← minOpt_add]
  have hsub : ∀ x ∈ (fs.filterMap (pairF T.tall (otherL T a b) (looseB T b))).map (fun x => (x.1 + endC T a b, x.2)), x ∈ (entries T a.pl b.pl).filterMap (costE T a b) := fun x hx => by
    obtain ⟨y, hy, rfl⟩ := List.mem_map.mp hx
    obtain ⟨f, hf, e⟩ := List.mem_filterMap.mp hy
    obtain ⟨us, h1, h2, h3⟩ := h.snd f hf
    refine List.mem_filterMap.mpr ⟨_, h1, ?_⟩
    unfold pairF at e
    rw [h2] at e
    split at e
    · next hfit =>
      cases e
      unfold costE
      rw [if_pos ⟨h3.2, hfit⟩]
    · cases e
  refine minOpt_eq (fun x hx => ⟨x, hsub x hx, totPF.irr x⟩) (fun x hx => ?_) hsub
  obtain ⟨e, he, hce⟩ := List.mem_filterMap.mp hx
  unfold costE at hce
  split at hce
  · next hfit =>
    cases hce
    have hok : okU T.tall e.2.1 := by
      refine ⟨fun g hg => ?_, hfit.1⟩
      have := hfit.2
      rw [hg] at this
      unfold addG at this
      dsimp only at this
      omega
    obtain ⟨f, hf, hg, hl⟩ := h.cmp e he hok
    refine ⟨(f.2.1 + fillC T.tall (addG f.1 (otherL T a b)) (looseB T b) + endC T a b, f.2.2), List.mem_map.mpr ⟨(f.2.1 + fillC T.tall (addG f.1 (otherL T a b)) (looseB T b), f.2.2), List.mem_filterMap.mpr ⟨f, hf, ?_⟩, rfl⟩, ?_⟩
    · unfold pairF
      rw [hg, if_pos hfit.2]
    · rw [hg]
      have e1 := ltPF_add (c := fillC T.tall (addG (glueOf e.2.1) (otherL T a b)) (looseB T b) + endC T a b) (x := (e.2.2, e.1)) (y := (f.2.1, f.2.2))
      dsimp only at e1
      rw [hl] at e1
      rw [Int.add_assoc, Int.add_assoc]
      exact e1
  · cases hce
/-! places -/
def inner (T : Told) (k : Nat) : List Pl := (strand T k).flatMap fun v => (List.range (v.2.1.length - 1)).map fun i => (k, v.2.1.length, i + 1)
def placesUpTo (T : Told) (n : Nat) : List Pl := (List.range n).flatMap fun k => (k, 0, 0) :: inner T k
def places (T : Told) : List Pl := placesUpTo T T.strands.length ++ [(T.strands.length, 0, 0)]
/-- the places from strand k on, n strands -/
def placesK (T : Told) : Nat → Nat → List Pl
  | k, 0 => [(k, 0, 0)]
  | k, n + 1 => (k, 0, 0) :: inner T k ++ placesK T (k + 1) n
theorem placesK_snoc (T : Told) : ∀ (n k : Nat), placesK T k (n + 1) = placesK T k n ++ (inner T (k + n) ++ [(k + n + 1, 0, 0)])
  | 0, k => by
    show (k, 0, 0) :: inner T k ++ [(k + 1, 0, 0)] = [(k, 0, 0)] ++ (inner T (k + 0) ++ [(k + 0 + 1, 0, 0)])
    rfl
  | n + 1, k => by
    have e : k + (n + 1) = (k + 1) + n := by omega
    rw [e]
    show (k, 0, 0) :: inner T k ++ placesK T (k + 1) (n + 1) = ((k, 0, 0) :: inner T k ++ placesK T (k + 1) n) ++ _
    rw [placesK_snoc T n (k + 1), List.append_assoc]
theorem places_eq (T : Told) : places T = placesK T 0 T.strands.length := by
  have : ∀ n, placesUpTo T n ++ [(n, 0, 0)] = placesK T 0 n := fun n => by
    induction n with
    | zero => rfl
    | succ n ih =>
      rw [placesK_snoc, ← ih, Nat.zero_add]
      unfold placesUpTo
      rw [List.range_succ, List.flatMap_append, List.append_assoc]
      show _ ++ (([n].flatMap fun k => (k, 0, 0) :: inner T k) ++ [(n + 1, 0, 0)]) = _
      rw [List.flatMap_cons, List.flatMap_nil, List.append_nil]
      simp
  exact this _
/-- the places where a page from a may end -/
def placesA (T : Told) (a : Pl) : List Pl :=
  if a.2.2 = 0 then placesK T a.1 (T.strands.length - a.1)
  else (List.range (a.2.1 - a.2.2)).map (fun d => (a.1, a.2.1, a.2.2 + d)) ++ placesK T (a.1 + 1) (T.strands.length - (a.1 + 1))
theorem inner_mem {T : Told} {k : Nat} {p : Pl} (h : p ∈ inner T k) : p.1 = k ∧ ∃ v ∈ strand T k, p.2.1 = v.2.1.length ∧ 0 < p.2.2 ∧ p.2.2 < v.2.1.length := by
  obtain ⟨v, hv, h⟩ := List.mem_flatMap.mp h
  obtain ⟨i, hi, rfl⟩ := List.mem_map.mp h
  have := List.mem_range.mp hi
  exact ⟨rfl, v, hv, rfl, Nat.succ_pos _, by show i + 1 < _; omega⟩
theorem placesK_mem {T : Told} : ∀ {n k : Nat} {p : Pl}, p ∈ placesK T k n → k ≤ p.1 ∧ p.1 ≤ k + n
  | 0, k, p, h => by rw [List.mem_singleton.mp h]; exact ⟨Nat.le_refl _, Nat.le_refl _⟩
  | n + 1, k, p, h => by
    have h : p ∈ ((k, 0, 0) :: inner T k) ++ placesK T (k + 1) n := h
    rcases List.mem_append.mp h with h | h
    · rcases List.mem_cons.mp h with rfl | h
      · exact ⟨Nat.le_refl _, Nat.le_add_right _ _⟩
      · rw [(inner_mem h).1]
        omega
    · have := placesK_mem h
      omega
end Tf
/-! the steps of a state: the program's pages, the law's -/
namespace Tf
structure UB (u : UnitT) : Prop extends WU u where
  hh : u.1 < 2 ^ 50
  g0h : u.2.1.1 < 2 ^ 50
  g1h : u.2.1.2.1 < 2 ^ 50
  c0 : -1 ≤ u.2.2
  c1 : u.2.2 < 2 ^ 60
structure VOk (v : VarT) : Prop where
  len : v.2.2.length = v.2.1.length
  pos : 0 < v.2.1.length
  few : v.2.1.length ≤ 8
  units : ∀ u ∈ v.2.1, UB u
  notes : ∀ x ∈ v.2.2, 0 ≤ x
structure SOk (s : StrT) : Prop where
  ne : s ≠ []
  few : s.length ≤ 3
  vars : ∀ v ∈ s, VOk v
  asc : (s.map fun v => v.2.1.length).Pairwise (· < ·)
  notes : ∀ v ∈ s, v.2.2.sum = notesOf s
  first : ∀ v ∈ s, ∀ w ∈ s, (v.2.1[0]?).map (·.2.2) = (w.2.1[0]?).map (·.2.2)
def manyF (ss : List StrT) : Nat := (ss.map List.length).foldr (· * ·) 1
structure TOk (T : Told) : Prop where
  strands : ∀ s ∈ T.strands, SOk s
  many : T.strands.length ≤ 126
  fills : manyF T.strands ≤ 30
  lines : aheadL T T.strands.length = (T.lines.length : Int)
  fewL : T.lines.length ≤ 10
  fewF : T.floats.length ≤ 4
  floatB : ∀ f ∈ T.floats, 0 ≤ f.1 ∧ f.1 < 2 ^ 50
  lineB : ∀ l ∈ T.lines, 0 ≤ l.1 ∧ l.1 < 2 ^ 50
  tallB : 0 ≤ T.tall ∧ T.tall < 2 ^ 60
  fapB : 0 ≤ T.fap ∧ T.fap ≤ 2
  ruleB : 0 ≤ T.rule ∧ T.rule < 2 ^ 50
  gapB : 0 ≤ T.fgap ∧ T.fgap < 2 ^ 50
theorem sum_nonneg : ∀ {l : List Int}, (∀ x ∈ l, 0 ≤ x) → 0 ≤ l.sum
  | [], _ => Int.le_refl _
  | x :: l, h => by
    rw [List.sum_cons]
    have := h x List.mem_cons_self
    have := sum_nonneg fun y hy => h y (List.mem_cons_of_mem _ hy)
    omega
theorem sum_app (l l' : List Int) : (l ++ l').sum = l.sum + l'.sum := List.sum_append
theorem sum_take_le {l : List Int} (h : ∀ x ∈ l, 0 ≤ x) (n : Nat) : (l.take n).sum ≤ l.sum := by
  have e := congrArg List.sum (List.take_append_drop n l)
  rw [sum_app] at e
  have := sum_nonneg (l := l.drop n) fun y hy => h y (List.mem_of_mem_drop hy)
  omega
theorem strand_mem {T : Told} {k : Nat} (h : k < T.strands.length) : strand T k ∈ T.strands := by
  unfold strand
  rw [List.getElem?_eq_getElem h]
  exact List.getElem_mem h
theorem strand_get {T : Told} {k : Nat} (h : k < T.strands.length) : T.strands[k]? = some (strand T k) := by
  unfold strand
  rw [List.getElem?_eq_getElem h]
  rfl
theorem vari_mem {T : Told} {k m : Nat} {v : VarT} (h : vari T k m = some v) : v ∈ strand T k ∧ v.2.1.length = m := by
  unfold vari at h
  have h2 := List.find?_some h
  exact ⟨List.mem_of_find?_eq_some h, of_decide_eq_true h2⟩
theorem asc_inj : ∀ {s : StrT}, (s.map fun v => v.2.1.length).Pairwise (· < ·) → ∀ v ∈ s, ∀ w ∈ s, v.2.1.length = w.2.1.length → v = w
  | [], _, v, hv, _, _, _ => (nomatch hv)
  | x :: s, h, v, hv, w, hw, e => by
    rw [List.map_cons, List.pairwise_cons] at h
    rcases List.mem_cons.mp hv with h1 | hv
    · rcases List.mem_cons.mp hw with h2 | hw
      · rw [h1, h2]
      · have := h.1 _ (List.mem_map_of_mem hw)
        rw [h1] at e
        omega
    · rcases List.mem_cons.mp hw with h2 | hw
      · have := h.1 _ (List.mem_map_of_mem hv)
        rw [h2] at e
        omega
      · exact asc_inj h.2 v hv w hw e
theorem SOk.find {s : StrT} (h : SOk s) {v : VarT} (hv : v ∈ s) : s.find? (fun w => decide (w.2.1.length = v.2.1.length)) = some v := by
  cases e : s.find? (fun w => decide (w.2.1.length = v.2.1.length)) with
  | none =>
    have := List.find?_eq_none.mp e v hv
    exact absurd (decide_eq_true rfl) this
  | some w =>
    have h2 := List.find?_some e
    rw [asc_inj h.asc w (List.mem_of_find?_eq_some e) v hv (of_decide_eq_true h2)]
theorem vari_of {T : Told} (ok : TOk T) {k : Nat} (hk : k < T.strands.length) {v : VarT} (hv : v ∈ strand T k) : vari T k v.2.1.length = some v := (ok.strands _ (strand_mem hk)).find hv
/-- a place of the task -/
def IsPl (T : Told) (p : Pl) : Prop := (p.1 ≤ T.strands.length ∧ p.2.1 = 0 ∧ p.2.2 = 0) ∨ (p.1 < T.strands.length ∧ 0 < p.2.2 ∧ ∃ v ∈ strand T p.1, v.2.1.length = p.2.1 ∧ p.2.2 < p.2.1)
def IsSt (T : Told) (a : Sx) : Prop := IsPl T a.pl ∧ a.2.2.2.1 ≤ T.floats.length ∧ a.2.2.2.2 ≤ T.lines.length
theorem IsPl.var {T : Told} (ok : TOk T) {p : Pl} (h : IsPl T p) (hi : 0 < p.2.2) : ∃ v, vari T p.1 p.2.1 = some v ∧ v ∈ strand T p.1 ∧ VOk v ∧ v.2.1.length = p.2.1 ∧ p.2.2 < p.2.1 ∧ p.1 < T.strands.length := by
  rcases h with ⟨_, _, h⟩ | ⟨hk, _, v, hv, hl, hlt⟩
  · omega
  · refine ⟨v, ?_, hv, (ok.strands _ (strand_mem hk)).vars v hv, hl, hlt, hk⟩
    rw [← hl]
    exact vari_of ok hk hv
theorem aheadL_succ {T : Told} {k : Nat} (h : k < T.strands.length) : aheadL T (k + 1) = aheadL T k + notesOf (strand T k) := by
  unfold aheadL
  rw [List.take_add_one, strand_get h, List.map_append, sum_app]
  show _ + [notesOf (strand T k)].sum = _
  simp
theorem notes_nonneg {T : Told} (ok : TOk T) {k : Nat} (h : k < T.strands.length) : 0 ≤ notesOf (strand T k) := by
  have S := ok.strands _ (strand_mem h)
  obtain ⟨v, r, e⟩ : ∃ v r, strand T k = v :: r := List.exists_cons_of_ne_nil S.ne
  have hv : v ∈ strand T k := by rw [e]; exact List.mem_cons_self
  rw [← S.notes v hv]
  exact sum_nonneg (S.vars v hv).notes
theorem aheadL_le {T : Told} (ok : TOk T) : ∀ {n k : Nat}, k + n = T.strands.length → 0 ≤ aheadL T k ∧ aheadL T k ≤ (T.lines.length : Int) := by
  have h0 : ∀ {k}, k ≤ T.strands.length → 0 ≤ aheadL T k := fun {k} => by
    induction k with
    | zero =>
      intro _
      unfold aheadL
      simp
    | succ k ih =>
      intro hk
      rw [aheadL_succ hk]
      have := ih (by omega)
      have := notes_nonneg ok hk
      omega
  intro n
  induction n with
  | zero =>
    intro k hk
    have hk : k = T.strands.length := hk
    subst hk
    exact ⟨h0 (Nat.le_refl _), Int.le_of_eq ok.lines⟩
  | succ n ih =>
    intro k hk
    have := ih (k := k + 1) (by omega)
    rw [aheadL_succ (by omega)] at this
    have := notes_nonneg ok (k := k) (by omega)
    exact ⟨h0 (by omega), by omega⟩
theorem dueL_b {T : Told} (ok : TOk T) {p : Pl} (h : IsPl T p) : 0 ≤ dueL T p ∧ dueL T p ≤ (T.lines.length : Int) := by
  unfold dueL
  split
  · have hk : p.1 ≤ T.strands.length := by
      rcases h with h | h
      · exact h.1
      · omega
    exact aheadL_le ok (n := T.strands.length - p.1) (by omega)
  · next hi =>
    obtain ⟨v, hv, hm, V, hl, hlt, hk⟩ := h.var ok (by omega)
    rw [hv]
    show 0 ≤ aheadL T p.1 + ((v.2.2).take p.2.2).sum ∧ _ + ((v.2.2).take p.2.2).sum ≤ _
    have h1 := aheadL_le ok (n := T.strands.length - p.1) (k := p.1) (by omega)
    have h2 := aheadL_le ok (n := T.strands.length - (p.1 + 1)) (k := p.1 + 1) (by omega)
    rw [aheadL_succ hk] at h2
    have h3 := sum_take_le V.notes p.2.2
    have h4 := (ok.strands _ (strand_mem hk)).notes v hm
    have h5 : 0 ≤ ((v.2.2).take p.2.2).sum := sum_nonneg fun x hx => V.notes x (List.mem_of_mem_take hx)
    omega
theorem dueF_b {T : Told} (k : Nat) : dueF T k ≤ T.floats.length := List.length_filter_le _ _
theorem otherL_nonneg {T : Told} (ok : TOk T) (a b : Sx) : 0 ≤ otherL T a b := by
  unfold otherL
  have h1 : 0 ≤ (((T.floats.drop a.2.2.2.1).take (b.2.2.2.1 - a.2.2.2.1)).map fun f => f.1 + T.fgap).sum := sum_nonneg fun x hx => by
    obtain ⟨f, hf, rfl⟩ := List.mem_map.mp hx
    have := ok.floatB f (List.mem_of_mem_drop (List.mem_of_mem_take hf))
    have := ok.gapB
    omega
  have h2 : 0 ≤ (((T.lines.drop a.2.2.2.2).take (b.2.2.2.2 - a.2.2.2.2)).map (·.1)).sum := sum_nonneg fun x hx => by
    obtain ⟨f, hf, rfl⟩ := List.mem_map.mp hx
    exact (ok.lineB f (List.mem_of_mem_drop (List.mem_of_mem_take hf))).1
  have := ok.ruleB
  split <;> omega
/-- where no entry is good there is no page -/
theorem no_page {T : Told} (ok : TOk T) {a b : Sx} (h : ∀ e ∈ entries T a.pl b.pl, ¬ okU T.tall e.2.1) : pageT T a b = none := by
  unfold pageT
  split
  · refine minOpt_none.mpr ?_
    refine List.filterMap_eq_nil_iff.mpr fun e he => ?_
    unfold costE
    rw [if_neg]
    intro hc
    refine h e he ⟨fun g hg => ?_, hc.1⟩
    have := hc.2
    rw [hg] at this
    unfold addG at this
    dsimp only at this
    have := otherL_nonneg ok a b
    omega
  · rfl
/-! the states in their order; the law's steps and the program's pages -/
def states (T : Told) : List Sx := (places T).flatMap fun p => (List.range (T.floats.length + 1)).flatMap fun f => (List.range (T.lines.length + 1)).map fun s => (p.1, p.2.1, p.2.2, f, s)
def lawSteps (T : Told) (a : Sx) : List (Int × Sx) := (states T).filterMap fun b => (pageT T a b).map fun x => (x.1, b)
abbrev Pg := Int × List Int × Sx
def numF (T : Told) (a : Sx) (p : Pl) : Nat :=
  let m := if (a.2.2.2.1 : Int) + T.fap > (dueF T p.1 : Int) then (dueF T p.1 : Int) else (a.2.2.2.1 : Int) + T.fap
  ((if m > (a.2.2.2.1 : Int) then m else (a.2.2.2.1 : Int)) + 1 - a.2.2.2.1).toNat
def numS (T : Told) (a : Sx) (p : Pl) : Nat := ((if dueL T p > (a.2.2.2.2 : Int) then dueL T p else (a.2.2.2.2 : Int)) + 1 - a.2.2.2.2).toNat
def pagesP (T : Told) (a : Sx) (p : Pl) : List Pg := (List.range (numF T a p)).flatMap fun i => (List.range (numS T a p)).filterMap fun j =>
  (pageT T a (p.1, p.2.1, p.2.2, a.2.2.2.1 + i, a.2.2.2.2 + j)).map fun x => (x.1, x.2, (p.1, p.2.1, p.2.2, a.2.2.2.1 + i, a.2.2.2.2 + j))
def pagesT (T : Told) (a : Sx) : List Pg := (placesA T a.pl).flatMap (pagesP T a)
theorem range_cut {β : Type} {g : Nat → List β} {n lo c : Nat} (h : lo + c ≤ n) (h1 : ∀ j, j < lo → g j = []) (h2 : ∀ j, lo + c ≤ j → j < n → g j = []) : (List.range n).flatMap g = (List.range c).flatMap fun d => g (lo + d) := by
  obtain ⟨r, rfl⟩ : ∃ r, n = lo + (c + r) := ⟨n - (lo + c), by omega⟩
  rw [List.range_add, List.range_add, List.map_append, List.flatMap_append, List.flatMap_append]
  have e1 : (List.range lo).flatMap g = [] := List.flatMap_eq_nil_iff.mpr fun j hj => h1 j (List.mem_range.mp hj)
  have e2 : ((List.map (fun x => c + x) (List.range r)).map (fun x => lo + x)).flatMap g = [] := List.flatMap_eq_nil_iff.mpr fun j hj => by
    obtain ⟨x, hx, rfl⟩ := List.mem_map.mp hj
    obtain ⟨y, hy, rfl⟩ := List.mem_map.mp hx
    have := List.mem_range.mp hy
    exact h2 _ (by omega) (by omega)
  rw [e1, e2, List.nil_append, List.append_nil, List.flatMap_map]
theorem filterMap_flat {α β : Type} (f : α → Option β) (l : List α) : l.filterMap f = l.flatMap fun x => (f x).toList := by
  induction l with
  | nil => rfl
  | cons x l ih =>
    rw [List.flatMap_cons, ← ih]
    cases e : f x with
    | none => rw [List.filterMap_cons_none e]; rfl
    | some y => rw [List.filterMap_cons_some e]; rfl
theorem page_follows {T : Told} {a b : Sx} (h : ¬ follows a.pl b.pl) : pageT T a b = none := by
  unfold pageT
  rw [if_neg fun z => h z.1]
theorem page_can {T : Told} {a b : Sx} (h : ¬ canFL T a b) : pageT T a b = none := by
  unfold pageT
  rw [if_neg fun z => h z.2]
/-- the law's pages of one place -/
theorem place_pages {T : Told} (ok : TOk T) {a : Sx} (ha : IsSt T a) {p : Pl} (hp : IsPl T p) :
    ((List.range (T.floats.length + 1)).flatMap fun f => ((List.range (T.lines.length + 1)).map fun s => ((p.1, p.2.1, p.2.2, f, s) : Sx)).flatMap fun b => ((pageT T a b).map fun x => (x.1, b)).toList) = (pagesP T a p).map fun x => (x.1, x.2.2) := by
  have hL := dueL_b ok hp
  have hF := dueF_b (T := T) p.1
  have haf := ha.2.1
  have has := ha.2.2
  have hfap := ok.fapB
  have hnF : a.2.2.2.1 + numF T a p ≤ T.floats.length + 1 := by
    unfold numF
    dsimp only
    split <;> split <;> omega
  have hnS : a.2.2.2.2 + numS T a p ≤ T.lines.length + 1 := by
    unfold numS
    split <;> omega
  unfold pagesP
  rw [range_cut (lo := a.2.2.2.1) (c := numF T a p) hnF (fun j hj => ?_) (fun j hj hj2 => ?_), List.map_flatMap]
  · congr 1
    funext i
    rw [List.flatMap_map, filterMap_flat, List.map_flatMap]
    rw [range_cut (lo := a.2.2.2.2) (c := numS T a p) hnS (fun j hj => ?_) (fun j hj hj2 => ?_)]
    · congr 1
      funext j
      cases pageT T a (p.1, p.2.1, p.2.2, a.2.2.2.1 + i, a.2.2.2.2 + j) <;> rfl
    · rw [page_can fun z => by
        have := z.2.1
        dsimp only at this
        omega]
      rfl
    · rw [page_can fun z => by
        have h1 := z.2.2.2.2.2
        dsimp only at h1
        unfold numS at hj
        have h2 : p = (p.1, p.2.1, p.2.2) := rfl
        have h3 : Sx.pl (p.1, p.2.1, p.2.2, a.2.2.2.1 + i, j) = p := rfl
        rw [h3] at h1
        split at hj <;> omega]
      rfl
  · refine List.flatMap_eq_nil_iff.mpr fun b hb => ?_
    obtain ⟨s, hs, rfl⟩ := List.mem_map.mp hb
    rw [page_can fun z => by
      have := z.1
      dsimp only at this
      omega]
    rfl
  · refine List.flatMap_eq_nil_iff.mpr fun b hb => ?_
    obtain ⟨s, hs, rfl⟩ := List.mem_map.mp hb
    rw [page_can fun z => by
      have h1 := z.2.2.2.1
      have h2 := z.2.2.2.2.1
      dsimp only at h1 h2
      unfold numF at hj
      dsimp only at hj
      split at hj <;> split at hj <;> omega]
    rfl
theorem placesK_pl {T : Told} : ∀ {n k : Nat}, k + n ≤ T.strands.length → ∀ p ∈ placesK T k n, IsPl T p
  | 0, k, h, p, hp => by
    rw [List.mem_singleton.mp hp]
    exact .inl ⟨h, rfl, rfl⟩
  | n + 1, k, h, p, hp => by
    have hp : p ∈ ((k, 0, 0) :: inner T k) ++ placesK T (k + 1) n := hp
    rcases List.mem_append.mp hp with hp | hp
    · rcases List.mem_cons.mp hp with rfl | hp
      · exact .inl ⟨by show k ≤ _; omega, rfl, rfl⟩
      · obtain ⟨h1, v, hv, h2, h3, h4⟩ := inner_mem hp
        exact .inr ⟨by omega, h3, v, by rw [h1]; exact hv, h2.symm, by omega⟩
    · exact placesK_pl (by omega) p hp
theorem placesK_split {T : Told} : ∀ (j n k : Nat), placesK T k (j + n) = (List.range j).flatMap (fun d => (k + d, 0, 0) :: inner T (k + d)) ++ placesK T (k + j) n
  | 0, n, k => by simp
  | j + 1, n, k => by
    have e : j + 1 + n = (j + n) + 1 := by omega
    rw [e]
    show (k, 0, 0) :: inner T k ++ placesK T (k + 1) (j + n) = _
    rw [placesK_split j n (k + 1), List.range_succ_eq_map, List.flatMap_cons, List.flatMap_map, Nat.add_zero, List.append_assoc]
    have e2 : k + 1 + j = k + (j + 1) := by omega
    have e3 : (List.range j).flatMap (fun d => (k + 1 + d, 0, 0) :: inner T (k + 1 + d)) = (List.range j).flatMap (fun a => (k + a.succ, 0, 0) :: inner T (k + a.succ)) := by
      congr 1
      funext d
      have : k + 1 + d = k + d.succ := by omega
      rw [this]
    rw [e2, e3]
    rfl
theorem steps_law {T : Told} (ok : TOk T) {a : Sx} (ha : IsSt T a) : (pagesT T a).map (fun x => (x.1, x.2.2)) = lawSteps T a := by
  let G : Pl → List (Int × Sx) := fun p => (List.range (T.floats.length + 1)).flatMap fun f => ((List.range (T.lines.length + 1)).map fun s => ((p.1, p.2.1, p.2.2, f, s) : Sx)).flatMap fun b => ((pageT T a b).map fun x => (x.1, b)).toList
  have hlaw : lawSteps T a = (places T).flatMap G := by
    unfold lawSteps states
    rw [filterMap_flat, List.flatMap_assoc]
    congr 1
    funext p
    rw [List.flatMap_assoc]
  have hno : ∀ p : Pl, ¬ follows a.pl p → G p = [] := fun p h => by
    refine List.flatMap_eq_nil_iff.mpr fun f _ => List.flatMap_eq_nil_iff.mpr fun b hb => ?_
    obtain ⟨s, _, rfl⟩ := List.mem_map.mp hb
    rw [page_follows h]
    rfl
  have hG : ∀ l : List Pl, (∀ p ∈ l, IsPl T p) → l.flatMap G = (l.flatMap (pagesP T a)).map fun x => (x.1, x.2.2) := fun l hl => by
    rw [List.map_flatMap]
    have : ∀ l : List Pl, (∀ p ∈ l, IsPl T p) → l.flatMap G = l.flatMap fun p => (pagesP T a p).map fun x => (x.1, x.2.2) := fun l => by
      induction l with
      | nil => intro _; rfl
      | cons p l ih =>
        intro h
        rw [List.flatMap_cons, List.flatMap_cons, ih fun q hq => h q (List.mem_cons_of_mem _ hq)]
        congr 1
        exact place_pages ok ha (h p List.mem_cons_self)
    exact this l hl
  have hk : a.1 ≤ T.strands.length := by
    rcases ha.1 with h | h
    · exact h.1
    · exact Nat.le_of_lt h.1
  rw [hlaw, places_eq]
  unfold pagesT placesA
  by_cases hi : a.pl.2.2 = 0
  · rw [if_pos hi]
    have e : T.strands.length = a.1 + (T.strands.length - a.1) := by omega
    have hs := placesK_split (T := T) a.1 (T.strands.length - a.1) 0
    rw [← e, Nat.zero_add] at hs
    rw [hs, List.flatMap_append]
    have hz : ((List.range a.1).flatMap fun d => (0 + d, 0, 0) :: inner T (0 + d)).flatMap G = [] := List.flatMap_eq_nil_iff.mpr fun p hp => by
      obtain ⟨d, hd, hp⟩ := List.mem_flatMap.mp hp
      have hd := List.mem_range.mp hd
      refine hno p fun hf => ?_
      have h1 : p.1 = 0 + d := by
        rcases List.mem_cons.mp hp with rfl | hp
        · rfl
        · exact (inner_mem hp).1
      rcases hf with hf | hf
      · have : a.1 < p.1 := hf
        omega
      · have : p.1 = a.1 := hf.1
        omega
    rw [hz, List.nil_append]
    exact (hG _ (placesK_pl (by show a.1 + (T.strands.length - a.1) ≤ _; omega))).symm
  · rw [if_neg hi]
    obtain ⟨v, hv, hm, V, hl, hlt, hkk⟩ := ha.1.var ok (by show 0 < a.pl.2.2; omega)
    have hkk : a.1 < T.strands.length := hkk
    have e : T.strands.length = a.1 + ((T.strands.length - (a.1 + 1)) + 1) := by omega
    have hs := placesK_split (T := T) a.1 ((T.strands.length - (a.1 + 1)) + 1) 0
    rw [← e, Nat.zero_add] at hs
    rw [hs]
    refine Eq.trans ?_ List.flatMap_append.symm
    have hz : ((List.range a.1).flatMap fun d => (0 + d, 0, 0) :: inner T (0 + d)).flatMap G = [] := List.flatMap_eq_nil_iff.mpr fun p hp => by
      obtain ⟨d, hd, hp⟩ := List.mem_flatMap.mp hp
      have hd := List.mem_range.mp hd
      refine hno p fun hf => ?_
      have h1 : p.1 = 0 + d := by
        rcases List.mem_cons.mp hp with rfl | hp
        · rfl
        · exact (inner_mem hp).1
      rcases hf with hf | hf
      · have : a.1 < p.1 := hf
        omega
      · have : p.1 = a.1 := hf.1
        omega
    rw [hz, List.nil_append]
    show _ = ((a.1, 0, 0) :: inner T a.1 ++ placesK T (a.1 + 1) (T.strands.length - (a.1 + 1))).flatMap G
    rw [List.cons_append, List.flatMap_cons, List.flatMap_append, List.flatMap_append, List.map_append]
    have h0 : G (a.1, 0, 0) = [] := hno _ fun hf => by
      rcases hf with hf | hf
      · exact Nat.lt_irrefl _ hf
      · rcases hf.2 with hf | hf
        · have h1 : 0 = a.pl.2.1 := hf.2.1
          omega
        · exact hi hf
    rw [h0, List.nil_append]
    have hpl : ∀ p ∈ (List.range (a.pl.2.1 - a.pl.2.2)).map (fun d => (a.pl.1, a.pl.2.1, a.pl.2.2 + d)), IsPl T p := fun p hp => by
      obtain ⟨d, hd, rfl⟩ := List.mem_map.mp hp
      have := List.mem_range.mp hd
      exact .inr ⟨hkk, by show 0 < a.pl.2.2 + d; omega, v, hm, hl, by show a.pl.2.2 + d < a.pl.2.1; omega⟩
    have hinner : (inner T a.1).flatMap G = (((List.range (a.pl.2.1 - a.pl.2.2)).map (fun d => (a.pl.1, a.pl.2.1, a.pl.2.2 + d))).flatMap (pagesP T a)).map fun x => (x.1, x.2.2) := by
      rw [← hG _ hpl]
      unfold inner
      rw [List.flatMap_assoc]
      have hS := ok.strands _ (strand_mem hkk)
      have hothers : ∀ w ∈ strand T a.1, w.2.1.length ≠ a.pl.2.1 → ((List.range (w.2.1.length - 1)).map fun i => ((a.1, w.2.1.length, i + 1) : Pl)).flatMap G = [] := fun w hw hne => List.flatMap_eq_nil_iff.mpr fun p hp => by
        obtain ⟨i, _, rfl⟩ := List.mem_map.mp hp
        refine hno _ fun hf => ?_
        rcases hf with hf | hf
        · exact Nat.lt_irrefl _ hf
        · rcases hf.2 with hf | hf
          · exact hne hf.2.1
          · exact hi hf
      have hone : ((List.range (v.2.1.length - 1)).map fun i => ((a.1, v.2.1.length, i + 1) : Pl)).flatMap G = ((List.range (a.pl.2.1 - a.pl.2.2)).map (fun d => ((a.pl.1, a.pl.2.1, a.pl.2.2 + d) : Pl))).flatMap G := by
        rw [List.flatMap_map, List.flatMap_map, hl]
        rw [range_cut (lo := a.pl.2.2 - 1) (c := a.pl.2.1 - a.pl.2.2) (by omega) (fun j hj => ?_) (fun j hj hj2 => ?_)]
        · congr 1
          funext d
          have : a.pl.2.2 - 1 + d + 1 = a.pl.2.2 + d := by omega
          rw [this]
        · refine hno _ fun hf => ?_
          rcases hf with hf | hf
          · exact Nat.lt_irrefl _ hf
          · rcases hf.2 with hf | hf
            · have : a.pl.2.2 ≤ j + 1 := hf.2.2
              omega
            · exact hi hf
        · omega
      have hfl : ∀ s : StrT, (s.map fun v => v.2.1.length).Pairwise (· < ·) → v ∈ s → (∀ w ∈ s, w ∈ strand T a.1) → (s.flatMap fun w => ((List.range (w.2.1.length - 1)).map fun i => ((a.1, w.2.1.length, i + 1) : Pl)).flatMap G) = ((List.range (v.2.1.length - 1)).map fun i => ((a.1, v.2.1.length, i + 1) : Pl)).flatMap G := fun s => by
        induction s with
        | nil => intro _ h; cases h
        | cons x s ih =>
          intro hp hvs hsub
          rw [List.map_cons, List.pairwise_cons] at hp
          rw [List.flatMap_cons]
          rcases List.mem_cons.mp hvs with rfl | hvs
          · have : (s.flatMap fun w => ((List.range (w.2.1.length - 1)).map fun i => ((a.1, w.2.1.length, i + 1) : Pl)).flatMap G) = [] := List.flatMap_eq_nil_iff.mpr fun w hw => by
              have := hp.1 _ (List.mem_map_of_mem hw)
              exact hothers w (hsub w (List.mem_cons_of_mem _ hw)) (by omega)
            rw [this, List.append_nil]
          · have := hp.1 _ (List.mem_map_of_mem hvs)
            rw [hothers x (hsub x List.mem_cons_self) (by omega), List.nil_append]
            exact ih hp.2 hvs fun w hw => hsub w (List.mem_cons_of_mem _ hw)
      rw [hfl _ hS.asc hm fun w hw => hw, hone]
    rw [hinner, hG _ (placesK_pl (T := T) (n := T.strands.length - (a.1 + 1)) (k := a.1 + 1) (by omega))]
end Tf
/-! + by an own __add__; properties; lists of fields -/
namespace Tf
open PySem PySem.Spec PyProof.Rows L2
def rAddO (C : Addr) (sp : Sp) : R2 := fun x y H Q => ∃ a b dx dy fs gs, x = .ref a ∧ y = .ref b ∧ H a = some (.ins C dx fs) ∧ H b = some (.ins C dy gs) ∧ sp [.ref a, .ref b] H (fun r H' => (∃ c, r = .ref c) ∧ Q r H') E0
structure AddO (K : PySem.W.Frag) (C f : Addr) : Prop where
  sf : PySem.W.selfFirst K C = true
  at_ : PySem.W.findIn K (.ref C) "__add__" = some (some (.ref f))
  fn : PySem.W.isFn K (.ref f) = true
theorem op_addO {X : Cx} {k : Nat} {C f : Addr} {sp : Sp} (B : AddO X.K C f) (F : FnR X.prog X.w X.K X.mg X.base CX0 k f sp) (hr : Room k X.A) : OpR X (binaryOp .Add) (rAddO C sp) := by
  intro pins s σ H x y v u Q I rx ry h
  obtain ⟨a, b, dx, dy, fs, gs, rfl, rfl, ha, hb, q⟩ := h
  obtain rfl : v = Value.ref a := rx
  obtain rfl : u = Value.ref b := ry
  obtain ⟨_, Oa, _⟩ := ins_get I.hok ha
  obtain ⟨_, Ja, _⟩ := Oa.look
  obtain ⟨_, Ob, _⟩ := ins_get I.hok hb
  obtain ⟨_, Jb, _⟩ := Ob.look
  obtain ⟨m, Fm⟩ := I.fr
  refine PySem.W.binop_K Fm I.ok.mod.kin Ja Jb.type B.sf B.at_ B.fn (wpAny_call (run_at (us := [Value.ref a, Value.ref b]) (vs := [V.ref a, V.ref b]) F hr rfl I (.cons rfl (.cons rfl .nil)) q fun w s' hw => ?_))
  obtain ⟨r, H', I', rr, ⟨c, e⟩, q'⟩ := hw
  subst e
  obtain rfl : w = Value.ref c := rr
  exact ⟨.ref c, H', I', rfl, q'⟩
/-- the field of a name behind stores -/
theorem lk_same {f : Str} {v : V} {fs : List (Str × V)} : (putF f v fs).lookup f = some v := by rw [lookup_putF, if_pos rfl]
theorem lk_other {f g : Str} {v : V} {fs : List (Str × V)} (h : ¬ g = f) : (putF f v fs).lookup g = fs.lookup g := by rw [lookup_putF, if_neg h]
theorem len_put {f : Str} {v : V} {fs : List (Str × V)} {n : Nat} (h : fs.length < n) : (putF f v fs).length < n + 1 := by
  have := length_putF f v fs
  omega
/-! glue -/
abbrev gF (g : G3) : List (Str × V) := [("natural", .int g.1), ("stretch", .int g.2.1), ("shrink", .int g.2.2)]
def rGlue (C : Addr) : Rp G3 := fun F g v => ∃ a dx, v = .ref a ∧ F a = some (.ins C dx (gF g))
instance {C : Addr} : MonoS (rGlue C) := ⟨fun s ⟨a, dx, e, h⟩ => ⟨a, dx, e, s _ _ h⟩⟩
structure GCls (K : PySem.W.Frag) (C : Addr) : Prop where
  cl : Cls K C
  n1 : NoAttr K C "natural"
  n2 : NoAttr K C "stretch"
  n3 : NoAttr K C "shrink"
theorem gF_make {a b c : Int} : putF "shrink" (.int c) (putF "stretch" (.int b) (putF "natural" (.int a) [])) = gF (a, b, c) := by
  have e1 : putF "natural" (.int a) [] = ([("natural", .int a)] : List (Str × V)) := rfl
  rw [e1, put_ne (k := "stretch") (k' := "natural") (by decide +kernel)]
  have e2 : putF "stretch" (.int b) [] = ([("stretch", .int b)] : List (Str × V)) := rfl
  rw [e2, put_ne (k := "shrink") (k' := "natural") (by decide +kernel), put_ne (k := "shrink") (k' := "stretch") (by decide +kernel)]
  rfl
theorem gF_n {g : G3} : (gF g).lookup ("natural" : Str) = some (.int g.1) := lk_eq
theorem gF_st {g : G3} : (gF g).lookup ("stretch" : Str) = some (.int g.2.1) := (lk_ne (by decide +kernel)).trans lk_eq
theorem gF_sh {g : G3} : (gF g).lookup ("shrink" : Str) = some (.int g.2.2) := (lk_ne (by decide +kernel)).trans ((lk_ne (by decide +kernel)).trans lk_eq)
theorem gF_no {g : G3} {f : Str} (h1 : (f == ("natural" : Str)) = false) (h2 : (f == ("stretch" : Str)) = false) (h3 : (f == ("shrink" : Str)) = false) : (gF g).lookup f = none := (lk_ne h1).trans ((lk_ne h2).trans ((lk_ne h3).trans rfl))
def addGG (g h : G3) : G3 := (g.1 + h.1, g.2.1 + h.2.1, g.2.2 + h.2.2)
def spGInit (C : Addr) : Sp := fun vs H Q _ => ∃ x dx a b c F m, vs = [.ref x, .int a, .int b, .int c] ∧ Own H F ((x, .ins C dx []) :: m) ∧ ∀ H', Own H' F ((x, .ins C dx (gF (a, b, c))) :: m) → Q .non H'
def spGAdd (C : Addr) : Sp := fun vs H Q _ => ∃ v w g h F m, vs = [v, w] ∧ Own H F m ∧ rGlue C F g v ∧ rGlue C F h w ∧ ∀ r H' F', Same F F' → Own H' F' m → rGlue C F' (addGG g h) r → Q r H'
def spGLeast (C : Addr) : Sp := fun vs H Q _ => ∃ v g F m, vs = [v] ∧ Own H F m ∧ rGlue C F g v ∧ Q (.int (g.1 - g.2.2)) H
def spGPlain (C : Addr) : Sp := fun vs H Q _ => ∃ v g F m, vs = [v] ∧ Own H F m ∧ rGlue C F g v ∧ ∀ r H' F', Same F F' → Own H' F' m → rTup rInt F' [g.1, g.2.1, g.2.2] r → Q r H'
section
variable {K : PySem.W.Frag} {H F : Hp} {m : Mem} {Q : VK} {C : Addr}
/-- Glue(a, b, c) -/
theorem x_mkGlue {a b c : Int} {E : XK} (O : Own H F m) (k : ∀ r H' F', Same F F' → Own H' F' m → rGlue C F' (a, b, c) r → Q r H') : MKQ C (spGInit C) E Q [.int a, .int b, .int c] H :=
  mk_of O fun x dx H1 F1 hx s1 O1 => ⟨x, dx, a, b, c, F1, m, rfl, O1, fun H2 O2 => ⟨rfl, k _ _ _ (s1.trans O2.freeze_same) O2.freeze ⟨x, dx, rfl, upd_same⟩⟩⟩
/-- g + h -/
theorem x_addGlue {v w : V} {g h : G3} (O : Own H F m) (hv : rGlue C F g v) (hw : rGlue C F h w) (k : ∀ r H' F', Same F F' → Own H' F' m → rGlue C F' (addGG g h) r → Q r H') : rAddO C (spGAdd C) v w H Q := by
  obtain ⟨a, dx, rfl, ha⟩ := id hv
  obtain ⟨b, dy, rfl, hb⟩ := id hw
  refine ⟨a, b, dx, dy, _, _, rfl, rfl, O.frz ha, O.frz hb, _, _, g, h, F, m, rfl, O, hv, hw, fun r H' F' s O' hr => ?_⟩
  obtain ⟨c, dz, rfl, hc⟩ := id hr
  exact ⟨⟨c, rfl⟩, k _ _ _ s O' hr⟩
end
/-- o.f, a property -/
def PrQ (C : Addr) (sp : Sp) (E : XK) (Q : VK) : VK := fun x H1 => ∃ a dx fs, x = .ref a ∧ H1 a = some (.ins C dx fs) ∧ sp (.ref a :: []) H1 Q E
theorem x_prop {C : Addr} {sp : Sp} {E : XK} {ta : TE} {σ : L2.St} {H : Hp} {Q : VK} (k : ta σ H (PrQ C sp E Q)) : tProp C sp [] E ta σ H Q := k
theorem x_least {C : Addr} {H F : Hp} {m : Mem} {Q : VK} {v : V} {g : G3} {E : XK} (O : Own H F m) (hv : rGlue C F g v) (k : Q (.int (g.1 - g.2.2)) H) : PrQ C (spGLeast C) E Q v H := by
  obtain ⟨a, dx, rfl, ha⟩ := id hv
  exact ⟨a, dx, _, rfl, O.frz ha, _, g, F, m, rfl, O, hv, k⟩
/-- a property of the class at C, to be read -/
structure Prp (P : Program) (w : World) (K : PySem.W.Frag) (mg : Str → Option Value) (base : Heap) (C : Addr) (x : Str) (k : Nat) (p f : Addr) (fd : FuncData) (sp : Sp) : Prop where
  ok : FnOk P w K mg base CX0 k f fd ["self"] sp
  cl : Cls K C
  hp : PropOf K C x p f
  bi : Binds K fd ["self"] []
/-- an own __add__ -/
structure Adp (P : Program) (w : World) (K : PySem.W.Frag) (mg : Str → Option Value) (base : Heap) (C : Addr) (k : Nat) (f : Addr) (sp : Sp) : Prop where
  b : AddO K C f
  f : FnR P w K mg base CX0 k f sp
theorem pe_cn {X : Cx} {x : Str} {i : Int} {pos : Pos} (hg : Gl X x) (h : ∃ t, X.mg x = some (Value.int i t)) (hd : (x == ("__debug__" : Str)) = false := by decide) : PE X (.Name x pos) (tC (.int i)) :=
  let ⟨t, h⟩ := h
  pe_glob hg h ⟨t, rfl⟩ hd
theorem badn_b {a b : Int} (ha : 0 ≤ a) (hb : 0 ≤ b) : 0 ≤ badn a b ∧ badn a b ≤ 10000 := by
  unfold badn
  split
  · omega
  · split
    · omega
    · have h1 : 0 ≤ 100 * a * a * a / (b * b * b) := Int.ediv_nonneg (Int.mul_nonneg (Int.mul_nonneg (Int.mul_nonneg (by omega) ha) ha) ha) (Int.mul_nonneg (Int.mul_nonneg hb hb) hb)
      split <;> omega
theorem badG_b {H : Int} {g : G3} {l : Bool} (h1 : 0 ≤ g.2.1) (h2 : 0 ≤ g.2.2) : 0 ≤ badG H g l ∧ badG H g l ≤ 10000 := by
  unfold badG
  split
  · exact badn_b (by omega) h2
  · split
    · omega
    · exact badn_b (by omega) h1
def spBadn : Sp := fun vs H Q _ => ∃ a b, vs = [.int a, .int b] ∧ 0 ≤ a ∧ a < 2 ^ 62 ∧ 0 ≤ b ∧ b < 2 ^ 62 ∧ Q (.int (badn a b)) H
structure GB (H : Int) (g : G3) : Prop where
  lo : -(2 ^ 62) < H - g.1
  hi : H - g.1 < 2 ^ 62
  s0 : 0 ≤ g.2.1
  s1 : g.2.1 < 2 ^ 62
  r0 : 0 ≤ g.2.2
  r1 : g.2.2 < 2 ^ 62
def spFill (C : Addr) : Sp := fun vs H Q _ => ∃ h v g l F m, vs = [.int h, v, .bl l] ∧ Own H F m ∧ rGlue C F g v ∧ GB h g ∧ Q (.int (fillC h g l)) H
def spWait : Sp := fun vs H Q _ => ∃ a b c, vs = [.int a, .int b, .int c] ∧ Q (.int (waitC a b c)) H
def cnts (bs : List Bool) : List Int := (List.range (bs.length + 1)).map fun n => (((bs.take n).filter id).length : Int)
def spCounts : Sp := fun vs H Q _ => ∃ v bs F m, vs = [v] ∧ Own H F m ∧ rList rBool F bs v ∧ bs.length ≤ 1000 ∧ ∀ r H' F', Same F F' → Own H' F' m → rList rInt F' (cnts bs) r → Q r H'
theorem cnts_snoc (bs : List Bool) (b : Bool) : cnts (bs ++ [b]) = cnts bs ++ [(((bs ++ [b]).filter id).length : Int)] := by
  unfold cnts
  rw [List.length_append, List.length_singleton, List.range_succ, List.map_append]
  congr 1
  · refine List.map_congr_left fun n hn => ?_
    have := List.mem_range.mp hn
    rw [List.take_append_of_le_length (by omega)]
  · show [_] = [_]
    dsimp only
    rw [List.take_of_length_le (by simp)]
theorem cnts_last (bs : List Bool) : (cnts bs)[(cnts bs).length - 1]? = some ((bs.filter id).length : Int) := by
  unfold cnts
  rw [List.length_map, List.length_range, Nat.add_sub_cancel, List.getElem?_map, List.getElem?_range (Nat.lt_succ_self _)]
  show some _ = some _
  dsimp only
  rw [List.take_length]
end Tf
/-! slices and sums of tuples and lists; reads of what may be ours -/
namespace Tf
open PySem PySem.Spec PyProof.Rows L2
def cutL {α : Type} (xs : List α) (lo hi : Option Int) : List α := (xs.drop (HT.sIx xs.length 0 lo)).take (HT.sIx xs.length xs.length hi - HT.sIx xs.length 0 lo)
theorem cutL_all {α : Type} {xs : List α} {lo hi : Option Int} (h : HT.sIx xs.length 0 lo = 0 ∧ HT.sIx xs.length xs.length hi = xs.length) : cutL xs lo hi = xs := by
  unfold cutL
  rw [h.1, h.2]
  simp
theorem cutL_to {α : Type} (xs : List α) (n : Nat) : cutL xs none (some (n : Int)) = xs.take n := by
  unfold cutL
  rw [HT.sIx_nat, HT.sIx_none, List.drop_zero, Nat.sub_zero]
  by_cases h : n ≤ xs.length
  · rw [Nat.min_eq_left h]
  · rw [Nat.min_eq_right (by omega), List.take_length, List.take_of_length_le (by omega)]
theorem cutL_from {α : Type} (xs : List α) (n : Nat) : cutL xs (some (n : Int)) none = xs.drop n := by
  unfold cutL
  rw [HT.sIx_nat, HT.sIx_none]
  by_cases h : n ≤ xs.length
  · rw [Nat.min_eq_left h]
    exact List.take_of_length_le (by rw [List.length_drop]; exact Nat.le_refl _)
  · rw [Nat.min_eq_right (by omega), List.drop_of_length_le (Nat.le_refl _), List.drop_of_length_le (by omega), List.take_nil]
theorem cutL_mid {α : Type} (xs : List α) (a b : Nat) : cutL xs (some (a : Int)) (some (b : Int)) = (xs.drop a).take (b - a) := by
  unfold cutL
  rw [HT.sIx_nat, HT.sIx_nat]
  by_cases h : a ≤ xs.length
  · rw [Nat.min_eq_left h]
    by_cases h2 : b ≤ xs.length
    · rw [Nat.min_eq_left h2]
    · rw [Nat.min_eq_right (by omega)]
      rw [List.take_of_length_le (by rw [List.length_drop]; exact Nat.le_refl _), List.take_of_length_le (by rw [List.length_drop]; omega)]
  · have e1 : min a xs.length = xs.length := by omega
    rw [e1, List.drop_of_length_le (Nat.le_refl _), List.drop_of_length_le (by omega), List.take_nil, List.take_nil]
theorem all2_cut {α β : Type} {R : α → β → Prop} {xs : List α} {ys : List β} (h : All2 R xs ys) (lo hi : Option Int) : All2 R (cutL xs lo hi) (cutL ys lo hi) := by
  unfold cutL
  rw [h.length]
  exact (h.drop).take
section
variable {K : PySem.W.Frag} {H F : Hp} {m : Mem} {v w : V} {Q : VK} {α β γ : Type} {R : Rp α} {S : Rp β} {T : Rp γ} {xs ys : List α}
theorem x_slTA [MonoS R] {lo hi : Option Int} (O : Own H F m) (h : rTup R F xs v) (k : ∀ w H' F', Same F F' → Own H' F' m → rTup R F' (cutL xs lo hi) w → Q w H') : rSlA K v lo hi H Q := by
  obtain ⟨a, us, rfl, ha, r⟩ := id h
  refine ⟨a, us, rfl, .inl (.inl (O.frz ha)), fun hw => ?_, fun _ p hp => ?_⟩
  · refine k _ _ _ (Same.refl _) O ?_
    rw [cutL_all (by rw [r.length]; exact hw)]
    exact h
  · have s : Same F (upd F p (.tup (cutV us lo hi))) := same_new (O.fresh hp)
    exact k _ _ _ s (O.new hp) ⟨p, _, rfl, upd_same, all2_up s (all2_cut r lo hi)⟩
theorem x_slLA [MonoS R] {lo hi : Option Int} (O : Own H F m) (h : rList R F xs v) (k : ∀ w H' F', Same F F' → Own H' F' m → rList R F' (cutL xs lo hi) w → Q w H') : rSlL K v lo hi H Q := by
  obtain ⟨a, us, rfl, ha, r⟩ := id h
  refine ⟨a, us, rfl, .inl (.inl (O.frz ha)), fun p hp => ?_⟩
  have s : Same F (upd F p (.lst (cutV us lo hi))) := same_new (O.fresh hp)
  exact k _ _ _ s (O.new hp) ⟨p, _, rfl, upd_same, all2_up s (all2_cut r lo hi)⟩
theorem x_catTA [MonoS R] (O : Own H F m) (h : rTup R F xs v) (h2 : rTup R F ys w) (hl : xs.length + ys.length ≤ 16777216) (k : ∀ w H' F', Same F F' → Own H' F' m → rTup R F' (xs ++ ys) w → Q w H') : rCatA K v w H Q := by
  obtain ⟨a, us, rfl, ha, r⟩ := id h
  obtain ⟨b, zs, rfl, hb, r2⟩ := id h2
  refine ⟨a, b, us, zs, rfl, rfl, .inl (.inl (O.frz ha)), .inl (.inl (O.frz hb)), by rw [← r.length, ← r2.length, sizeLine_eq]; exact hl, fun e => ?_, fun _ e => ?_, fun _ _ p hp => ?_⟩
  · subst e
    cases r
    exact k _ _ _ (Same.refl _) O h2
  · subst e
    cases r2
    refine k _ _ _ (Same.refl _) O ?_
    rw [List.append_nil]
    exact h
  · have s : Same F (upd F p (.tup (us ++ zs))) := same_new (O.fresh hp)
    exact k _ _ _ s (O.new hp) ⟨p, _, rfl, upd_same, (all2_up s r).app (all2_up s r2)⟩
theorem x_newT2 {α β : Type} {R : Rp α} [MonoS R] {xs : List α} {vs : List V} (O : Own H F m) (hl : vs.length ≤ 16777216) (hR : All2 (R F) xs vs) (k : ∀ v H' F', Same F F' → Own H' F' m → rTup R F' xs v → Q v H') : NewT vs Q H := x_newT O hl hR k
/-- a, b, c = a tuple of three ints -/
theorem x_g3I {gs : TGs} {σ : L2.St} {Q : L2.St → Hp → Prop} {a b c : Int} (O : Own H F m) (h : rTup rInt F [a, b, c] v) (k : gs [.int a, .int b, .int c] σ H Q) : gTup K 3 gs v σ H Q := by
  obtain ⟨p, us, rfl, ha, r⟩ := h
  have e := ints_of r
  subst e
  exact ⟨p, _, rfl, .inl (.inl (O.frz ha)), rfl, k⟩
theorem x_g5I {gs : TGs} {σ : L2.St} {Q : L2.St → Hp → Prop} {a b c d e : Int} (O : Own H F m) (h : rTup rInt F [a, b, c, d, e] v) (k : gs [.int a, .int b, .int c, .int d, .int e] σ H Q) : gTup K 5 gs v σ H Q := by
  obtain ⟨p, us, rfl, ha, r⟩ := h
  have e := ints_of r
  subst e
  exact ⟨p, _, rfl, .inl (.inl (O.frz ha)), rfl, k⟩
theorem x_ixTI {a : List Int} {z : Int} {j : Nat} {x : Int} (O : Own H F m) (h : rTup rInt F a v) (e : z = (j : Int)) (hx : a[j]? = some x) (k : Q (.int x) H) : rIxT K v (.int z) H Q :=
  x_ixT O h e hx fun w hw => by
    have hw : w = .int x := hw
    rw [hw]
    exact k
theorem x_lenTI (O : Own H F m) (h : rTup R F xs v) (k : Q (.int xs.length) H) : rLen K [v] H Q := x_lenT O h k
end
/-! what is read may stand still or be ours -/
def SeenQ (F : Hp) (m : Mem) (a : Addr) (vs : List V) : Prop := F a = some (.lst vs) ∨ F a = some (.tup vs) ∨ (a, HO.lst vs) ∈ m
theorem SeenQ.at_ {H F : Hp} {m : Mem} {a : Addr} {vs : List V} (O : Own H F m) (h : SeenQ F m a vs) : H a = some (.lst vs) ∨ H a = some (.tup vs) := by
  rcases h with h | h | h
  · exact .inl (O.frz h)
  · exact .inr (O.frz h)
  · exact .inl (O.get h)
theorem SeenQ.up {F F' : Hp} {m m' : Mem} {a : Addr} {vs : List V} (h : SeenQ F m a vs) (s : Same F F') (hm : ∀ c ∈ m, c ∈ m') : SeenQ F' m' a vs := by
  rcases h with h | h | h
  · exact .inl (s _ _ h)
  · exact .inr (.inl (s _ _ h))
  · exact .inr (.inr (hm _ h))
section
variable {K : PySem.W.Frag} {σ : L2.St} {H F : Hp} {m : Mem} {g : TG} {tt : TT} {te : TE} {vs : List Nat} {Q : VK} {β : Type} {S : Rp β} {a : Addr} {us : List V}
theorem x_tupM (O : Own H F m) (h : SeenQ F m a us) (k : ∀ w H' F', Same F F' → Own H' F' m → F' w = some (.tup us) → Q (.ref w) H') : rTupOf K [.ref a] H Q := by
  rcases h with h | h | h
  · exact ⟨a, us, rfl, .inl ⟨.inl (.inl (O.frz h)), fun l hl => k l _ _ (same_new (O.fresh hl)) (O.new hl) upd_same⟩⟩
  · exact ⟨a, us, rfl, .inr ⟨.inl (.inl (O.frz h)), k a _ _ (Same.refl _) O h⟩⟩
  · exact ⟨a, us, rfl, .inl ⟨.inl (.inl (O.get h)), fun l hl => k l _ _ (same_new (O.fresh hl)) (O.new hl) upd_same⟩⟩
theorem x_docSM [MonoS S] (O : Own H F m) (h : SeenQ F m a us) (P : Nat → Hp → Mem → List β → Prop) (h0 : P 0 F m []) (hm : ∀ i F' m' ys, P i F' m' ys → ∀ c ∈ m, c ∈ m')
    (hs : ∀ D acc i w H' F' m' ys, us[i]? = some w → Same F F' → Own H' F' ((D, .lst acc) :: m') → All2 (S F') ys acc → ys.length ≤ i → P i F' m' ys →
      g w (wipe σ vs) H' fun σ2 H2 => wipe σ2 vs = wipe σ vs ∧ tt σ2 H2 fun b H3 => if b = true then te σ2 H3 fun y H4 => ∃ acc, H4 D = some (.lst acc) ∧ acc.length < sizeLine ∧ LcP S P F D (i + 1) (upd H4 D (.lst (acc ++ [y]))) else LcP S P F D (i + 1) H3)
    (hd : ∀ v' H' F' m' ys, Same F F' → Own H' F' m' → rList S F' ys v' → P us.length F' m' ys → Q v' H') (hP : ∀ F1 F2 m1 ys i, Same F1 F2 → P i F1 m1 ys → P i F2 m1 ys := by exact fun _ _ _ _ _ _ h => h) : CS K g tt te vs σ Q (.ref a) H := by
  have fin : ∀ D H', LcP S P F D us.length H' → Q (.ref D) H' := fun D H' ⟨F', m', acc, ys, s, O', hy, hl, p⟩ => by
    have s2 := O'.freeze_same
    exact hd (.ref D) H' (upd F' D (.lst acc)) m' ys (s.trans s2) O'.freeze ⟨D, acc, rfl, upd_same, all2_up s2 hy⟩ (hP _ _ _ _ _ s2 p)
  rcases h.at_ O with h1 | h1
  · refine ⟨a, rfl, .inl ⟨⟨us, .inl (.inl h1)⟩, fun D hD => lc_list (LcP S P F D) ⟨F, m, [], [], Same.refl F, O.own hD, .nil, Nat.zero_le _, h0⟩ (fun i H' _ ⟨F', m', acc, ys, s, O', hy, hl, p⟩ => ?_) (fun i w H' hi ⟨F', m', acc, ys, s, O', hy, hl, p⟩ => hs D acc i w H' F' m' ys hi s O' hy hl p) fun H' p => fin D H' p⟩⟩
    have hz := (h.up s (hm i F' m' ys p)).at_ O'.tail
    rcases hz with z | z
    · exact .inl (.inl z)
    · exfalso
      rcases h with h | h | h
      · rw [O'.frz (s _ _ h)] at z
        cases z
      · rw [O.frz h] at h1
        cases h1
      · rw [O'.tail.get (hm i F' m' ys p _ h)] at z
        cases z
  · refine ⟨a, rfl, .inr ⟨⟨us, .inl (.inl h1)⟩, fun D hD => lc_tup (LcP S P F D) ⟨F, m, [], [], Same.refl F, O.own hD, .nil, Nat.zero_le _, h0⟩ (fun i H' _ ⟨F', m', acc, ys, s, O', hy, hl, p⟩ => ?_) (fun i w H' hi ⟨F', m', acc, ys, s, O', hy, hl, p⟩ => hs D acc i w H' F' m' ys hi s O' hy hl p) fun H' p => fin D H' p⟩⟩
    have hz := (h.up s (hm i F' m' ys p)).at_ O'.tail
    rcases hz with z | z
    · exfalso
      rcases h with h | h | h
      · rw [O.frz h] at h1
        cases h1
      · rw [O'.frz (s _ _ h)] at z
        cases z
      · rw [O.get h] at h1
        cases h1
    · exact .inl (.inl z)
end
end Tf
/-! what stands for a press task; the promises of its methods -/
namespace Tf
open PySem PySem.Spec PyProof.Rows L2
/-! sum of a tuple of ints -/
def rSumT (K : PySem.W.Frag) : List V → Hp → VK → Prop := fun vs H Q => ∃ (a : Addr) (ns : List Int), vs = [V.ref a] ∧ (SqL K H a (ns.map V.int) ∨ SqT K H a (ns.map V.int)) ∧ Q (.int ns.sum) H
theorem cr_sumT {X : Cx} (hc : X.calm = true) : CallR X (.builtin "sum") (rSumT X.K) := by
  intro pins s σ H vs us Q I r h
  obtain ⟨a, ns, rfl, hs, q⟩ := h
  rcases hs with hs | hs
  · exact cr_sum hc pins s σ H _ us Q I r ⟨a, ns, rfl, hs, q⟩
  · obtain ⟨its, rv, hl, _⟩ := I.tuple hs
    rw [Vals.ref1 r]
    have hi := rv.ints
    obtain ⟨xs, e⟩ := hi.allInts.items
    have hn : numsOf (intItems xs).toList = ns := by rw [← e]; exact hi.numsOf
    rw [nums_intItems] at hn
    have hl : s.heap.IsTuple a (intItems xs) := by rw [← e]; exact hl
    refine PySem.W.ktm_sumG (I.ok.hd hc) hl fun h' tk t' hk => ⟨.int _, H, I.kept hk, ?_, q⟩
    rw [preSum_eq, List.take_of_length_le (by simp), hn]
    exact ⟨_, rfl⟩
section
variable {K : PySem.W.Frag} {H F : Hp} {m : Mem} {v w : V} {Q : VK} {ns : List Int}
theorem x_sumL (O : Own H F m) (h : rList rInt F ns v) (k : Q (.int ns.sum) H) : rSumT K [v] H Q := by
  obtain ⟨a, vs, rfl, ha, r⟩ := h
  have e := ints_of r
  subst e
  exact ⟨a, ns, rfl, .inl (.inl (.inl (O.frz ha))), k⟩
theorem x_sumTp (O : Own H F m) (h : rTup rInt F ns v) (k : Q (.int ns.sum) H) : rSumT K [v] H Q := by
  obtain ⟨a, vs, rfl, ha, r⟩ := h
  have e := ints_of r
  subst e
  exact ⟨a, ns, rfl, .inr (.inl (.inl (O.frz ha))), k⟩
end
/-! data -/
abbrev rUnit : Rp UnitT := rTri rInt (rTri rInt rInt rInt) rInt
abbrev rVari : Rp VarT := rTri rInt (rTup rUnit) (rTup rInt)
abbrev rStrand : Rp StrT := rTup rVari
abbrev rStrands : Rp (List StrT) := rTup rStrand
abbrev rFloats : Rp (List (Int × Int)) := rTup (rPair rInt rInt)
abbrev rLines : Rp (List (Int × Bool)) := rTup (rPair rInt rBool)
abbrev rSt : Rp Sx := fun F a v => rTup rInt F (stL a) v
abbrev rPl : Rp Pl := fun F p v => rTup rInt F (plL p) v
instance : MonoS rSt := ⟨fun s h => up (R := rTup rInt) s h⟩
instance : MonoS rPl := ⟨fun s h => up (R := rTup rInt) s h⟩
abbrev rFi (C : Addr) : Rp Fi := rTri (rOpt (rGlue C)) rInt (rTup rInt)
abbrev rFis (C : Addr) : Rp (List Fi) := rList (rFi C)
abbrev rPg : Rp Pg := rTri rInt (rTup rInt) rSt
def mostOf (s : StrT) : Int := (((s[s.length - 1]?).map (·.2.1.length)).getD 0 : Nat)
def mostL (T : Told) (k : Nat) : Int := ((T.strands.take k).map mostOf).sum
def upTo (T : Told) (f : Told → Nat → Int) (n : Nat) : List Int := (List.range (n + 1)).map (f T)
theorem upTo_succ {T : Told} {f : Told → Nat → Int} {n : Nat} : upTo T f (n + 1) = upTo T f n ++ [f T (n + 1)] := by
  unfold upTo
  rw [List.range_succ, List.map_append]
  rfl
theorem upTo_get {T : Told} {f : Told → Nat → Int} {n k : Nat} (h : k ≤ n) : (upTo T f n)[k]? = some (f T k) := by
  unfold upTo
  rw [List.getElem?_map, List.getElem?_range (by omega)]
  rfl
theorem upTo_last {T : Told} {f : Told → Nat → Int} {n : Nat} : (upTo T f n)[(upTo T f n).length - 1]? = some (f T n) := by
  have e : (upTo T f n).length = n + 1 := by
    unfold upTo
    rw [List.length_map, List.length_range]
  rw [e]
  exact upTo_get (Nat.le_refl _)
theorem mostL_succ {T : Told} {k : Nat} (h : k < T.strands.length) : mostL T (k + 1) = mostL T k + mostOf (strand T k) := by
  unfold mostL
  rw [List.take_add_one, strand_get h, List.map_append, sum_app]
  show _ + [mostOf (strand T k)].sum = _
  simp
def openL (T : Told) : List Int := cnts (T.lines.map (·.2))
theorem openL_get {T : Told} {n : Nat} (h : n ≤ T.lines.length) : (openL T)[n]? = some (openN T n : Int) := by
  unfold openL cnts openN
  rw [List.length_map, List.getElem?_map, List.getElem?_range (by omega)]
  show some _ = some _
  congr 1
  dsimp only
  rw [← List.map_take, List.filter_map, List.length_map]
  rfl
abbrev pF (s f l : V) (h p r g : Int) (o la ma : V) : List (Str × V) :=
  [("strands", s), ("floats", f), ("lines", l), ("height", .int h), ("floats_a_page", .int p), ("rule", .int r), ("float_gap", .int g), ("_opened", o), ("_lines_ahead", la), ("_most_ahead", ma)]
def rPress (C : Addr) : Rp Told := fun F T v => ∃ a dx s f l o la ma, v = .ref a ∧ F a = some (.ins C dx (pF s f l T.tall T.fap T.rule T.fgap o la ma)) ∧ rStrands F T.strands s ∧ rFloats F T.floats f ∧ rLines F T.lines l ∧
  rList rInt F (openL T) o ∧ rList rInt F (upTo T aheadL T.strands.length) la ∧ rList rInt F (upTo T mostL T.strands.length) ma
instance {C : Addr} : MonoS (rPress C) := ⟨fun s ⟨a, dx, u, f, l, o, la, ma, e, h, h1, h2, h3, h4, h5, h6⟩ => ⟨a, dx, u, f, l, o, la, ma, e, s _ _ h, up s h1, up s h2, up s h3, up s h4, up s h5, up s h6⟩⟩
structure PCls (K : PySem.W.Frag) (C : Addr) : Prop where
  cl : Cls K C
  n1 : NoAttr K C "strands"
  n2 : NoAttr K C "floats"
  n3 : NoAttr K C "lines"
  n4 : NoAttr K C "height"
  n5 : NoAttr K C "floats_a_page"
  n6 : NoAttr K C "rule"
  n7 : NoAttr K C "float_gap"
  n8 : NoAttr K C "_opened"
  n9 : NoAttr K C "_lines_ahead"
  n10 : NoAttr K C "_most_ahead"
section
variable {s f l o la ma : V} {h p r g : Int}
theorem pF_1 : (pF s f l h p r g o la ma).lookup ("strands" : Str) = some s := lk_eq
theorem pF_2 : (pF s f l h p r g o la ma).lookup ("floats" : Str) = some f := (lk_ne (by decide +kernel)).trans lk_eq
theorem pF_3 : (pF s f l h p r g o la ma).lookup ("lines" : Str) = some l := (lk_ne (by decide +kernel)).trans ((lk_ne (by decide +kernel)).trans lk_eq)
theorem pF_4 : (pF s f l h p r g o la ma).lookup ("height" : Str) = some (.int h) := (lk_ne (by decide +kernel)).trans ((lk_ne (by decide +kernel)).trans ((lk_ne (by decide +kernel)).trans lk_eq))
theorem pF_5 : (pF s f l h p r g o la ma).lookup ("floats_a_page" : Str) = some (.int p) := (lk_ne (by decide +kernel)).trans ((lk_ne (by decide +kernel)).trans ((lk_ne (by decide +kernel)).trans ((lk_ne (by decide +kernel)).trans lk_eq)))
theorem pF_6 : (pF s f l h p r g o la ma).lookup ("rule" : Str) = some (.int r) := by
  unfold pF
  rw [lk_ne (by decide +kernel), lk_ne (by decide +kernel), lk_ne (by decide +kernel), lk_ne (by decide +kernel), lk_ne (by decide +kernel), lk_eq]
theorem pF_7 : (pF s f l h p r g o la ma).lookup ("float_gap" : Str) = some (.int g) := by
  unfold pF
  rw [lk_ne (by decide +kernel), lk_ne (by decide +kernel), lk_ne (by decide +kernel), lk_ne (by decide +kernel), lk_ne (by decide +kernel), lk_ne (by decide +kernel), lk_eq]
theorem pF_8 : (pF s f l h p r g o la ma).lookup ("_opened" : Str) = some o := by
  unfold pF
  rw [lk_ne (by decide +kernel), lk_ne (by decide +kernel), lk_ne (by decide +kernel), lk_ne (by decide +kernel), lk_ne (by decide +kernel), lk_ne (by decide +kernel), lk_ne (by decide +kernel), lk_eq]
theorem pF_9 : (pF s f l h p r g o la ma).lookup ("_lines_ahead" : Str) = some la := by
  unfold pF
  rw [lk_ne (by decide +kernel), lk_ne (by decide +kernel), lk_ne (by decide +kernel), lk_ne (by decide +kernel), lk_ne (by decide +kernel), lk_ne (by decide +kernel), lk_ne (by decide +kernel), lk_ne (by decide +kernel), lk_eq]
theorem pF_10 : (pF s f l h p r g o la ma).lookup ("_most_ahead" : Str) = some ma := by
  unfold pF
  rw [lk_ne (by decide +kernel), lk_ne (by decide +kernel), lk_ne (by decide +kernel), lk_ne (by decide +kernel), lk_ne (by decide +kernel), lk_ne (by decide +kernel), lk_ne (by decide +kernel), lk_ne (by decide +kernel), lk_ne (by decide +kernel), lk_eq]
theorem pF_no {n : Str} (h1 : (n == ("strands" : Str)) = false) (h2 : (n == ("floats" : Str)) = false) (h3 : (n == ("lines" : Str)) = false) (h4 : (n == ("height" : Str)) = false) (h5 : (n == ("floats_a_page" : Str)) = false)
    (h6 : (n == ("rule" : Str)) = false) (h7 : (n == ("float_gap" : Str)) = false) (h8 : (n == ("_opened" : Str)) = false) (h9 : (n == ("_lines_ahead" : Str)) = false) (h10 : (n == ("_most_ahead" : Str)) = false) : (pF s f l h p r g o la ma).lookup n = none := by
  unfold pF
  rw [lk_ne h1, lk_ne h2, lk_ne h3, lk_ne h4, lk_ne h5, lk_ne h6, lk_ne h7, lk_ne h8, lk_ne h9, lk_ne h10]
  rfl
end
theorem pF_non {s f l o la ma : V} {h p r g : Int} {n : Str} (hn : (["strands", "floats", "lines", "height", "floats_a_page", "rule", "float_gap", "_opened", "_lines_ahead", "_most_ahead"] : List Str).contains n = false) : (pF s f l h p r g o la ma).lookup n = none := by
  simp only [List.contains_cons, List.contains_nil, Bool.or_eq_false_iff] at hn
  obtain ⟨h1, h2, h3, h4, h5, h6, h7, h8, h9, h10, _⟩ := hn
  exact pF_no h1 h2 h3 h4 h5 h6 h7 h8 h9 h10
theorem stL_inj {a b : Sx} : stL a = stL b ↔ a = b := by
  obtain ⟨a1, a2, a3, a4, a5⟩ := a
  obtain ⟨b1, b2, b3, b4, b5⟩ := b
  unfold stL
  simp only [List.cons.injEq, Prod.mk.injEq, Int.natCast_inj, and_true]
theorem plL_inj {a b : Pl} : plL a = plL b ↔ a = b := by
  obtain ⟨a1, a2, a3⟩ := a
  obtain ⟨b1, b2, b3⟩ := b
  unfold plL
  simp only [List.cons.injEq, Prod.mk.injEq, Int.natCast_inj, and_true]
theorem dec_iff {p q : Prop} [Decidable p] [Decidable q] (h : p ↔ q) : decide p = decide q := by
  by_cases z : p
  · rw [decide_eq_true z, decide_eq_true (h.mp z)]
  · rw [decide_eq_false z, decide_eq_false fun y => z (h.mpr y)]
def rankT (T : Told) (a : Sx) : Int := mostL T a.1 + a.2.2.1 + a.2.2.2.1 + a.2.2.2.2
/-! promises -/
/-- ours are no tuples -/
def NoTup (m : Mem) : Prop := ∀ c ∈ m, ∀ xs, c.2 ≠ HO.tup xs
/-- lists and tuples that are handed in: their values -/
structure GivenT (F : Hp) (m : Mem) (T : Told) (sa fa la : Addr) : Prop where
  s : ∃ svs, SeenQ F m sa svs ∧ All2 (fun st u => ∃ b ws, u = V.ref b ∧ SeenQ F m b ws ∧ All2 (rVari F) st ws) T.strands svs
  f : ∃ fvs, SeenQ F m fa fvs ∧ All2 (rPair rInt rInt F) T.floats fvs
  l : ∃ lvs, SeenQ F m la lvs ∧ All2 (rPair rInt rBool F) T.lines lvs
def spPInit (C : Addr) : Sp := fun vs H Q _ => ∃ x dx sa fa la T F m, vs = [.ref x, .ref sa, .ref fa, .ref la, .int T.tall, .int T.fap, .int T.rule, .int T.fgap] ∧ Own H F ((x, .ins C dx []) :: m) ∧ GivenT F m T sa fa la ∧ TOk T ∧
  ∀ H' F' s f l o lh ma, Same F F' → Own H' F' ((x, .ins C dx (pF s f l T.tall T.fap T.rule T.fgap o lh ma)) :: m) → rStrands F' T.strands s → rFloats F' T.floats f → rLines F' T.lines l → rList rInt F' (openL T) o →
    rList rInt F' (upTo T aheadL T.strands.length) lh → rList rInt F' (upTo T mostL T.strands.length) ma → Q .non H'
def spPFirst : Sp := fun vs H Q _ => ∃ v F m, vs = [v] ∧ Own H F m ∧ ∀ r H' F', Same F F' → Own H' F' m → rSt F' (0, 0, 0, 0, 0) r → Q r H'
def spPEnd (C : Addr) : Sp := fun vs H Q _ => ∃ v w T a F m, vs = [v, w] ∧ Own H F m ∧ rPress C F T v ∧ rSt F a w ∧ ∀ H' F', Same F F' → Own H' F' m → Q (.bl (decide (a = endS T))) H'
def spPRank (C : Addr) : Sp := fun vs H Q _ => ∃ v w T a F m, vs = [v, w] ∧ Own H F m ∧ rPress C F T v ∧ rSt F a w ∧ a.1 ≤ T.strands.length ∧ Q (.int (rankT T a)) H
def spVar (C : Addr) : Sp := fun vs H Q _ => ∃ v T k j F m, vs = [v, .int ((k : Nat) : Int), .int ((j : Nat) : Int)] ∧ Own H F m ∧ rPress C F T v ∧ k < T.strands.length ∧ ∀ r H' F', Same F F' → Own H' F' m → rOpt rVari F' (vari T k j) r → Q r H'
/-- a place or a state: what is read of it are its first three numbers -/
def rPlS (F : Hp) (p : Pl) (v : V) : Prop := rPl F p v
def spDueF (C : Addr) : Sp := fun vs H Q _ => ∃ v w T p F m, vs = [v, w] ∧ Own H F m ∧ rPress C F T v ∧ rPl F p w ∧ TOk T ∧ ∀ H' F', Same F F' → Own H' F' m → Q (.int (dueF T p.1)) H'
def spDueL (C : Addr) : Sp := fun vs H Q _ => ∃ v w T p F m, vs = [v, w] ∧ Own H F m ∧ rPress C F T v ∧ rPl F p w ∧ TOk T ∧ IsPl T p ∧ ∀ H' F', Same F F' → Own H' F' m → Q (.int (dueL T p)) H'
def spNextC (C : Addr) : Sp := fun vs H Q _ => ∃ v w T a F m, vs = [v, w] ∧ Own H F m ∧ rPress C F T v ∧ rSt F a w ∧ TOk T ∧ IsPl T a.pl ∧ ∀ H' F', Same F F' → Own H' F' m → Q (optV (nextC T a.pl)) H'
def spLoose (C : Addr) : Sp := fun vs H Q _ => ∃ v w T a F m, vs = [v, w] ∧ Own H F m ∧ rPress C F T v ∧ rSt F a w ∧ TOk T ∧ IsPl T a.pl ∧ ∀ H' F', Same F F' → Own H' F' m → Q (.bl (looseB T a)) H'
def runU (H : Int) (us : List UnitT) (fs : List Fi) : List Fi := us.foldl (fun fs u => fs.filterMap (withU H u)) fs
def spWithU (C CG : Addr) : Sp := fun vs H Q _ => ∃ v w z T fs u F m, vs = [v, w, z] ∧ Own H F m ∧ rPress C F T v ∧ rFis CG F fs w ∧ rUnit F u z ∧ fs.length ≤ 1000 ∧ ∀ r H' F', Same F F' → Own H' F' m → rFis CG F' (fs.filterMap (withU T.tall u)) r → Q r H'
abbrev rSpot (CG : Addr) : Rp (Pl × List Fi) := rPair rPl (rFis CG)
def throughS (H : Int) (k : Nat) (us : List UnitT) (start : Nat) (fs : List Fi) : List (Pl × List Fi) := (List.range (us.length - start - 1)).map fun d => ((k, us.length, start + d + 1), runU H ((us.drop start).take (d + 1)) fs)
def spThrough (C CG : Addr) : Sp := fun vs H Q _ => ∃ v sp k w start z T us fs zs F m, vs = [v, .ref sp, .int ((k : Nat) : Int), w, .int ((start : Nat) : Int), z] ∧ Own H F ((sp, .lst zs) :: m) ∧ rPress C F T v ∧ rTup rUnit F us w ∧ rFis CG F fs z ∧ fs.length ≤ 1000 ∧ us.length ≤ 8 ∧ start < us.length ∧ zs.length ≤ 100000 ∧
  ∀ r H' F' ys, Same F F' → Own H' F' ((sp, .lst (zs ++ ys)) :: m) → All2 (rSpot CG F') (throughS T.tall k us start fs) ys → rFis CG F' (runU T.tall (us.drop start) fs) r → Q r H'
def spLeastF (CG : Addr) : Sp := fun vs H Q _ => ∃ v fs F m, vs = [v] ∧ Own H F m ∧ NoTup m ∧ rFis CG F fs v ∧ fs.length ≤ 1000 ∧ (∀ f ∈ fs, f.1 ≠ none) ∧
  ∀ r H' F' rs, Same F F' → Own H' F' m → rFis CG F' rs r → (∀ r ∈ rs, r ∈ fs) → (∀ f ∈ fs, ∃ r ∈ rs, r.1 = f.1 ∧ ltPF f.2 r.2 = false) → rs.length ≤ fs.length → Q r H'
/-- the spots of a state -/
structure SpotsOk (T : Told) (a : Pl) (sp : List (Pl × List Fi)) : Prop where
  pre : ∃ rest, placesA T a = sp.map (·.1) ++ rest ∧ ∀ p ∈ rest, ∀ e ∈ entries T a p, ¬ okU T.tall e.2.1
  reps : ∀ x ∈ sp, Reps T.tall x.2 (entries T a x.1)
def spSpots (C CG : Addr) : Sp := fun vs H Q _ => ∃ v w T a F m, vs = [v, w] ∧ Own H F m ∧ NoTup m ∧ rPress C F T v ∧ rSt F a w ∧ TOk T ∧ IsPl T a.pl ∧ ∀ r H' F' sp, Same F F' → Own H' F' m → rList (rSpot CG) F' sp r → SpotsOk T a.pl sp → Q r H'
def spOther (C CG : Addr) : Sp := fun vs H Q _ => ∃ v w z T a b F m, vs = [v, w, z] ∧ Own H F m ∧ rPress C F T v ∧ rSt F a w ∧ rSt F b z ∧ TOk T ∧ ∀ r H' F', Same F F' → Own H' F' m → rGlue CG F' (otherL T a b, 0, 0) r → Q r H'
def spEndC (C : Addr) : Sp := fun vs H Q _ => ∃ v w z T a b F m, vs = [v, w, z] ∧ Own H F m ∧ rPress C F T v ∧ rSt F a w ∧ rSt F b z ∧ TOk T ∧ IsSt T b ∧ ∀ H' F', Same F F' → Own H' F' m → Q (.int (endC T a b)) H'
def spBest (C CG : Addr) : Sp := fun vs H Q _ => ∃ v w z u T a b fs F m, vs = [v, w, z, u] ∧ Own H F m ∧ rPress C F T v ∧ rSt F a w ∧ rSt F b z ∧ rFis CG F fs u ∧ TOk T ∧ IsSt T b ∧ fs.length ≤ 1000 ∧ (∀ f ∈ fs, ∀ g, f.1 = some g → 0 ≤ g.1 ∧ g.1 < 2 ^ 61 + 2 ^ 60 ∧ 0 ≤ g.2.1 ∧ g.2.1 < 2 ^ 61 + 2 ^ 60 ∧ 0 ≤ g.2.2 ∧ g.2.2 < 2 ^ 61 + 2 ^ 60) ∧
  ∀ r H' F', Same F F' → Own H' F' m → rOpt (rPair rInt (rTup rInt)) F' (if a = b then none else (minOpt (fs.filterMap (pairF T.tall (otherL T a b) (looseB T b)))).map fun x => (x.1 + endC T a b, x.2)) r → Q r H'
def spPages (C : Addr) : Sp := fun vs H Q _ => ∃ v w T a F m, vs = [v, w] ∧ Own H F m ∧ NoTup m ∧ rPress C F T v ∧ rSt F a w ∧ TOk T ∧ IsSt T a ∧ ∀ r H' F', Same F F' → Own H' F' m → rList rPg F' (pagesT T a) r → Q r H'
def spSteps (C : Addr) : Sp := fun vs H Q _ => ∃ v w T a F m, vs = [v, w] ∧ Own H F m ∧ NoTup m ∧ rPress C F T v ∧ rSt F a w ∧ TOk T ∧ IsSt T a ∧ ∀ p H' F' us, Same F F' → Own H' F' ((p, .lst us) :: m) → All2 (rPair rInt rSt F') (lawSteps T a) us → Q (.ref p) H'
def spPCost (C : Addr) : Sp := fun vs H Q _ => ∃ v w z T a b F m, vs = [v, w, z] ∧ Own H F m ∧ NoTup m ∧ rPress C F T v ∧ rSt F a w ∧ rSt F b z ∧ TOk T ∧ IsSt T a ∧ IsSt T b ∧ ∀ H' F', Same F F' → Own H' F' m → Q (optV ((pageT T a b).map (·.1))) H'
def spPFill (C : Addr) : Sp := fun vs H Q _ => ∃ v w z T a b F m, vs = [v, w, z] ∧ Own H F m ∧ NoTup m ∧ rPress C F T v ∧ rSt F a w ∧ rSt F b z ∧ TOk T ∧ IsSt T a ∧ IsSt T b ∧ ∀ r H' F', Same F F' → Own H' F' m → rOpt (rTup rInt) F' ((pageT T a b).map (·.2)) r → Q r H'
end Tf
/-! dicts whose keys are tuples of ints -/
namespace Tf
open PySem PySem.Spec PyProof.Rows L2
/-! plain -/
section
variable {κ α : Type} [DecidableEq κ]
def getA (d : List (κ × α)) (k : κ) : Option α := (d.find? fun p => decide (p.1 = k)).map (·.2)
def putA (d : List (κ × α)) (k : κ) (x : α) : List (κ × α) := if (d.any fun p => decide (p.1 = k)) = true then d.map (fun p => if p.1 = k then (p.1, x) else p) else d ++ [(k, x)]
theorem getA_nil {k : κ} : getA ([] : List (κ × α)) k = none := rfl
theorem getA_cons {p : κ × α} {d : List (κ × α)} {k : κ} : getA (p :: d) k = if p.1 = k then some p.2 else getA d k := by
  by_cases e : p.1 = k
  · simp [getA, List.find?_cons, e]
  · simp [getA, List.find?_cons, e]
theorem getA_mem {d : List (κ × α)} {k : κ} {x : α} (h : getA d k = some x) : (k, x) ∈ d := by
  induction d with
  | nil => cases h
  | cons p d ih =>
    rw [getA_cons] at h
    by_cases e : p.1 = k
    · rw [if_pos e] at h
      cases h
      rw [← e]
      exact List.mem_cons_self
    · rw [if_neg e] at h
      exact List.mem_cons_of_mem _ (ih h)
theorem getA_app {d d' : List (κ × α)} {k : κ} : getA (d ++ d') k = (getA d k).or (getA d' k) := by
  induction d with
  | nil => rfl
  | cons p d ih =>
    rw [List.cons_append, getA_cons, getA_cons, ih]
    split <;> rfl
theorem getA_none {d : List (κ × α)} {k : κ} : getA d k = none ↔ (d.any fun p => decide (p.1 = k)) = false := by
  induction d with
  | nil => exact ⟨fun _ => rfl, fun _ => rfl⟩
  | cons p d ih =>
    rw [getA_cons, List.any_cons]
    by_cases e : p.1 = k
    · simp [e]
    · simp [e, ih]
theorem getA_repl {d : List (κ × α)} {k j : κ} {x : α} : getA (d.map fun p => if p.1 = k then (p.1, x) else p) j = if j = k then (getA d j).map fun _ => x else getA d j := by
  induction d with
  | nil =>
    show (none : Option α) = if j = k then none else none
    split <;> rfl
  | cons p d ih =>
    rw [List.map_cons, getA_cons, getA_cons, ih]
    by_cases e : p.1 = k
    · by_cases ej : p.1 = j
      · have z : j = k := ej.symm.trans e
        simp [e, z]
      · have z : ¬ j = k := fun z => ej (e.trans z.symm)
        simp [e, ej, z]
        rw [if_neg fun q => z q.symm, if_neg fun q => z q.symm]
    · by_cases ej : p.1 = j
      · have z : ¬ j = k := fun z => e (ej.trans z)
        simp [e, ej, z]
      · simp [e, ej]
theorem getA_put {d : List (κ × α)} {k j : κ} {x : α} : getA (putA d k x) j = if j = k then some x else getA d j := by
  unfold putA
  by_cases h : (d.any fun p => decide (p.1 = k)) = true
  · rw [if_pos h, getA_repl]
    by_cases e : j = k
    · rw [if_pos e, if_pos e]
      cases q : getA d j with
      | some y => rfl
      | none =>
        rw [e, getA_none] at q
        rw [q] at h
        cases h
    · rw [if_neg e, if_neg e]
  · rw [if_neg h, getA_app]
    by_cases e : j = k
    · rw [if_pos e, e, getA_none.mpr ((Bool.not_eq_true _).mp h), getA_cons, if_pos rfl]
      rfl
    · rw [if_neg e, getA_cons, if_neg (fun z => e z.symm), getA_nil]
      cases getA d j <;> rfl
theorem putA_mem {d : List (κ × α)} {k : κ} {x : α} {p : κ × α} (h : p ∈ putA d k x) : p ∈ d ∨ p = (k, x) := by
  unfold putA at h
  split at h
  · obtain ⟨q, hq, rfl⟩ := List.mem_map.mp h
    split
    · next e => exact .inr (by rw [e])
    · exact .inl hq
  · rcases List.mem_append.mp h with h | h
    · exact .inl h
    · exact .inr (List.mem_singleton.mp h)
theorem putA_len {d : List (κ × α)} {k : κ} {x : α} : (putA d k x).length ≤ d.length + 1 := by
  unfold putA
  split
  · rw [List.length_map]
    omega
  · rw [List.length_append]
    exact Nat.le_refl _
end
/-! how it stands in a heap -/
def encG (g : G3) : List Key := [.inl g.1, .inl g.2.1, .inl g.2.2]
theorem encG_inj {g h : G3} : encG g = encG h ↔ g = h := by
  obtain ⟨a, b, c⟩ := g
  obtain ⟨d, e, f⟩ := h
  unfold encG
  simp only [List.cons.injEq, Sum.inl.injEq, Prod.mk.injEq, and_true]
def kvG {α : Type} (R : Rp α) (F : Hp) : List (G3 × α) → List (List Key × V) → Prop := All2 fun p q => q.1 = encG p.1 ∧ R F p.2 q.2
section
variable {α : Type} {R : Rp α} {F F' : Hp} {d : List (G3 × α)} {kvs : List (List Key × V)}
theorem kvG.up [MonoS R] (s : Same F F') (h : kvG R F d kvs) : kvG R F' d kvs := h.mono fun _ _ p => ⟨p.1, Tf.up s p.2⟩
theorem kvG.get (h : kvG R F d kvs) (k : G3) : (getA d k = none ∧ valV kvs (encG k) = none) ∨ ∃ x v, getA d k = some x ∧ valV kvs (encG k) = some v ∧ R F x v := by
  induction h with
  | nil => exact .inl ⟨rfl, rfl⟩
  | @cons p q d kvs hp t ih =>
    by_cases e : p.1 = k
    · refine .inr ⟨p.2, q.2, ?_, valV_pos (by rw [hp.1, e]), hp.2⟩
      rw [getA_cons, if_pos e]
    · have e2 : valV (q :: kvs) (encG k) = valV kvs (encG k) := valV_neg (by rw [hp.1]; exact fun z => e (encG_inj.mp z))
      rw [getA_cons, if_neg e, e2]
      exact ih
theorem kvG.any (h : kvG R F d kvs) (k : G3) : (kvs.any fun p => decide (p.1 = encG k)) = d.any fun p => decide (p.1 = k) := by
  induction h with
  | nil => rfl
  | @cons p q d kvs hp t ih =>
    rw [List.any_cons, List.any_cons, ih, hp.1, dec_iff encG_inj]
theorem kvG.put {x : α} {v : V} (h : kvG R F d kvs) (k : G3) (hv : R F x v) : kvG R F (putA d k x) (putK kvs (encG k) v) := by
  unfold putA putK
  rw [h.any k]
  split
  · clear ‹_ = true›
    induction h with
    | nil => exact .nil
    | @cons p q d kvs hp t ih =>
      refine .cons ?_ ih
      by_cases e : p.1 = k
      · dsimp only
        rw [if_pos e, if_pos (by rw [hp.1, e])]
        exact ⟨by rw [hp.1], hv⟩
      · dsimp only
        rw [if_neg e, if_neg (by rw [hp.1]; exact fun z => e (encG_inj.mp z))]
        exact hp
  · exact All2.snoc h ⟨rfl, hv⟩
theorem kvG.len (h : kvG R F d kvs) : kvs.length = d.length := (All2.length h).symm
end
abbrev rKey : Rp G3 := fun F g v => rTup rInt F [g.1, g.2.1, g.2.2] v
section
variable {α : Type} {R : Rp α} {H F : Hp} {m : Mem} {d : List (G3 × α)} {kvs : List (List Key × V)} {a : Addr} {v w : V} {g : G3} {Q : VK}
theorem key_at (O : Own H F m) (h : rKey F g v) : ∃ b, v = .ref b ∧ H b = some (.tup ((encG g).map kV)) := by
  obtain ⟨b, vs, rfl, hb, r⟩ := h
  have e := ints_of r
  subst e
  exact ⟨b, rfl, O.frz hb⟩
theorem x_dinG {Q : Bool → Hp → Prop} (O : Own H F ((a, .dT kvs) :: m)) (hk : kvG R F d kvs) (hv : rKey F g v) (k : Q (getA d g).isSome H) : DIQ (.ref a) v Q H := by
  obtain ⟨b, rfl, hb⟩ := key_at O hv
  refine ⟨a, _, rfl, .inr ⟨kvs, encG g, b, .inl O.at0, rfl, hb, rfl⟩, ?_⟩
  rcases hk.get g with ⟨e1, e2⟩ | ⟨y, w, e1, e2, hr⟩
  · rw [e2]
    rw [e1] at k
    exact k
  · rw [e2]
    rw [e1] at k
    exact k
theorem x_dgetG {x : α} (O : Own H F ((a, .dT kvs) :: m)) (hk : kvG R F d kvs) (hv : rKey F g v) (e : getA d g = some x) (k : ∀ w, R F x w → Q w H) : DGQ (.ref a) v Q H := by
  obtain ⟨b, rfl, hb⟩ := key_at O hv
  rcases hk.get g with ⟨e1, _⟩ | ⟨y, w, e1, e2, hr⟩
  · rw [e] at e1
    cases e1
  · rw [e] at e1
    cases e1
    exact ⟨a, w, rfl, .inr ⟨kvs, encG g, b, .inl O.at0, rfl, hb, e2.symm⟩, k w hr⟩
theorem x_dputG {x : α} {Q : Hp → Prop} (O : Own H F ((a, .dT kvs) :: m)) (hk : kvG R F d kvs) (hv : rKey F g v) (hw : R F x w) (hl : d.length < 16777216) (k : ∀ kvs' H', kvG R F (putA d g x) kvs' → Own H' F ((a, .dT kvs') :: m) → Q H') : DPQ (.ref a) v w Q H := by
  obtain ⟨b, rfl, hb⟩ := key_at O hv
  exact ⟨a, _, rfl, .inr ⟨kvs, encG g, b, O.at0, rfl, hb, by rw [hk.len, sizeLine_eq]; exact hl, rfl⟩, k _ _ (hk.put g hw) (O.set _)⟩
theorem x_dnewT {σ : L2.St} (O : Own H F m) (k : ∀ p H', H p = none → Own H' F ((p, .dT []) :: m) → Q (.ref p) H') : tDNewT σ H Q := fun p hp => k p _ hp (O.own hp)
end
/-! the lock -/
theorem le_lockT {F : Hp} {d : Addr} {ob : Obj} {kvs : List (List Key × V)} (h : F d = some (.dT kvs)) : Le F (upd F d (.frz ob (.dT kvs))) where
  pl := fun a o p e => by
    have hn : a ≠ d := fun z => by
      rw [z, h] at e
      cases e
      exact p
    rw [upd_ne hn]
    exact e
  dk := fun a k r => by
    by_cases ha : a = d
    · subst ha
      rcases r with r | ⟨o, r⟩ <;> (rw [h] at r; cases r)
    · rcases r with r | ⟨o, r⟩
      · exact .inl (by rw [upd_ne ha]; exact r)
      · exact .inr ⟨o, by rw [upd_ne ha]; exact r⟩
  dt := fun a k r => by
    by_cases ha : a = d
    · subst ha
      rcases r with r | ⟨o, r⟩
      · rw [h] at r
        cases r
        exact .inr ⟨ob, upd_same⟩
      · rw [h] at r
        cases r
    · rcases r with r | ⟨o, r⟩
      · exact .inl (by rw [upd_ne ha]; exact r)
      · exact .inr ⟨o, by rw [upd_ne ha]; exact r⟩
theorem le_unlockT {F : Hp} {d : Addr} {ob : Obj} {kvs : List (List Key × V)} (h : F d = some (.frz ob (.dT kvs))) : Le F (upd F d (.dT kvs)) where
  pl := fun a o p e => by
    have hn : a ≠ d := fun z => by
      rw [z, h] at e
      cases e
      exact p
    rw [upd_ne hn]
    exact e
  dk := fun a k r => by
    by_cases ha : a = d
    · subst ha
      rcases r with r | ⟨o, r⟩ <;> (rw [h] at r; cases r)
    · rcases r with r | ⟨o, r⟩
      · exact .inl (by rw [upd_ne ha]; exact r)
      · exact .inr ⟨o, by rw [upd_ne ha]; exact r⟩
  dt := fun a k r => by
    by_cases ha : a = d
    · subst ha
      rcases r with r | ⟨o, r⟩
      · rw [h] at r
        cases r
      · rw [h] at r
        cases r
        exact .inl upd_same
    · rcases r with r | ⟨o, r⟩
      · exact .inl (by rw [upd_ne ha]; exact r)
      · exact .inr ⟨o, by rw [upd_ne ha]; exact r⟩
section
variable {H F : Hp} {m : Mem} {a : Addr} {kvs : List (List Key × V)} {te : TE} {σ : L2.St} {Q : VK} {v : V} {od : Obj}
theorem x_lockET (O : Own H F m) (h : F a = some (.dT kvs))
    (k : ∀ od H1 F1, Own H1 F1 m → Le F F1 → F1 a = some (.frz od (.dT kvs)) → (∀ F', Same F1 F' → Same F (upd F' a (.dT kvs))) → te σ H1 (DLE a (.dT kvs) od Q)) : tLockE te σ H Q :=
  ⟨a, .dT kvs, O.frz h, True.intro, fun od => k od _ _ (O.relay h) (le_lockT h) upd_same fun _ s => unlock_same h s⟩
theorem x_unlockET {F0 F1 F' : Hp} (O : Own H F' m) (h1 : F1 a = some (.frz od (.dT kvs))) (hs : ∀ F', Same F1 F' → Same F0 (upd F' a (.dT kvs))) (s : Same F1 F')
    (k : ∀ H2 F2, Same F0 F2 → Le F' F2 → Own H2 F2 m → Q v H2) : DLE a (.dT kvs) od Q v H := by
  have h : F' a = some (.frz od (.dT kvs)) := s _ _ h1
  exact ⟨O.frz h, k _ _ (hs _ s) (le_unlockT h) (O.relay h)⟩
end
/-- what stands, and is not ours, may be held to stand still -/
theorem Own.catch_ {H F : Hp} {m : Mem} {q : Addr} {o : HO} (O : Own H F m) (h : H q = some o) (hn : q ∉ m.map (·.1)) : ∃ F', Same F F' ∧ Own H F' m ∧ F' q = some o := by
  cases e : F q with
  | some o' =>
    have := O.frz e
    rw [h] at this
    cases this
    exact ⟨F, Same.refl F, O, e⟩
  | none =>
    refine ⟨upd F q o, same_new e, ⟨fun a u ea => ?_, fun x hx => ?_, O.nd⟩, upd_same⟩
    · by_cases ha : a = q
      · subst ha
        rw [upd_same] at ea
        cases ea
        exact h
      · rw [upd_ne ha] at ea
        exact O.sub a u ea
    · have hx1 : x.1 ≠ q := fun z => hn (by rw [← z]; exact List.mem_map_of_mem hx)
      rw [upd_ne hx1]
      exact O.mem x hx
theorem Own.catchT {H F : Hp} {m : Mem} {q : Addr} {xs : List V} (O : Own H F m) (hm : NoTup m) (h : H q = some (.tup xs)) : ∃ F', Same F F' ∧ Own H F' m ∧ F' q = some (.tup xs) := O.catch_ h fun hq => by
  obtain ⟨c, hc, e⟩ := List.mem_map.mp hq
  have := (O.mem c hc).1
  rw [e, h] at this
  exact hm c hc xs (Option.some.inj this).symm
section
variable {K : PySem.W.Frag} {σ : L2.St} {H F : Hp} {m : Mem} {g : TG} {tt : TT} {te : TE} {vs : List Nat} {α β : Type} {R : Rp α} {S : Rp β} {Q : VK} {d : List (G3 × α)}
/-- a comprehension over such a dict's keys: each key is a tuple that stands still from now on -/
theorem x_docKT [MonoS S] {a : Addr} {kvs : List (List Key × V)} {ob : Obj} (O : Own H F m) (hm : NoTup m) (h : F a = some (.frz ob (.dT kvs))) (hk : kvG R F d kvs) (P : Nat → Hp → List β → Prop) (h0 : P 0 F [])
    (hs : ∀ D acc i p z H' F' ys, d[i]? = some p → rKey F' p.1 z → Same F F' → Own H' F' ((D, .lst acc) :: m) → All2 (S F') ys acc → ys.length ≤ i → P i F' ys →
      g z (wipe σ vs) H' fun σ2 H2 => wipe σ2 vs = wipe σ vs ∧ tt σ2 H2 fun b H3 => if b = true then te σ2 H3 fun y H4 => ∃ acc, H4 D = some (.lst acc) ∧ acc.length < sizeLine ∧ LcP S (fun i F' m' ys => m' = m ∧ P i F' ys) F D (i + 1) (upd H4 D (.lst (acc ++ [y]))) else LcP S (fun i F' m' ys => m' = m ∧ P i F' ys) F D (i + 1) H3)
    (hd : ∀ v' H' F' ys, Same F F' → Own H' F' m → rList S F' ys v' → P d.length F' ys → Q v' H') (hP : ∀ F1 F2 ys i, Same F1 F2 → P i F1 ys → P i F2 ys := by exact fun _ _ _ _ _ h => h) : CK g tt te vs σ Q (.ref a) H := by
  refine ⟨a, ob, rfl, .inr ⟨kvs, O.frz h, fun D hD => ?_⟩⟩
  refine lc_it walk_keysT (LcP S (fun i F' m' ys => m' = m ∧ P i F' ys) F D) ⟨F, m, [], [], Same.refl F, O.own hD, .nil, Nat.zero_le _, rfl, h0⟩ (fun i H' _ ⟨F', m', _, _, s, O', _⟩ => O'.frz (s _ _ h)) (fun i x H' H2 hi ⟨F', m', acc, ys, s, O', hy, hl, em, p⟩ y => ?_) fun H' ⟨F', m', acc, ys, s, O', hy, hl, em, p⟩ => ?_
  · subst em
    obtain ⟨rfl, k, w, q, e, rfl, hq⟩ := y
    obtain ⟨r, hr, e1, _⟩ := All2.get' hk e
    have e1 : k = encG r.1 := e1
    subst e1
    have hm2 : NoTup ((D, HO.lst acc) :: m') := fun c hc xs => by
      rcases List.mem_cons.mp hc with rfl | hc
      · exact fun z => by cases z
      · exact hm c hc xs
    obtain ⟨F3, s3, O3, h3⟩ := O'.catchT hm2 hq
    have := hs D acc i r (.ref q) H2 F3 ys hr ⟨q, _, rfl, h3, All2.ofmap (f := V.int) (xs := [r.1.1, r.1.2.1, r.1.2.2])⟩ (s.trans s3) O3 (all2_up s3 hy) hl (hP _ _ _ _ s3 p)
    exact this
  · subst em
    have s2 := O'.freeze_same
    exact hd (.ref D) H' (upd F' D (.lst acc)) ys (s.trans s2) O'.freeze ⟨D, acc, rfl, upd_same, all2_up s2 hy⟩ (hP _ _ _ _ s2 (by rw [← hk.len]; exact p))
end
instance {C : Addr} : Mono (rGlue C) := ⟨fun l ⟨a, dx, e, h⟩ => ⟨a, dx, e, l.pl _ _ True.intro h⟩⟩
end Tf
/-! the spots of a state: plain Lean -/
namespace Tf
/-! numbers -/
theorem unit_ub {T : Told} (ok : TOk T) {u : UnitT} (h : ∃ k, ∃ v ∈ strand T k, u ∈ v.2.1) : UB u := by
  obtain ⟨k, v, hv, hu⟩ := h
  have hk : k < T.strands.length := by
    apply Classical.byContradiction
    intro z
    unfold strand at hv
    rw [List.getElem?_eq_none (by omega)] at hv
    cases hv
  exact ((ok.strands _ (strand_mem hk)).vars v hv).units u hu
theorem var_ok {T : Told} (ok : TOk T) {k : Nat} {v : VarT} (hv : v ∈ strand T k) : VOk v := by
  have hk : k < T.strands.length := by
    apply Classical.byContradiction
    intro z
    unfold strand at hv
    rw [List.getElem?_eq_none (by omega)] at hv
    cases hv
  exact (ok.strands _ (strand_mem hk)).vars v hv
def prodN (l : List Nat) : Nat := l.foldr (· * ·) 1
theorem prodN_pos : ∀ {l : List Nat}, (∀ x ∈ l, 0 < x) → 0 < prodN l
  | [], _ => Nat.one_pos
  | x :: l, h => Nat.mul_pos (h x List.mem_cons_self) (prodN_pos fun y hy => h y (List.mem_cons_of_mem _ hy))
theorem prodN_take : ∀ {l : List Nat} (n : Nat), (∀ x ∈ l, 0 < x) → prodN (l.take n) ≤ prodN l
  | [], n, _ => by rw [List.take_nil]; exact Nat.le_refl _
  | x :: l, 0, h => prodN_pos h
  | x :: l, n + 1, h => Nat.mul_le_mul_left x (prodN_take n fun y hy => h y (List.mem_cons_of_mem _ hy))
theorem prodN_drop : ∀ {l : List Nat} (n : Nat), (∀ x ∈ l, 0 < x) → prodN (l.drop n) ≤ prodN l
  | [], n, _ => by rw [List.drop_nil]; exact Nat.le_refl _
  | x :: l, 0, h => Nat.le_refl _
  | x :: l, n + 1, h => Nat.le_trans (prodN_drop n fun y hy => h y (List.mem_cons_of_mem _ hy)) (Nat.le_mul_of_pos_left _ (h x List.mem_cons_self))
theorem prodN_snoc : ∀ (l : List Nat) (x : Nat), prodN (l ++ [x]) = prodN l * x
  | [], x => by
    show x * 1 = 1 * x
    omega
  | y :: l, x => by
    show y * prodN (l ++ [x]) = y * prodN l * x
    rw [prodN_snoc l x, Nat.mul_assoc]
theorem fullL_prod {T : Told} {k0 : Nat} {u0 : List UnitT} : ∀ {n : Nat}, k0 + n ≤ T.strands.length → (fullL T k0 u0 n).length = prodN (((T.strands.map List.length).drop k0).take n)
  | 0, _ => rfl
  | n + 1, h => by
    show (extS (fullL T k0 u0 n) (strand T (k0 + n))).length = _
    rw [extS_length, fullL_prod (by omega), List.take_add_one, List.getElem?_drop, List.getElem?_map, strand_get (by omega)]
    show _ = prodN (_ ++ [(strand T (k0 + n)).length])
    rw [prodN_snoc]
theorem fullL_few {T : Told} (ok : TOk T) {k0 : Nat} {u0 : List UnitT} {n : Nat} (h : k0 + n ≤ T.strands.length) : (fullL T k0 u0 n).length ≤ 30 := by
  have hp : ∀ x ∈ T.strands.map List.length, 0 < x := fun x hx => by
    obtain ⟨s, hs, rfl⟩ := List.mem_map.mp hx
    exact List.length_pos_iff.mpr (ok.strands s hs).ne
  rw [fullL_prod h]
  exact Nat.le_trans (prodN_take n fun x hx => hp x (List.mem_of_mem_drop hx)) (Nat.le_trans (prodN_drop k0 hp) ok.fills)
/-! units of entries -/
structure UsOk (n : Nat) (us : List UnitT) : Prop where
  ub : ∀ u ∈ us, UB u
  len : us.length ≤ n
theorem UsOk.app {n k : Nat} {us vs : List UnitT} (h : UsOk n us) (h2 : UsOk k vs) : UsOk (n + k) (us ++ vs) := ⟨fun u hu => (List.mem_append.mp hu).elim (h.ub u) (h2.ub u), by rw [List.length_append]; exact Nat.add_le_add h.len h2.len⟩
theorem UsOk.var {T : Told} (ok : TOk T) {k : Nat} {v : VarT} (hv : v ∈ strand T k) : UsOk 8 v.2.1 := ⟨(var_ok ok hv).units, (var_ok ok hv).few⟩
theorem UsOk.take {n : Nat} {us : List UnitT} (h : UsOk n us) (i : Nat) : UsOk n (us.take i) := ⟨fun u hu => h.ub u (List.mem_of_mem_take hu), by rw [List.length_take]; exact Nat.le_trans (Nat.min_le_right _ _) h.len⟩
theorem restU_ok {T : Told} (ok : TOk T) (a : Pl) : UsOk 8 (restU T a) := by
  unfold restU
  split
  · exact ⟨fun u hu => (nomatch hu), Nat.zero_le _⟩
  · cases e : vari T a.1 a.2.1 with
    | none => exact ⟨fun u hu => by simp at hu, by simp⟩
    | some v =>
      have h := UsOk.var ok (vari_mem e).1
      exact ⟨fun u hu => h.ub u (List.mem_of_mem_drop hu), by
        have := h.len
        show (v.2.1.drop _).length ≤ 8
        rw [List.length_drop]
        omega⟩
theorem fullL_ok {T : Told} (ok : TOk T) {k0 : Nat} {a : Pl} : ∀ {n : Nat} {e : En}, e ∈ fullL T k0 (restU T a) n → UsOk (8 + 8 * n) e.2.1
  | 0, e, h => by rw [List.mem_singleton.mp h]; exact restU_ok ok a
  | n + 1, e, h => by
    obtain ⟨e0, h0, h1⟩ := List.mem_flatMap.mp h
    obtain ⟨v, hv, rfl⟩ := List.mem_map.mp h1
    have := (fullL_ok ok h0).app (UsOk.var ok hv)
    exact ⟨this.ub, by have := this.len; show (e0.2.1 ++ v.2.1).length ≤ _; omega⟩
theorem entries_ok {T : Told} (ok : TOk T) {a b : Pl} (hb : b.1 ≤ T.strands.length) {e : En} (h : e ∈ entries T a b) : UsOk 1100 e.2.1 := by
  have hm := ok.many
  unfold entries at h
  split at h
  · rw [List.mem_singleton.mp h]
    have := (restU_ok ok a).take (b.2.2 - a.2.2)
    exact ⟨this.ub, Nat.le_trans this.len (by decide)⟩
  · split at h
    · have := fullL_ok ok h
      exact ⟨this.ub, Nat.le_trans this.len (by omega)⟩
    · cases e1 : vari T b.1 b.2.1 with
      | none =>
        rw [e1] at h
        cases h
      | some v =>
        rw [e1] at h
        obtain ⟨e0, h0, rfl⟩ := List.mem_map.mp h
        have := (fullL_ok ok h0).app ((UsOk.var ok (vari_mem e1).1).take b.2.2)
        exact ⟨this.ub, Nat.le_trans this.len (by omega)⟩
structure GOk (n : Nat) (g : G3) : Prop where
  a0 : 0 ≤ g.1
  a1 : g.1 ≤ n * 2 ^ 51
  b0 : 0 ≤ g.2.1
  b1 : g.2.1 ≤ n * 2 ^ 51
  c0 : 0 ≤ g.2.2
  c1 : g.2.2 ≤ n * 2 ^ 51
theorem glue_ok : ∀ (us : List UnitT), (∀ u ∈ us, UB u) → ∀ g, glueOf us = some g → GOk us.length g := by
  intro us
  induction hn : us.length generalizing us with
  | zero =>
    intro _ g hg
    rw [List.eq_nil_of_length_eq_zero hn] at hg
    cases hg
  | succ n ih =>
    intro h g hg
    rcases List.eq_nil_or_concat us with rfl | ⟨l, u, rfl⟩
    · cases hn
    · rw [List.concat_eq_append] at *
      rw [glueOf_snoc] at hg
      cases hg
      have hu := h u (List.mem_append_right _ List.mem_cons_self)
      have h0 := hu.h0
      have h1 := hu.g0
      have h2 := hu.g1
      have h3 := hu.g2
      have h4 := hu.gg
      have h5 := hu.hh
      have h6 := hu.g0h
      have h7 := hu.g1h
      rw [List.length_append, List.length_singleton] at hn
      have hl : l.length = n := by omega
      have := ih l hl fun v hv => h v (List.mem_append_left _ hv)
      unfold glueU
      cases e : glueOf l with
      | none =>
        refine ⟨by omega, ?_, Int.le_refl _, ?_, Int.le_refl _, ?_⟩ <;> (dsimp only; omega)
      | some g0 =>
        have k := this g0 e
        have k1 := k.a0
        have k2 := k.a1
        have k3 := k.b0
        have k4 := k.b1
        have k5 := k.c0
        have k6 := k.c1
        refine ⟨?_, ?_, ?_, ?_, ?_, ?_⟩ <;> (dsimp only; omega)
/-! the walk over the strands -/
def midA (a : Pl) : List Pl := if a.2.2 = 0 then [] else (List.range (a.2.1 - a.2.2)).map fun d => (a.1, a.2.1, a.2.2 + d)
theorem placesA_mid (T : Told) (a : Pl) : placesA T a = midA a ++ placesK T (nextK a) (T.strands.length - nextK a) := by
  unfold placesA midA nextK
  split <;> rfl
structure WI (T : Told) (a : Pl) (sps : List (Pl × List Fi)) (fs : List Fi) (n : Nat) : Prop where
  le : nextK a + n ≤ T.strands.length
  pre : sps.map (·.1) = midA a ++ placesK T (nextK a) n
  reps : ∀ x ∈ sps, Reps T.tall x.2 (entries T a x.1)
  cur : Reps T.tall fs (fullL T (nextK a) (restU T a) n)
theorem nextK_le {T : Told} {a : Pl} (h : IsPl T a) : nextK a ≤ T.strands.length := by
  unfold nextK
  rcases h with h | h
  · rw [if_pos h.2.2]
    exact h.1
  · split
    · exact Nat.le_of_lt h.1
    · exact h.1
theorem entries_at {T : Told} {a : Pl} (n : Nat) : entries T a (nextK a + n, 0, 0) = fullL T (nextK a) (restU T a) n := by
  unfold entries
  have h : ¬ ((nextK a + n, 0, 0) : Pl).1 = a.1 ∨ ¬ 0 < a.2.2 := by
    by_cases hi : a.2.2 = 0
    · exact .inr (by omega)
    · refine .inl ?_
      show ¬ nextK a + n = a.1
      unfold nextK
      rw [if_neg hi]
      omega
  rw [if_neg (fun z => h.elim (fun q => q z.1) fun q => q z.2), if_pos rfl]
  show fullL _ _ _ (nextK a + n - nextK a) = _
  rw [Nat.add_sub_cancel_left]
theorem entries_in {T : Told} (ok : TOk T) {a : Pl} (n : Nat) {v : VarT} (hk : nextK a + n < T.strands.length) (hv : v ∈ strand T (nextK a + n)) (i : Nat) (hi : 0 < i) : entries T a (nextK a + n, v.2.1.length, i) = extV (fullL T (nextK a) (restU T a) n) v i := by
  unfold entries
  have h : ¬ ((nextK a + n, v.2.1.length, i) : Pl).1 = a.1 ∨ ¬ 0 < a.2.2 := by
    by_cases hi : a.2.2 = 0
    · exact .inr (by omega)
    · refine .inl ?_
      show ¬ nextK a + n = a.1
      unfold nextK
      rw [if_neg hi]
      omega
  rw [if_neg (fun z => h.elim (fun q => q z.1) fun q => q z.2), if_neg (by show ¬ i = 0; omega)]
  show (match vari T (nextK a + n) v.2.1.length with | some v => extV (fullL T (nextK a) (restU T a) (nextK a + n - nextK a)) v i | none => []) = _
  rw [vari_of ok hk hv, Nat.add_sub_cancel_left]
theorem runU_reps {H : Int} : ∀ (us : List UnitT) {fs : List Fi} {L : List En}, Reps H fs L → (∀ u ∈ us, UB u) → Reps H (runU H us fs) (L.map fun e => (e.1, e.2.1 ++ us, e.2.2))
  | [], fs, L, h, _ => by
    have e : (L.map fun e => (e.1, e.2.1 ++ [], e.2.2)) = L := by
      simp
    rw [e]
    exact h
  | u :: us, fs, L, h, hu => by
    have h1 := h.unit (hu u List.mem_cons_self).toWU
    have h2 := runU_reps us h1 fun v hv => hu v (List.mem_cons_of_mem _ hv)
    rw [List.map_map] at h2
    have e : (L.map ((fun e => (e.1, e.2.1 ++ us, e.2.2)) ∘ fun e => (e.1, e.2.1 ++ [u], e.2.2))) = L.map fun e => (e.1, e.2.1 ++ u :: us, e.2.2) := List.map_congr_left fun e _ => by
      show (_, (e.2.1 ++ [u]) ++ us, _) = _
      rw [List.append_assoc]
      rfl
    rw [e] at h2
    exact h2
theorem extV_of {L : List En} {v : VarT} (i : Nat) : extV L v i = (extV L v 0).map fun e => (e.1, e.2.1 ++ v.2.1.take i, e.2.2) := by
  unfold extV
  rw [List.map_map]
  refine List.map_congr_left fun e _ => ?_
  show _ = (_, (e.2.1 ++ v.2.1.take 0) ++ v.2.1.take i, _)
  rw [List.take_zero, List.append_nil]
theorem runU_some {H : Int} : ∀ {us : List UnitT} {fs : List Fi}, us ≠ [] → ∀ f ∈ runU H us fs, f.1 ≠ none
  | [], _, h, _, _ => absurd rfl h
  | u :: us, fs, _, f, hf => by
    have h1 : ∀ f ∈ fs.filterMap (withU H u), f.1 ≠ none := fun f hf => by
      obtain ⟨g, _, e⟩ := List.mem_filterMap.mp hf
      unfold withU at e
      split at e
      · cases e
        exact fun z => by cases z
      · cases e
    have h2 : ∀ (us : List UnitT) (fs : List Fi), (∀ f ∈ fs, f.1 ≠ none) → ∀ f ∈ runU H us fs, f.1 ≠ none := by
      intro us
      induction us with
      | nil => exact fun fs h f hf => h f hf
      | cons u us ih =>
        refine fun fs h f hf => ih _ (fun f hf => ?_) f hf
        obtain ⟨g, _, e⟩ := List.mem_filterMap.mp hf
        unfold withU at e
        split at e
        · cases e
          exact fun z => by cases z
        · cases e
    exact h2 us _ h1 f hf
/-- the spots within one variant -/
theorem through_reps {T : Told} (ok : TOk T) {a : Pl} {n : Nat} {v : VarT} {fs : List Fi} (hk : nextK a + n < T.strands.length) (hv : v ∈ strand T (nextK a + n)) (h : Reps T.tall fs (extV (fullL T (nextK a) (restU T a) n) v 0)) :
    (throughS T.tall (nextK a + n) v.2.1 0 fs).map (·.1) = (List.range (v.2.1.length - 1)).map (fun i => ((nextK a + n, v.2.1.length, i + 1) : Pl)) ∧ (∀ x ∈ throughS T.tall (nextK a + n) v.2.1 0 fs, Reps T.tall x.2 (entries T a x.1)) ∧
      Reps T.tall (runU T.tall (v.2.1.drop 0) fs) (extV (fullL T (nextK a) (restU T a) n) v v.2.1.length) := by
  have V := var_ok ok hv
  refine ⟨?_, fun x hx => ?_, ?_⟩
  · unfold throughS
    rw [List.map_map, Nat.sub_zero]
    refine List.map_congr_left fun d _ => ?_
    show (_, _, 0 + d + 1) = _
    rw [Nat.zero_add]
  · unfold throughS at hx
    obtain ⟨d, hd, rfl⟩ := List.mem_map.mp hx
    show Reps _ _ (entries T a (nextK a + n, v.2.1.length, 0 + d + 1))
    rw [Nat.zero_add, entries_in ok n hk hv _ (Nat.succ_pos d), extV_of]
    exact runU_reps _ h fun u hu => V.units u (List.mem_of_mem_take hu)
  · rw [extV_of, List.take_length]
    exact runU_reps _ h V.units
theorem pre_rest {T : Told} : ∀ (n r k0 : Nat), ∃ rest, placesK T k0 (n + r) = placesK T k0 n ++ rest ∧ ∀ p ∈ rest, (k0 + n ≤ p.1 ∧ p ∈ inner T p.1) ∨ (k0 + n ≤ p.1 ∧ p.2.1 = 0 ∧ p.2.2 = 0)
  | n, 0, k0 => ⟨[], by simp, fun p hp => (nomatch hp)⟩
  | n, r + 1, k0 => by
    obtain ⟨rest, h1, h2⟩ := pre_rest n r k0
    refine ⟨rest ++ (inner T (k0 + (n + r)) ++ [(k0 + (n + r) + 1, 0, 0)]), ?_, fun p hp => ?_⟩
    · show placesK T k0 ((n + r) + 1) = _
      rw [placesK_snoc, h1, List.append_assoc]
    · rcases List.mem_append.mp hp with hp | hp
      · exact h2 p hp
      · rcases List.mem_append.mp hp with hp | hp
        · have e := (inner_mem hp).1
          refine .inl ⟨by omega, ?_⟩
          rw [e]
          exact hp
        · rw [List.mem_singleton.mp hp]
          exact .inr ⟨by show _ ≤ k0 + (n + r) + 1; omega, rfl, rfl⟩
theorem WI.spots {T : Told} (ok : TOk T) {a : Pl} {sps : List (Pl × List Fi)} {fs : List Fi} {n : Nat} (h : WI T a sps fs n) (hend : fs = [] ∨ nextK a + n = T.strands.length) : SpotsOk T a sps := by
  refine ⟨?_, h.reps⟩
  obtain ⟨r, hr⟩ : ∃ r, T.strands.length = nextK a + n + r := ⟨T.strands.length - (nextK a + n), by have := h.le; omega⟩
  obtain ⟨rest, h1, h2⟩ := pre_rest (T := T) n r (nextK a)
  refine ⟨rest, ?_, fun p hp e he hok => ?_⟩
  · rw [placesA_mid, h.pre, List.append_assoc]
    have : T.strands.length - nextK a = n + r := by omega
    rw [this, h1]
  · have hbad : ∀ e0 ∈ fullL T (nextK a) (restU T a) n, ¬ okU T.tall e0.2.1 := fun e0 h0 hok0 => by
      rcases hend with rfl | hend
      · obtain ⟨f, hf, _⟩ := h.cur.cmp e0 h0 hok0
        cases hf
      · have : r = 0 := by omega
        subst this
        have h1 : placesK T (nextK a) n = placesK T (nextK a) n ++ rest := h1
        have := List.append_right_eq_self.mp h1.symm
        rw [this] at hp
        cases hp
    have step : ∀ j, ∀ e1 ∈ fullL T (nextK a) (restU T a) (n + j), ∀ vs : List UnitT, (∀ u ∈ vs, UB u) → ¬ okU T.tall (e1.2.1 ++ vs) := fun j e1 h1 vs hvs hok1 => by
      obtain ⟨e0, h0, ws, hws, hwu⟩ := fullL_pre h1
      rw [hws, List.append_assoc] at hok1
      refine hbad e0 h0 (okU_pre _ (fun u hu => ?_) hok1)
      rcases List.mem_append.mp hu with hu | hu
      · exact (unit_ub ok (hwu u hu)).toWU
      · exact (hvs u hu).toWU
    rcases h2 p hp with ⟨hle, hin⟩ | ⟨hle, hz1, hz2⟩
    · obtain ⟨_, v, hv, hl, hi0, hil⟩ := inner_mem hin
      obtain ⟨j, hj⟩ : ∃ j, p.1 = nextK a + (n + j) := ⟨p.1 - (nextK a + n), by omega⟩
      have hk : p.1 < T.strands.length := by
        apply Classical.byContradiction
        intro z
        unfold strand at hv
        rw [List.getElem?_eq_none (by omega)] at hv
        cases hv
      have ep : p = (nextK a + (n + j), v.2.1.length, p.2.2) := by
        rw [← hj, ← hl]
      rw [ep, entries_in ok (n + j) (by omega) (by rw [← hj]; exact hv) p.2.2 hi0] at he
      obtain ⟨e1, h1, rfl⟩ := List.mem_map.mp he
      exact step j e1 h1 _ (fun u hu => (var_ok ok hv).units u (List.mem_of_mem_take hu)) hok
    · obtain ⟨j, hj⟩ : ∃ j, p.1 = nextK a + (n + j) := ⟨p.1 - (nextK a + n), by omega⟩
      have ep : p = (nextK a + (n + j), 0, 0) := by
        rw [← hj, ← hz1]
        show p = (p.1, p.2.1, p.2.1)
        rw [hz1]
        have : p.2.2 = 0 := hz2
        obtain ⟨p1, p2, p3⟩ := p
        dsimp only at *
        rw [hz1, this]
      rw [ep, entries_at] at he
      exact step j e he [] (fun u hu => (nomatch hu)) (by rw [List.append_nil]; exact hok)
/-! the pages of the spots -/
theorem placesA_pl {T : Told} {a : Pl} (ha : IsPl T a) : ∀ p ∈ placesA T a, IsPl T p ∧ follows a p := by
  intro p hp
  have hk := nextK_le ha
  rw [placesA_mid] at hp
  rcases List.mem_append.mp hp with hp | hp
  · unfold midA at hp
    split at hp
    · cases hp
    · next hi =>
      obtain ⟨d, hd, rfl⟩ := List.mem_map.mp hp
      have hd := List.mem_range.mp hd
      rcases ha with h | ⟨h1, h2, v, hv, hl, hlt⟩
      · exact absurd h.2.2 hi
      · exact ⟨.inr ⟨h1, by show 0 < a.2.2 + d; omega, v, hv, hl, by show a.2.2 + d < a.2.1; omega⟩, .inr ⟨rfl, .inl ⟨h2, rfl, by show a.2.2 ≤ a.2.2 + d; omega⟩⟩⟩
  · refine ⟨placesK_pl (by omega) p hp, ?_⟩
    have h1 := placesK_mem hp
    unfold nextK at h1
    split at h1
    · next hi =>
      by_cases e : p.1 = a.1
      · exact .inr ⟨e, .inr hi⟩
      · exact .inl (by omega)
    · exact .inl (by omega)
theorem pages_rest {T : Told} (ok : TOk T) {a : Sx} {p : Pl} (h : ∀ e ∈ entries T a.pl p, ¬ okU T.tall e.2.1) : pagesP T a p = [] := by
  unfold pagesP
  refine List.flatMap_eq_nil_iff.mpr fun i _ => List.filterMap_eq_nil_iff.mpr fun j _ => ?_
  have : pageT T a (p.1, p.2.1, p.2.2, a.2.2.2.1 + i, a.2.2.2.2 + j) = none := no_page ok h
  rw [this]
  rfl
theorem pages_spots {T : Told} (ok : TOk T) {a : Sx} {sps : List (Pl × List Fi)} (h : SpotsOk T a.pl sps) : pagesT T a = sps.flatMap fun x => pagesP T a x.1 := by
  obtain ⟨rest, h1, h2⟩ := h.pre
  unfold pagesT
  rw [h1, List.flatMap_append, List.flatMap_map]
  have : rest.flatMap (pagesP T a) = [] := List.flatMap_eq_nil_iff.mpr fun p hp => pages_rest ok (h2 p hp)
  rw [this, List.append_nil]
end Tf
/-! the pages of a state: how many, which -/
namespace Tf
theorem numF_le {T : Told} (ok : TOk T) {a : Sx} (ha : IsSt T a) (p : Pl) : a.2.2.2.1 + numF T a p ≤ T.floats.length + 1 := by
  have hF := dueF_b (T := T) p.1
  have haf := ha.2.1
  have hfap := ok.fapB
  unfold numF
  dsimp only
  split <;> split <;> omega
theorem numS_le {T : Told} (ok : TOk T) {a : Sx} (ha : IsSt T a) {p : Pl} (hp : IsPl T p) : a.2.2.2.2 + numS T a p ≤ T.lines.length + 1 := by
  have hL := dueL_b ok hp
  have has := ha.2.2
  unfold numS
  split <;> omega
theorem IsSt.page {T : Told} (ok : TOk T) {a : Sx} (ha : IsSt T a) {p : Pl} (hp : IsPl T p) {i j : Nat} (hi : i < numF T a p) (hj : j < numS T a p) : IsSt T (p.1, p.2.1, p.2.2, a.2.2.2.1 + i, a.2.2.2.2 + j) := by
  have h1 := numF_le ok ha p
  have h2 := numS_le ok ha hp
  exact ⟨hp, by show a.2.2.2.1 + i ≤ _; omega, by show a.2.2.2.2 + j ≤ _; omega⟩
theorem can_of {T : Told} (ok : TOk T) {a : Sx} {p : Pl} {i j : Nat} (hi : i < numF T a p) (hj : j < numS T a p) (hne : ¬ a = (p.1, p.2.1, p.2.2, a.2.2.2.1 + i, a.2.2.2.2 + j)) : canFL T a (p.1, p.2.1, p.2.2, a.2.2.2.1 + i, a.2.2.2.2 + j) := by
  have hfap := ok.fapB
  unfold numF at hi
  dsimp only at hi
  unfold numS at hj
  refine ⟨Nat.le_add_right _ _, Nat.le_add_right _ _, hne, ?_, fun h => ?_, fun h => ?_⟩
  · show ((a.2.2.2.1 + i - a.2.2.2.1 : Nat) : Int) ≤ T.fap
    split at hi <;> split at hi <;> omega
  · show a.2.2.2.1 + i ≤ dueF T p.1
    have h : a.2.2.2.1 < a.2.2.2.1 + i := h
    split at hi <;> split at hi <;> omega
  · show ((a.2.2.2.2 + j : Nat) : Int) ≤ dueL T p
    have h : a.2.2.2.2 < a.2.2.2.2 + j := h
    split at hj <;> omega
theorem best_is {T : Told} (ok : TOk T) {a : Sx} {p : Pl} {i j : Nat} {fs : List Fi} (h : Reps T.tall fs (entries T a.pl p)) (hf : follows a.pl p) (hi : i < numF T a p) (hj : j < numS T a p) {b : Sx} (hb : b = (p.1, p.2.1, p.2.2, a.2.2.2.1 + i, a.2.2.2.2 + j)) :
    (if a = b then none else (minOpt (fs.filterMap (pairF T.tall (otherL T a b) (looseB T b)))).map fun x => (x.1 + endC T a b, x.2)) = pageT T a b := by
  by_cases e : a = b
  · rw [if_pos e]
    exact (page_can fun z => z.2.2.1 e).symm
  · rw [if_neg e]
    subst hb
    exact best_page h hf (can_of ok hi hj e) (otherL_nonneg ok _ _)
theorem entries_few {T : Told} (ok : TOk T) {a b : Pl} (ha : IsPl T a) (hb : b.1 ≤ T.strands.length) (hf : nextK a ≤ b.1 ∨ (b.1 = a.1 ∧ 0 < a.2.2)) : (entries T a b).length ≤ 30 := by
  unfold entries
  split
  · exact Nat.le_of_lt (by show 1 < 30; decide)
  · next hn =>
    have hk : nextK a ≤ b.1 := hf.resolve_right hn
    split
    · exact fullL_few ok (by omega)
    · cases vari T b.1 b.2.1 with
      | none => exact Nat.zero_le _
      | some v =>
        show (extV _ v b.2.2).length ≤ 30
        unfold extV
        rw [List.length_map]
        exact fullL_few ok (by omega)
theorem follows_next {a b : Pl} (h : follows a b) : nextK a ≤ b.1 ∨ (b.1 = a.1 ∧ 0 < a.2.2) := by
  unfold nextK
  rcases h with h | ⟨h1, h2⟩
  · left
    split <;> omega
  · by_cases hi : a.2.2 = 0
    · left
      rw [if_pos hi]
      omega
    · exact .inr ⟨h1, by omega⟩
theorem IsPl.le {T : Told} {p : Pl} (h : IsPl T p) : p.1 ≤ T.strands.length := by
  rcases h with h | h
  · exact h.1
  · exact Nat.le_of_lt h.1
theorem reps_few {T : Told} (ok : TOk T) {a p : Pl} {fs : List Fi} (h : Reps T.tall fs (entries T a p)) (ha : IsPl T a) (hp : IsPl T p) (hf : follows a p) : fs.length ≤ 1000 := by
  have := h.len
  have := entries_few ok ha hp.le (follows_next hf)
  omega
theorem reps_glue {T : Told} (ok : TOk T) {a p : Pl} {fs : List Fi} (h : Reps T.tall fs (entries T a p)) (hp : IsPl T p) : ∀ f ∈ fs, ∀ g, f.1 = some g → 0 ≤ g.1 ∧ g.1 < 2 ^ 61 + 2 ^ 60 ∧ 0 ≤ g.2.1 ∧ g.2.1 < 2 ^ 61 + 2 ^ 60 ∧ 0 ≤ g.2.2 ∧ g.2.2 < 2 ^ 61 + 2 ^ 60 := by
  intro f hf g hg
  obtain ⟨us, h1, h2, _⟩ := h.snd f hf
  have hu := entries_ok ok hp.le h1
  rw [h2] at hg
  have k := glue_ok us hu.ub g hg
  have hl : us.length ≤ 1100 := hu.len
  have h0 := k.a0
  have h1 := k.a1
  have h2 := k.b0
  have h3 := k.b1
  have h4 := k.c0
  have h5 := k.c1
  refine ⟨h0, ?_, h2, ?_, h4, ?_⟩ <;> omega
theorem flat_len {α β : Type} {f : α → List β} {c : Nat} : ∀ (l : List α), (∀ x ∈ l, (f x).length ≤ c) → (l.flatMap f).length ≤ c * l.length
  | [], _ => Nat.zero_le _
  | x :: l, h => by
    rw [List.flatMap_cons, List.length_append, List.length_cons, Nat.mul_succ]
    have := h x List.mem_cons_self
    have := flat_len l fun y hy => h y (List.mem_cons_of_mem _ hy)
    omega
theorem pagesP_len {T : Told} (ok : TOk T) {a : Sx} (ha : IsSt T a) {p : Pl} (hp : IsPl T p) : (pagesP T a p).length ≤ 55 := by
  have h1 := numF_le ok ha p
  have h2 := numS_le ok ha hp
  have h3 := ok.fewF
  have h4 := ok.fewL
  unfold pagesP
  refine Nat.le_trans (flat_len (c := 11) _ fun i _ => Nat.le_trans (List.length_filterMap_le _ _) ?_) ?_
  · rw [List.length_range]
    omega
  · rw [List.length_range]
    omega
theorem inner_len {T : Told} (ok : TOk T) {k : Nat} (hk : k < T.strands.length) : (inner T k).length ≤ 24 := by
  have S := ok.strands _ (strand_mem hk)
  unfold inner
  refine Nat.le_trans (flat_len (c := 8) _ fun v hv => ?_) ?_
  · rw [List.length_map, List.length_range]
    have := (S.vars v hv).few
    omega
  · have := S.few
    omega
theorem placesK_len {T : Told} (ok : TOk T) : ∀ {n k : Nat}, k + n ≤ T.strands.length → (placesK T k n).length ≤ 1 + 25 * n
  | 0, _, _ => Nat.le_refl _
  | n + 1, k, h => by
    show ((k, 0, 0) :: inner T k ++ placesK T (k + 1) n).length ≤ _
    rw [List.length_append, List.length_cons]
    have := inner_len ok (k := k) (by omega)
    have := placesK_len ok (n := n) (k := k + 1) (by omega)
    omega
theorem placesA_len {T : Told} (ok : TOk T) {a : Pl} (ha : IsPl T a) : (placesA T a).length ≤ 3200 := by
  have hm := ok.many
  have hk := nextK_le ha
  rw [placesA_mid, List.length_append]
  have h1 := placesK_len ok (n := T.strands.length - nextK a) (k := nextK a) (by omega)
  have h2 : (midA a).length ≤ 8 := by
    unfold midA
    split
    · exact Nat.zero_le _
    · next hi =>
      obtain ⟨v, _, hm, V, hl, _, _⟩ := ha.var ok (by omega)
      rw [List.length_map, List.length_range]
      have := V.few
      omega
  omega
theorem SpotsOk.len {T : Told} (ok : TOk T) {a : Pl} (ha : IsPl T a) {sp : List (Pl × List Fi)} (h : SpotsOk T a sp) : sp.length ≤ 3200 := by
  obtain ⟨rest, h1, _⟩ := h.pre
  have := placesA_len ok ha
  rw [h1, List.length_append, List.length_map] at this
  omega
theorem SpotsOk.pl {T : Told} {a : Pl} (ha : IsPl T a) {sp : List (Pl × List Fi)} (h : SpotsOk T a sp) : ∀ x ∈ sp, IsPl T x.1 ∧ follows a x.1 := fun x hx => by
  obtain ⟨rest, h1, _⟩ := h.pre
  refine placesA_pl ha x.1 ?_
  rw [h1]
  exact List.mem_append_left _ (List.mem_map_of_mem hx)
theorem pagesP_mem {T : Told} {a : Sx} {p : Pl} {y : Pg} (h : y ∈ pagesP T a p) : pageT T a y.2.2 = some (y.1, y.2.1) := by
  obtain ⟨i, hi, h⟩ := List.mem_flatMap.mp h
  obtain ⟨j, hj, e⟩ := List.mem_filterMap.mp h
  cases e2 : pageT T a (p.1, p.2.1, p.2.2, a.2.2.2.1 + i, a.2.2.2.2 + j) with
  | none =>
    rw [e2] at e
    cases e
  | some x =>
    rw [e2] at e
    cases e
    exact e2
theorem pagesT_mem {T : Told} {a : Sx} {y : Pg} (h : y ∈ pagesT T a) : pageT T a y.2.2 = some (y.1, y.2.1) := by
  obtain ⟨p, _, h⟩ := List.mem_flatMap.mp h
  exact pagesP_mem h
theorem pagesT_len {T : Told} (ok : TOk T) {a : Sx} (ha : IsSt T a) : (pagesT T a).length ≤ 55 * 3200 := by
  unfold pagesT
  refine Nat.le_trans (flat_len (c := 55) _ fun p hp => pagesP_len ok ha (placesA_pl ha.1 p hp).1) ?_
  have := placesA_len ok ha.1
  omega
theorem places_mem {T : Told} {p : Pl} (h : IsPl T p) : p ∈ places T := by
  unfold places placesUpTo
  rcases h with ⟨hk, h1, h2⟩ | ⟨hk, h1, v, hv, h2, h3⟩
  · by_cases e : p.1 = T.strands.length
    · refine List.mem_append_right _ ?_
      rw [List.mem_singleton]
      obtain ⟨p1, p2, p3⟩ := p
      dsimp only at *
      rw [e, h1, h2]
    · refine List.mem_append_left _ (List.mem_flatMap.mpr ⟨p.1, List.mem_range.mpr (by omega), ?_⟩)
      refine List.mem_cons.mpr (.inl ?_)
      obtain ⟨p1, p2, p3⟩ := p
      dsimp only at *
      rw [h1, h2]
  · refine List.mem_append_left _ (List.mem_flatMap.mpr ⟨p.1, List.mem_range.mpr hk, List.mem_cons_of_mem _ ?_⟩)
    refine List.mem_flatMap.mpr ⟨v, hv, List.mem_map.mpr ⟨p.2.2 - 1, List.mem_range.mpr (by omega), ?_⟩⟩
    obtain ⟨p1, p2, p3⟩ := p
    dsimp only at *
    rw [h2, Nat.sub_add_cancel h1]
theorem states_mem {T : Told} {b : Sx} (h : IsSt T b) : b ∈ states T := by
  obtain ⟨h1, h2, h3⟩ := h
  refine List.mem_flatMap.mpr ⟨b.pl, places_mem h1, List.mem_flatMap.mpr ⟨b.2.2.2.1, List.mem_range.mpr (by omega), List.mem_map.mpr ⟨b.2.2.2.2, List.mem_range.mpr (by omega), rfl⟩⟩⟩
theorem pages_none {T : Told} (ok : TOk T) {a b : Sx} (ha : IsSt T a) (hb : IsSt T b) (h : ∀ y ∈ pagesT T a, ¬ y.2.2 = b) : pageT T a b = none := by
  cases e : pageT T a b with
  | none => rfl
  | some x =>
    exfalso
    have hl : (x.1, b) ∈ lawSteps T a := List.mem_filterMap.mpr ⟨b, states_mem hb, by rw [e]; rfl⟩
    rw [← steps_law ok ha] at hl
    obtain ⟨y, hy, e⟩ := List.mem_map.mp hl
    refine h y hy ?_
    exact congrArg Prod.snd e
end Tf
/-! the law's drawn tasks -/
namespace Tf
open PySem PySem.Spec PyProof.Rows L2
structure UD (u : UnitT) : Prop where
  h0 : 0 ≤ u.1
  h1 : u.1 < 1000
  a0 : 0 ≤ u.2.1.1
  a1 : u.2.1.1 < 1000
  b0 : 0 ≤ u.2.1.2.1
  b1 : u.2.1.2.1 < 1000
  c0 : 0 ≤ u.2.1.2.2
  c1 : u.2.1.2.2 ≤ u.2.1.1
  d0 : -1 ≤ u.2.2
  d1 : u.2.2 ≤ 30000
structure VD (v : VarT) : Prop where
  len : v.2.2.length = v.2.1.length
  pos : 0 < v.2.1.length
  few : v.2.1.length ≤ 8
  units : ∀ u ∈ v.2.1, UD u
  notes : ∀ x ∈ v.2.2, 0 ≤ x
structure SD (many : Int) (s : StrT) : Prop where
  ne : s ≠ []
  few : s.length ≤ 3
  vars : ∀ v ∈ s, VD v
  asc : (s.map fun v => v.2.1.length).Pairwise (· < ·)
  notes : ∀ v ∈ s, v.2.2.sum = many
  first : ∃ c : Int, ∀ v ∈ s, (v.2.1[0]?).map (·.2.2) = some c
structure TD (T : Told) : Prop where
  strands : ∀ s ∈ T.strands, ∃ many, SD many s
  many : T.strands.length ≤ 126
  fills : manyF T.strands ≤ 30
  lines : aheadL T T.strands.length = (T.lines.length : Int)
  fewL : T.lines.length ≤ 10
  fewF : T.floats.length ≤ 4
  floatB : ∀ f ∈ T.floats, 0 ≤ f.1 ∧ f.1 < 1000
  lineB : ∀ l ∈ T.lines, 0 ≤ l.1 ∧ l.1 < 1000
  tallB : 0 ≤ T.tall ∧ T.tall < 1000
  fapB : 0 ≤ T.fap ∧ T.fap ≤ 2
  ruleB : 0 ≤ T.rule ∧ T.rule < 1000
  gapB : 0 ≤ T.fgap ∧ T.fgap < 1000
theorem SD.notesOf {many : Int} {s : StrT} (h : SD many s) : Tf.notesOf s = many := by
  obtain ⟨v, r, e⟩ := List.exists_cons_of_ne_nil h.ne
  have : v ∈ s := by rw [e]; exact List.mem_cons_self
  rw [← h.notes v this, e]
  rfl
theorem SD.ok {many : Int} {s : StrT} (h : SD many s) : SOk s where
  ne := h.ne
  few := h.few
  vars := fun v hv => by
    have V := h.vars v hv
    exact ⟨V.len, V.pos, V.few, fun u hu => by
      have U := V.units u hu
      exact ⟨⟨U.h0, U.a0, U.b0, U.c0, U.c1⟩, by have := U.h1; omega, by have := U.a1; omega, by have := U.b1; omega, U.d0, by have := U.d1; omega⟩, V.notes⟩
  asc := h.asc
  notes := fun v hv => (h.notes v hv).trans h.notesOf.symm
  first := fun v hv w hw => by
    obtain ⟨c, hc⟩ := h.first
    rw [hc v hv, hc w hw]
theorem TD.ok {T : Told} (h : TD T) : TOk T where
  strands := fun s hs => (h.strands s hs).choose_spec.ok
  many := h.many
  fills := h.fills
  lines := h.lines
  fewL := h.fewL
  fewF := h.fewF
  floatB := fun f hf => by have := h.floatB f hf; omega
  lineB := fun f hf => by have := h.lineB f hf; omega
  tallB := by have := h.tallB; omega
  fapB := h.fapB
  ruleB := by have := h.ruleB; omega
  gapB := by have := h.gapB; omega
/-! greater -/
def grU (b : Int) (u : UnitT) : UnitT := (u.1 * b, (u.2.1.1 * b, u.2.1.2.1 * b, u.2.1.2.2 * b), if u.2.2 = -1 then -1 else u.2.2 * b)
def grV (b : Int) (v : VarT) : VarT := (v.1 * b, v.2.1.map (grU b), v.2.2)
def grS (b : Int) (s : StrT) : StrT := s.map (grV b)
def grT (b : Int) (T : Told) : Told := ⟨T.strands.map (grS b), T.floats.map fun f => (f.1 * b, f.2), T.lines.map fun l => (l.1 * b, l.2), T.tall * b, T.fap, T.rule * b, T.fgap * b⟩
theorem UD.gr {u : UnitT} (h : UD u) : UB (grU 1000000000000 u) := by
  obtain ⟨h0, h1, a0, a1, b0, b1, c0, c1, d0, d1⟩ := h
  have hc : -1 ≤ (if u.2.2 = -1 then -1 else u.2.2 * 1000000000000) ∧ (if u.2.2 = -1 then -1 else u.2.2 * 1000000000000) < 2 ^ 60 := by
    split <;> omega
  refine ⟨⟨?_, ?_, ?_, ?_, ?_⟩, ?_, ?_, ?_, hc.1, hc.2⟩ <;> (unfold grU; dsimp only; omega)
theorem gr_notesOf {b : Int} {s : StrT} : notesOf (grS b s) = notesOf s := by
  unfold notesOf grS
  rw [List.getElem?_map]
  cases s[0]? <;> rfl
theorem SD.gr {many : Int} {s : StrT} (h : SD many s) : SOk (grS 1000000000000 s) where
  ne := fun e => h.ne (List.map_eq_nil_iff.mp e)
  few := by
    unfold grS
    rw [List.length_map]
    exact h.few
  vars := fun v hv => by
    obtain ⟨w, hw, rfl⟩ := List.mem_map.mp hv
    have V := h.vars w hw
    refine ⟨?_, ?_, ?_, fun u hu => ?_, V.notes⟩
    · unfold grV
      rw [List.length_map]
      exact V.len
    · unfold grV
      rw [List.length_map]
      exact V.pos
    · unfold grV
      rw [List.length_map]
      exact V.few
    · obtain ⟨y, hy, rfl⟩ := List.mem_map.mp hu
      exact (V.units y hy).gr
  asc := by
    unfold grS
    rw [List.map_map]
    have : ((fun v : VarT => v.2.1.length) ∘ grV 1000000000000) = fun v : VarT => v.2.1.length := by
      funext v
      show (v.2.1.map _).length = _
      rw [List.length_map]
    rw [this]
    exact h.asc
  notes := fun v hv => by
    obtain ⟨w, hw, rfl⟩ := List.mem_map.mp hv
    rw [gr_notesOf, h.notesOf]
    exact h.notes w hw
  first := fun v hv w hw => by
    obtain ⟨c, hc⟩ := h.first
    have : ∀ x ∈ grS 1000000000000 s, (x.2.1[0]?).map (·.2.2) = some (if c = -1 then -1 else c * 1000000000000) := fun x hx => by
      obtain ⟨y, hy, rfl⟩ := List.mem_map.mp hx
      have e := hc y hy
      show ((y.2.1.map _)[0]?).map _ = _
      rw [List.getElem?_map]
      cases e2 : y.2.1[0]? with
      | none =>
        rw [e2] at e
        cases e
      | some u =>
        rw [e2] at e
        cases e
        rfl
    rw [this v hv, this w hw]
theorem gr_aheadL {b : Int} {T : Told} {k : Nat} : aheadL (grT b T) k = aheadL T k := by
  unfold aheadL grT
  dsimp only
  rw [← List.map_take, List.map_map]
  congr 1
  exact List.map_congr_left fun s _ => gr_notesOf
theorem TD.gr {T : Told} (h : TD T) : TOk (grT 1000000000000 T) where
  strands := fun s hs => by
    obtain ⟨y, hy, rfl⟩ := List.mem_map.mp hs
    exact (h.strands y hy).choose_spec.gr
  many := by
    unfold grT
    dsimp only
    rw [List.length_map]
    exact h.many
  fills := by
    have : manyF (grT 1000000000000 T).strands = manyF T.strands := by
      unfold manyF grT
      dsimp only
      rw [List.map_map]
      have : (List.length ∘ grS 1000000000000) = (List.length : StrT → Nat) := by
        funext s
        show (s.map _).length = _
        rw [List.length_map]
      rw [this]
    rw [this]
    exact h.fills
  lines := by
    rw [gr_aheadL]
    unfold grT
    dsimp only
    rw [List.length_map, List.length_map]
    exact h.lines
  fewL := by
    unfold grT
    dsimp only
    rw [List.length_map]
    exact h.fewL
  fewF := by
    unfold grT
    dsimp only
    rw [List.length_map]
    exact h.fewF
  floatB := fun f hf => by
    obtain ⟨y, hy, rfl⟩ := List.mem_map.mp hf
    have := h.floatB y hy
    show 0 ≤ y.1 * _ ∧ y.1 * _ < _
    omega
  lineB := fun f hf => by
    obtain ⟨y, hy, rfl⟩ := List.mem_map.mp hf
    have := h.lineB y hy
    show 0 ≤ y.1 * _ ∧ y.1 * _ < _
    omega
  tallB := by
    have := h.tallB
    show 0 ≤ T.tall * _ ∧ T.tall * _ < _
    omega
  fapB := h.fapB
  ruleB := by
    have := h.ruleB
    show 0 ≤ T.rule * _ ∧ T.rule * _ < _
    omega
  gapB := by
    have := h.gapB
    show 0 ≤ T.fgap * _ ∧ T.fgap * _ < _
    omega
/-! drawing: small facts -/
theorem manyF_snoc (ss : List StrT) (s : StrT) : manyF (ss ++ [s]) = manyF ss * s.length := by
  unfold manyF
  rw [List.map_append]
  exact prodN_snoc _ _
theorem manyF_three : ∀ {ss : List StrT}, (∀ s ∈ ss, s.length ≤ 3) → manyF ss ≤ 3 ^ ss.length
  | [], _ => Nat.le_refl _
  | s :: ss, h => by
    have h1 := h s List.mem_cons_self
    have h2 := manyF_three (ss := ss) fun x hx => h x (List.mem_cons_of_mem _ hx)
    show s.length * manyF ss ≤ 3 ^ (ss.length + 1)
    rw [Nat.pow_succ, Nat.mul_comm]
    exact Nat.mul_le_mul h2 h1
theorem sum_set : ∀ {l : List Int} {i : Nat} {x y : Int}, l[i]? = some x → (l.set i y).sum = l.sum - x + y
  | [], _, _, _, h => by cases h
  | z :: l, 0, x, y, h => by
    cases h
    show (y :: l).sum = (z :: l).sum - z + y
    rw [List.sum_cons, List.sum_cons]
    omega
  | z :: l, i + 1, x, y, h => by
    show (z :: l.set i y).sum = (z :: l).sum - x + y
    have h : l[i]? = some x := h
    rw [List.sum_cons, List.sum_cons, sum_set h]
    omega
/-- a strand that is being drawn: size is the number of units of the next variant -/
structure SI (c many : Int) (i : Nat) (size : Nat) (s : StrT) : Prop where
  len : s.length = i
  vars : ∀ v ∈ s, VD v ∧ v.2.2.sum = many ∧ (v.2.1[0]?).map (·.2.2) = some c ∧ v.2.1.length < size
  asc : (s.map fun v => v.2.1.length).Pairwise (· < ·)
  lo : 1 ≤ size
  hi : size ≤ 2 + 2 * i
theorem SI.start {c many : Int} {size : Nat} (h1 : 1 ≤ size) (h2 : size ≤ 2) : SI c many 0 size [] := ⟨rfl, fun v hv => (nomatch hv), .nil, h1, h2⟩
theorem SI.next {c many : Int} {i size size' : Nat} {s : StrT} {v : VarT} (h : SI c many i size s) (hv : VD v) (h1 : v.2.2.sum = many) (h2 : (v.2.1[0]?).map (·.2.2) = some c) (h3 : v.2.1.length = size) (h4 : size < size') (h5 : size' ≤ size + 2) : SI c many (i + 1) size' (s ++ [v]) where
  len := by
    rw [List.length_append, h.len]
    rfl
  vars := fun w hw => by
    rcases List.mem_append.mp hw with hw | hw
    · obtain ⟨a, b, c, d⟩ := h.vars w hw
      exact ⟨a, b, c, by omega⟩
    · rw [List.mem_singleton.mp hw]
      exact ⟨hv, h1, h2, by omega⟩
  asc := by
    rw [List.map_append, List.pairwise_append]
    refine ⟨h.asc, List.pairwise_singleton .., fun a ha b hb => ?_⟩
    obtain ⟨w, hw, rfl⟩ := List.mem_map.mp ha
    rw [List.mem_singleton.mp hb]
    show w.2.1.length < v.2.1.length
    rw [h3]
    exact (h.vars w hw).2.2.2
  lo := by have := h.lo; omega
  hi := by have := h.hi; omega
theorem SI.done {c many : Int} {i size : Nat} {s : StrT} (h : SI c many i size s) (h1 : 0 < i) (h2 : i ≤ 3) : SD many s :=
  ⟨List.length_pos_iff.mp (by have := h.len; omega), by have := h.len; omega, fun v hv => (h.vars v hv).1, h.asc, fun v hv => (h.vars v hv).2.1, c, fun v hv => (h.vars v hv).2.2.1⟩
/-! the law's list of what is told -/
def rLT : Rp Told := fun F T v => ∃ a s f l, v = .ref a ∧ F a = some (.lst [s, f, l, .int T.tall, .int T.fap, .int T.rule, .int T.fgap]) ∧ rStrands F T.strands s ∧ rFloats F T.floats f ∧ rLines F T.lines l
instance : MonoS rLT := ⟨fun z ⟨a, s, f, l, e, h, h1, h2, h3⟩ => ⟨a, s, f, l, e, z _ _ h, up z h1, up z h2, up z h3⟩⟩
section
variable {K : PySem.W.Frag} {H F : Hp} {m : Mem} {Q : VK} {v : V} {T : Told}
theorem x_lt0 (O : Own H F m) (h : rLT F T v) (k : ∀ w, rStrands F T.strands w → Q w H) : rIxL K v (.int 0) H Q := by
  obtain ⟨a, s, f, l, rfl, h, h1, h2, h3⟩ := h
  exact x_ixF (j := 0) O h rfl rfl (k _ h1)
theorem x_lt1 (O : Own H F m) (h : rLT F T v) (k : ∀ w, rFloats F T.floats w → Q w H) : rIxL K v (.int 1) H Q := by
  obtain ⟨a, s, f, l, rfl, h, h1, h2, h3⟩ := h
  exact x_ixF (j := 1) O h rfl rfl (k _ h2)
theorem x_lt2 (O : Own H F m) (h : rLT F T v) (k : ∀ w, rLines F T.lines w → Q w H) : rIxL K v (.int 2) H Q := by
  obtain ⟨a, s, f, l, rfl, h, h1, h2, h3⟩ := h
  exact x_ixF (j := 2) O h rfl rfl (k _ h3)
theorem x_lt3 (O : Own H F m) (h : rLT F T v) (k : Q (.int T.tall) H) : rIxL K v (.int 3) H Q := by
  obtain ⟨a, s, f, l, rfl, h, h1, h2, h3⟩ := h
  exact x_ixF (j := 3) O h rfl rfl k
theorem x_lt4 (O : Own H F m) (h : rLT F T v) (k : Q (.int T.fap) H) : rIxL K v (.int 4) H Q := by
  obtain ⟨a, s, f, l, rfl, h, h1, h2, h3⟩ := h
  exact x_ixF (j := 4) O h rfl rfl k
theorem x_lt5 (O : Own H F m) (h : rLT F T v) (k : Q (.int T.rule) H) : rIxL K v (.int 5) H Q := by
  obtain ⟨a, s, f, l, rfl, h, h1, h2, h3⟩ := h
  exact x_ixF (j := 5) O h rfl rfl k
theorem x_lt6 (O : Own H F m) (h : rLT F T v) (k : Q (.int T.fgap) H) : rIxL K v (.int 6) H Q := by
  obtain ⟨a, s, f, l, rfl, h, h1, h2, h3⟩ := h
  exact x_ixF (j := 6) O h rfl rfl k
theorem inV_ints {z : Int} : ∀ {ns : List Int}, inV (.int z) (ns.map V.int) = decide (z ∈ ns)
  | [] => rfl
  | n :: ns => by
    show ((n == z) || inV (.int z) (ns.map V.int)) = _
    rw [inV_ints]
    by_cases e : n = z
    · rw [e, beq_self_eq_true, Bool.true_or]
      exact (decide_eq_true List.mem_cons_self).symm
    · have : (n == z) = false := by simpa using e
      rw [this, Bool.false_or]
      refine dec_iff ⟨fun h => List.mem_cons_of_mem _ h, fun h => ?_⟩
      rcases List.mem_cons.mp h with h | h
      · exact absurd h.symm e
      · exact h
theorem flat_ints : ∀ {ns : List Int}, (ns.map V.int).all flatV = true
  | [] => rfl
  | _ :: ns => flat_ints (ns := ns)
theorem x_inL {z : Int} {ns : List Int} (O : Own H F m) (h : rList rInt F ns v) (k : Q (.bl (decide (z ∈ ns))) H) : rIn K false (.int z) v H Q := by
  obtain ⟨a, vs, rfl, ha, r⟩ := h
  have e := ints_of r
  subst e
  refine ⟨a, _, rfl, .inl (.inl (.inl (O.frz ha))), rfl, flat_ints, ?_⟩
  rw [inV_ints]
  exact k
theorem x_inT {z : Int} {ns : List Int} (O : Own H F m) (h : rTup rInt F ns v) (k : Q (.bl (decide (z ∈ ns))) H) : rIn K false (.int z) v H Q := by
  obtain ⟨a, vs, rfl, ha, r⟩ := h
  have e := ints_of r
  subst e
  refine ⟨a, _, rfl, .inr (.inl (.inl (O.frz ha))), rfl, flat_ints, ?_⟩
  rw [inV_ints]
  exact k
end
/-- what units are alike: their height and gap -/
def rAl : Rp (Option (Int × Int × Int × Int)) := fun F al v => ∃ a, v = .ref a ∧ match al with
  | none => F a = some (.lst [])
  | some (h, g) => ∃ gv, F a = some (.lst [.int h, gv]) ∧ rTri rInt rInt rInt F g gv
instance : MonoS rAl := ⟨fun {_ _ al v} z h => by
  obtain ⟨a, e, h⟩ := h
  refine ⟨a, e, ?_⟩
  cases al with
  | none => exact z _ _ h
  | some x =>
    obtain ⟨gv, h1, h2⟩ := h
    exact ⟨gv, z _ _ h1, up z h2⟩⟩
def AlOk : Option (Int × Int × Int × Int) → Prop
  | none => True
  | some (h, g) => UD (h, g, 0)
/-! promises -/
def spCut : Sp := fun vs H Q _ => ∃ p o many parts F m, vs = [.ref p, .int ((many : Nat) : Int), .int ((parts : Nat) : Int)] ∧ Own H F ((p, o) :: m) ∧ PoolOk F o ∧ 0 < parts ∧ parts ≤ 1000 ∧ many ≤ 1000 ∧
  ∀ r H' F' o' xs, Same F F' → Own H' F' ((p, o') :: m) → PoolOk F' o' → rTup rInt F' xs r → xs.length = parts → (∀ x ∈ xs, 0 ≤ x) → xs.sum = (many : Int) → Q r H'
def spStrand : Sp := fun vs H Q _ => ∃ p o tall many av al F m, vs = [.ref p, .int tall, .int ((many : Nat) : Int), av] ∧ Own H F ((p, o) :: m) ∧ PoolOk F o ∧ 5 ≤ tall ∧ tall ≤ 100 ∧ many ≤ 2 ∧ rAl F al av ∧ AlOk al ∧
  ∀ r H' F' o' s, Same F F' → Own H' F' ((p, o') :: m) → PoolOk F' o' → rStrand F' s r → SD many s → Q r H'
def spToldP : Sp := fun vs H Q _ => ∃ p o a b F m, vs = [.ref p, .int a, .int b] ∧ Own H F ((p, o) :: m) ∧ PoolOk F o ∧ 0 ≤ a ∧ a ≤ 3 ∧ 0 ≤ b ∧ b ≤ 3 ∧
  ∀ r H' F' o' T, Same F F' → Own H' F' ((p, o') :: m) → PoolOk F' o' → rLT F' T r → TD T → Q r H'
def spManyS : Sp := fun vs H Q _ => ∃ p o F m, vs = [.ref p] ∧ Own H F ((p, o) :: m) ∧ PoolOk F o ∧ ∀ r H' F' o' T, Same F F' → Own H' F' ((p, o') :: m) → PoolOk F' o' → rLT F' T r → TD T → Q r H'
def spGreat : Sp := fun vs H Q _ => ∃ v b T F m, vs = [v, .int b] ∧ b = 1000000000000 ∧ Own H F m ∧ rLT F T v ∧ TD T ∧ ∀ r H' F', Same F F' → Own H' F' m → rLT F' (grT b T) r → Q r H'
end Tf
/-! the law's readings of a told task -/
namespace Tf
open PySem PySem.Spec PyProof.Rows L2
def CR2 (g : TG) (tt : TT) (te : TE) (vs : List Nat) (σ : L2.St) (Q : VK) : List V → Hp → Prop := fun us H1 => ∃ i j : Int, us = [.int i, .int j] ∧ (-(2 ^ 62) ≤ i ∧ i < 2 ^ 62 ∧ -(2 ^ 62) ≤ j ∧ j < 2 ^ 62) ∧ LcW (Itr i (j - i).toNat) g tt te vs σ Q H1
section
variable {K : PySem.W.Frag} {σ : L2.St} {H F : Hp} {m : Mem} {g : TG} {tt : TT} {te : TE} {vs : List Nat} {v w : V} {tl : TE} {ta : TA} {α β : Type} {R : Rp α} {S : Rp β} {xs : List α} {Q : VK}
theorem x_lcR2 (k : ta σ H (CR2 g tt te vs σ Q)) : tLc (iRng2 ta) g tt te vs σ H Q := k
theorem x_docR2 [MonoS S] {lo z : Int} {n : Nat} (O : Own H F m) (hz : (z - lo).toNat = n) (hb : -(2 ^ 62) ≤ lo ∧ lo < 2 ^ 62 ∧ -(2 ^ 62) ≤ z ∧ z < 2 ^ 62) (P : Nat → Hp → Mem → List β → Prop) (h0 : P 0 F m [])
    (hs : ∀ D acc i H' F' m' ys, i < n → Same F F' → Own H' F' ((D, .lst acc) :: m') → All2 (S F') ys acc → ys.length ≤ i → P i F' m' ys →
      g (.int (lo + (i : Int))) (wipe σ vs) H' fun σ2 H2 => wipe σ2 vs = wipe σ vs ∧ tt σ2 H2 fun b H3 => if b = true then te σ2 H3 fun y H4 => ∃ acc, H4 D = some (.lst acc) ∧ acc.length < sizeLine ∧ LcP S P F D (i + 1) (upd H4 D (.lst (acc ++ [y]))) else LcP S P F D (i + 1) H3)
    (hd : ∀ v' H' F' m' ys, Same F F' → Own H' F' m' → rList S F' ys v' → P n F' m' ys → Q v' H') (hP : ∀ F1 F2 m1 ys i, Same F1 F2 → P i F1 m1 ys → P i F2 m1 ys := by exact fun _ _ _ _ _ _ h => h) : CR2 g tt te vs σ Q [.int lo, .int z] H := by
  subst hz
  refine ⟨lo, z, rfl, hb, fun D hD => lc_range (LcP S P F D) ⟨F, m, [], [], Same.refl F, O.own hD, .nil, Nat.zero_le _, h0⟩ (fun i H' hi ⟨F', m', acc, ys, s, O', hy, hl, p⟩ => hs D acc i H' F' m' ys hi s O' hy hl p) fun H' ⟨F', m', acc, ys, s, O', hy, hl, p⟩ => ?_⟩
  have s2 := O'.freeze_same
  exact hd (.ref D) H' (upd F' D (.lst acc)) m' ys (s.trans s2) O'.freeze ⟨D, acc, rfl, upd_same, all2_up s2 hy⟩ (hP _ _ _ _ _ s2 p)
/-- a list of ours + a list: a new list of ours -/
theorem x_catO [MonoS R] {a : Addr} {us : List V} (O : Own H F ((a, .lst us) :: m)) (h2 : rList R F xs w) (hl : us.length + xs.length ≤ 16777216) (k : ∀ p H' zs, Own H' F ((p, .lst (us ++ zs)) :: m) → All2 (R F) xs zs → Q (.ref p) H') : rCat (.ref a) w H Q := by
  obtain ⟨b, zs, rfl, hb, r⟩ := h2
  exact ⟨a, b, us, zs, rfl, rfl, O.at0, O.frz hb, by rw [← r.length, sizeLine_eq]; exact hl, fun p hp => k p _ zs ((O.own hp).less (List.Sublist.cons₂ _ (List.sublist_cons_self _ _))) r⟩
end
theorem find_first {α : Type} {p : α → Bool} {x : α} : ∀ {l : List α}, l.find? p = some x → (l.filter p)[0]? = some x
  | [], h => by cases h
  | y :: l, h => by
    rw [List.find?_cons] at h
    rw [List.filter_cons]
    cases e : p y with
    | true =>
      rw [e] at h
      rw [if_pos rfl]
      exact h
    | false =>
      rw [e] at h
      rw [if_neg (by simp)]
      exact find_first h
theorem strand_few {T : Told} (ok : TOk T) (k : Nat) : (strand T k).length ≤ 3 := by
  by_cases hk : k < T.strands.length
  · exact (ok.strands _ (strand_mem hk)).few
  · unfold strand
    rw [List.getElem?_eq_none (by omega)]
    exact Nat.zero_le _
/-! promises -/
def spLVar : Sp := fun vs H Q _ => ∃ v T k j x F m, vs = [v, .int ((k : Nat) : Int), .int ((j : Nat) : Int)] ∧ Own H F m ∧ rLT F T v ∧ TOk T ∧ k < T.strands.length ∧ vari T k j = some x ∧ ∀ r H' F', Same F F' → Own H' F' m → rVari F' x r → Q r H'
def spLPlaces : Sp := fun vs H Q _ => ∃ v T F m, vs = [v] ∧ Own H F m ∧ rLT F T v ∧ TOk T ∧ ∀ r H' F', Same F F' → Own H' F' m → rList rPl F' (places T) r → Q r H'
def spLStates : Sp := fun vs H Q _ => ∃ v T F m, vs = [v] ∧ Own H F m ∧ rLT F T v ∧ TOk T ∧ ∀ r H' F', Same F F' → Own H' F' m → rList rSt F' (states T) r → Q r H'
def spLDue : Sp := fun vs H Q _ => ∃ v w T a F m, vs = [v, w] ∧ Own H F m ∧ rLT F T v ∧ rSt F a w ∧ TOk T ∧ IsPl T a.pl ∧ ∀ r H' F', Same F F' → Own H' F' m → rList rInt F' [(dueF T a.1 : Int), dueL T a.pl] r → Q r H'
def spLNext : Sp := fun vs H Q _ => ∃ v w T a F m, vs = [v, w] ∧ Own H F m ∧ rLT F T v ∧ rSt F a w ∧ TOk T ∧ IsPl T a.pl ∧ ∀ H' F', Same F F' → Own H' F' m → Q (optV (nextC T a.pl)) H'
theorem placesUpTo_succ {T : Told} {k : Nat} : placesUpTo T (k + 1) = placesUpTo T k ++ ((k, 0, 0) :: inner T k) := by
  unfold placesUpTo
  rw [List.range_succ, List.flatMap_append, List.flatMap_cons, List.flatMap_nil, List.append_nil]
theorem placesUpTo_len {T : Told} (ok : TOk T) : ∀ {k : Nat}, k ≤ T.strands.length → (placesUpTo T k).length ≤ 25 * k
  | 0, _ => Nat.le_refl _
  | k + 1, h => by
    rw [placesUpTo_succ, List.length_append, List.length_cons]
    have := placesUpTo_len ok (k := k) (by omega)
    have := inner_len ok (k := k) (by omega)
    omega
theorem places_len {T : Told} (ok : TOk T) : (places T).length ≤ 3151 := by
  unfold places
  rw [List.length_append]
  have := placesUpTo_len ok (Nat.le_refl T.strands.length)
  have := ok.many
  show _ + 1 ≤ 3151
  omega
theorem states_len {T : Told} (ok : TOk T) : (states T).length ≤ 55 * 3151 := by
  unfold states
  have h1 := ok.fewF
  have h2 := ok.fewL
  refine Nat.le_trans (flat_len (c := 55) _ fun p _ => ?_) ?_
  · refine Nat.le_trans (flat_len (c := 11) _ fun f _ => ?_) ?_
    · rw [List.length_map, List.length_range]
      omega
    · rw [List.length_range]
      omega
  · have := places_len ok
    omega
theorem states_ok {T : Told} {a : Sx} (h : a ∈ states T) : IsSt T a := by
  obtain ⟨p, hp, h⟩ := List.mem_flatMap.mp h
  obtain ⟨f, hf, h⟩ := List.mem_flatMap.mp h
  obtain ⟨s, hs, rfl⟩ := List.mem_map.mp h
  have hf := List.mem_range.mp hf
  have hs := List.mem_range.mp hs
  rw [places_eq] at hp
  exact ⟨placesK_pl (by omega) p hp, by show f ≤ _; omega, by show s ≤ _; omega⟩
end Tf
/-! the law's fillings of a page and their units: plain Lean -/
namespace Tf
open PySem PySem.Spec PyProof.Rows L2
def beginsL (a b : Pl) : List Nat := (List.range (b.1 - nextK a)).map (fun d => nextK a + d) ++ if 0 < b.2.2 ∧ ¬ (b.1 = a.1 ∧ 0 < a.2.2) then [b.1] else []
def varsAt (T : Told) (b : Pl) (k : Nat) : List VarT := if k = b.1 then (vari T b.1 b.2.1).toList else strand T k
def combos (T : Told) (b : Pl) (ks : List Nat) : List (List VarT) := ks.foldl (fun cs k => cs.flatMap fun vs => (varsAt T b k).map fun v => vs ++ [v]) [[]]
def fillV (vs : List VarT) : List Int := vs.map fun v => (v.2.1.length : Int)
def costV (vs : List VarT) : Int := (vs.map (·.1)).sum
def unitsAt (b : Pl) (k : Nat) (v : VarT) : List UnitT := if k = b.1 then v.2.1.take b.2.2 else v.2.1
def unitsV (b : Pl) (u0 : List UnitT) (ks : List Nat) (vs : List VarT) : List UnitT := u0 ++ (ks.zip vs).flatMap fun p => unitsAt b p.1 p.2
def startU (T : Told) (a b : Pl) : List UnitT := if a.2.2 = 0 then [] else if b.1 = a.1 then ((((vari T a.1 a.2.1).map (·.2.1)).getD []).take b.2.2).drop a.2.2 else (((vari T a.1 a.2.1).map (·.2.1)).getD []).drop a.2.2
theorem combos_snoc {T : Told} {b : Pl} {ks : List Nat} {k : Nat} : combos T b (ks ++ [k]) = (combos T b ks).flatMap fun vs => (varsAt T b k).map fun v => vs ++ [v] := by
  unfold combos
  rw [List.foldl_append]
  rfl
theorem combos_get {T : Told} {b : Pl} : ∀ {ks : List Nat} {vs : List VarT}, vs ∈ combos T b ks → vs.length = ks.length ∧ ∀ (n k : Nat) (v : VarT), ks[n]? = some k → vs[n]? = some v → v ∈ varsAt T b k := by
  intro ks
  induction hn : ks.length generalizing ks with
  | zero =>
    intro vs h
    have := List.eq_nil_of_length_eq_zero hn
    subst this
    rw [List.mem_singleton.mp h]
    exact ⟨rfl, fun n k v h => by simp at h⟩
  | succ n ih =>
    intro vs h
    rcases List.eq_nil_or_concat ks with rfl | ⟨l, k, rfl⟩
    · cases hn
    · rw [List.concat_eq_append] at *
      rw [List.length_append, List.length_singleton] at hn
      rw [combos_snoc] at h
      obtain ⟨us, hus, h⟩ := List.mem_flatMap.mp h
      obtain ⟨v, hv, rfl⟩ := List.mem_map.mp h
      obtain ⟨h1, h2⟩ := ih (by omega) hus
      refine ⟨by rw [List.length_append, h1]; rfl, fun i k' v' hk hv' => ?_⟩
      by_cases hi : i < l.length
      · rw [List.getElem?_append_left hi] at hk
        rw [List.getElem?_append_left (by omega)] at hv'
        exact h2 i k' v' hk hv'
      · rw [List.getElem?_append_right (by omega)] at hk
        rw [List.getElem?_append_right (by omega)] at hv'
        have e : i - us.length = i - l.length := by omega
        rw [e] at hv'
        cases e2 : i - l.length with
        | zero =>
          rw [e2] at hk hv'
          cases hk
          cases hv'
          exact hv
        | succ j =>
          rw [e2] at hk
          simp at hk
theorem combos_len {T : Told} {b : Pl} {ks : List Nat} {vs : List VarT} (h : vs ∈ combos T b ks) : vs.length = ks.length := (combos_get h).1
theorem zip_snoc {α β : Type} : ∀ {xs : List α} {ys : List β} {x : α} {y : β}, xs.length = ys.length → (xs ++ [x]).zip (ys ++ [y]) = xs.zip ys ++ [(x, y)]
  | [], [], _, _, _ => rfl
  | [], _ :: _, _, _, h => by cases h
  | _ :: _, [], _, _, h => by cases h
  | a :: xs, b :: ys, x, y, h => by
    show (a, b) :: ((xs ++ [x]).zip (ys ++ [y])) = _
    rw [zip_snoc (by simpa using h)]
    rfl
theorem unitsV_snoc {b : Pl} {u0 : List UnitT} {ks : List Nat} {vs : List VarT} {k : Nat} {v : VarT} (h : vs.length = ks.length) : unitsV b u0 (ks ++ [k]) (vs ++ [v]) = unitsV b u0 ks vs ++ unitsAt b k v := by
  unfold unitsV
  rw [zip_snoc h.symm, List.flatMap_append, List.append_assoc]
  congr 2
  rw [List.flatMap_cons, List.flatMap_nil, List.append_nil]
theorem costV_snoc {vs : List VarT} {v : VarT} : costV (vs ++ [v]) = costV vs + v.1 := by
  unfold costV
  rw [List.map_append, sum_app]
  show _ + [v.1].sum = _
  simp
theorem fillV_snoc {vs : List VarT} {v : VarT} : fillV (vs ++ [v]) = fillV vs ++ [(v.2.1.length : Int)] := by
  unfold fillV
  rw [List.map_append]
  rfl
def entV (b : Pl) (u0 : List UnitT) (ks : List Nat) (vs : List VarT) : En := (fillV vs, unitsV b u0 ks vs, costV vs)
theorem full_combos {T : Told} {b : Pl} {k0 : Nat} {u0 : List UnitT} : ∀ {n : Nat}, k0 + n ≤ b.1 → fullL T k0 u0 n = (combos T b ((List.range n).map fun d => k0 + d)).map (entV b u0 ((List.range n).map fun d => k0 + d))
  | 0, _ => by
    show [([], u0, 0)] = [(([] : List Int), u0 ++ [], (0 : Int))]
    rw [List.append_nil]
  | n + 1, h => by
    show extS (fullL T k0 u0 n) (strand T (k0 + n)) = _
    rw [full_combos (b := b) (u0 := u0) (n := n) (by omega), List.range_succ, List.map_append]
    show _ = (combos T b (_ ++ [k0 + n])).map (entV b u0 (_ ++ [k0 + n]))
    rw [combos_snoc, List.map_flatMap]
    unfold extS
    rw [List.flatMap_map]
    have hne : ¬ k0 + n = b.1 := by omega
    refine flatMap_congr' fun vs hvs => ?_
    have e : varsAt T b (k0 + n) = strand T (k0 + n) := by
      unfold varsAt
      rw [if_neg hne]
    rw [e, List.map_map]
    refine List.map_congr_left fun v _ => ?_
    show _ = entV b u0 (_ ++ [k0 + n]) (vs ++ [v])
    unfold entV
    rw [fillV_snoc, unitsV_snoc (combos_len hvs), costV_snoc]
    have e2 : unitsAt b (k0 + n) v = v.2.1 := by
      unfold unitsAt
      rw [if_neg hne]
    rw [e2]
where
  flatMap_congr' {α β : Type} {l : List α} {f g : α → List β} (h : ∀ x ∈ l, f x = g x) : l.flatMap f = l.flatMap g := by
    induction l with
    | nil => rfl
    | cons x l ih =>
      rw [List.flatMap_cons, List.flatMap_cons, h x List.mem_cons_self, ih fun y hy => h y (List.mem_cons_of_mem _ hy)]
theorem entries_combos {T : Told} (ok : TOk T) {a b : Pl} (ha : IsPl T a) (hb : IsPl T b) (hf : follows a b) : entries T a b = (combos T b (beginsL a b)).map (entV b (startU T a b) (beginsL a b)) := by
  unfold entries
  by_cases hm : b.1 = a.1 ∧ 0 < a.2.2
  · rw [if_pos hm]
    have e1 : beginsL a b = [] := by
      unfold beginsL
      have : b.1 - nextK a = 0 := by
        unfold nextK
        rw [if_neg (by omega)]
        omega
      rw [this, if_neg (fun z => z.2 hm)]
      rfl
    rw [e1]
    show _ = [entV b (startU T a b) [] []]
    unfold entV unitsV startU restU
    rw [if_neg (by omega), if_neg (by omega), if_pos hm.1]
    show [_] = [([], _ ++ [], _)]
    rw [List.append_nil, List.drop_take]
    rfl
  · rw [if_neg hm]
    have hk := (follows_next hf).resolve_right hm
    have e0 : startU T a b = restU T a := by
      unfold startU restU
      split
      · rfl
      · rw [if_neg (fun z => hm ⟨z, by omega⟩)]
    rw [e0]
    have ef := full_combos (T := T) (b := b) (k0 := nextK a) (u0 := restU T a) (n := b.1 - nextK a) (by omega)
    by_cases hi : b.2.2 = 0
    · rw [if_pos hi, ef]
      have e1 : beginsL a b = (List.range (b.1 - nextK a)).map fun d => nextK a + d := by
        unfold beginsL
        rw [if_neg (fun z => by omega), List.append_nil]
      rw [e1]
    · rw [if_neg hi]
      obtain ⟨v, hv, hvm, V, hl, hlt, hkk⟩ := hb.var ok (by omega)
      rw [hv]
      show extV _ v b.2.2 = _
      have e1 : beginsL a b = ((List.range (b.1 - nextK a)).map fun d => nextK a + d) ++ [b.1] := by
        unfold beginsL
        rw [if_pos ⟨by omega, hm⟩]
      rw [e1, combos_snoc, ef]
      have e2 : varsAt T b b.1 = [v] := by
        unfold varsAt
        rw [if_pos rfl, hv]
        rfl
      rw [e2]
      unfold extV
      rw [List.map_map, List.map_flatMap]
      have e3 : ∀ (l : List (List VarT)) (g : List VarT → En), (l.flatMap fun vs => [g vs]) = l.map g := fun l g => by
        induction l with
        | nil => rfl
        | cons x l ih => rw [List.flatMap_cons, List.map_cons, ih]; rfl
      show _ = List.flatMap (fun vs => [entV b (restU T a) (_ ++ [b.1]) (vs ++ [v])]) _
      rw [e3]
      refine List.map_congr_left fun vs hvs => ?_
      show (fillV vs ++ _, unitsV b _ _ vs ++ _, costV vs + _) = entV b (restU T a) (_ ++ [b.1]) (vs ++ [v])
      unfold entV
      rw [fillV_snoc, unitsV_snoc (combos_len hvs), costV_snoc]
      have e4 : unitsAt b b.1 v = v.2.1.take b.2.2 := by
        unfold unitsAt
        rw [if_pos rfl]
      rw [e4]
theorem begins_few {T : Told} (ok : TOk T) {a b : Pl} (ha : IsPl T a) (hb : IsPl T b) (hf : follows a b) (n : Nat) : (combos T b ((beginsL a b).take n)).length ≤ 30 := by
  have hle := hb.le
  have key : ∀ j, j ≤ b.1 - nextK a → (combos T b ((List.range j).map fun d => nextK a + d)).length ≤ 30 := fun j hj => by
    by_cases hk : nextK a ≤ b.1
    · have := full_combos (T := T) (b := b) (k0 := nextK a) (u0 := []) (n := j) (by omega)
      have e := congrArg List.length this
      rw [List.length_map] at e
      rw [← e]
      exact fullL_few ok (by omega)
    · have : j = 0 := by omega
      subst this
      show 1 ≤ 30
      decide
  by_cases hn : n ≤ b.1 - nextK a
  · have e : (beginsL a b).take n = (List.range n).map fun d => nextK a + d := by
      unfold beginsL
      rw [List.take_append_of_le_length (by rw [List.length_map, List.length_range]; exact hn), ← List.map_take, List.take_range, Nat.min_eq_left hn]
    rw [e]
    exact key n hn
  · by_cases hm : 0 < b.2.2 ∧ ¬ (b.1 = a.1 ∧ 0 < a.2.2)
    · have e : (beginsL a b).take n = ((List.range (b.1 - nextK a)).map fun d => nextK a + d) ++ [b.1] := by
        unfold beginsL
        rw [if_pos hm, List.take_of_length_le]
        rw [List.length_append, List.length_map, List.length_range]
        show _ + 1 ≤ n
        omega
      rw [e, combos_snoc]
      have h1 := key _ (Nat.le_refl _)
      refine Nat.le_trans (flat_len (c := 1) _ fun vs _ => ?_) (by omega)
      rw [List.length_map]
      unfold varsAt
      rw [if_pos rfl]
      cases vari T b.1 b.2.1 <;> simp
    · have e : (beginsL a b).take n = (List.range (b.1 - nextK a)).map fun d => nextK a + d := by
        unfold beginsL
        rw [if_neg hm, List.append_nil, List.take_of_length_le]
        rw [List.length_map, List.length_range]
        omega
      rw [e]
      exact key _ (Nat.le_refl _)
theorem begins_lt {T : Told} {a b : Pl} (hb : IsPl T b) : ∀ k ∈ beginsL a b, k < T.strands.length := fun k hk => by
  have hle := hb.le
  unfold beginsL at hk
  rcases List.mem_append.mp hk with hk | hk
  · obtain ⟨d, hd, rfl⟩ := List.mem_map.mp hk
    have := List.mem_range.mp hd
    omega
  · split at hk
    · next hm =>
      rw [List.mem_singleton.mp hk]
      rcases hb with h | h
      · omega
      · exact h.1
    · cases hk
theorem begins_last {a b : Pl} (h : b.1 ∈ beginsL a b) : 0 < b.2.2 := by
  unfold beginsL at h
  rcases List.mem_append.mp h with h | h
  · obtain ⟨d, hd, e⟩ := List.mem_map.mp h
    have := List.mem_range.mp hd
    omega
  · split at h
    · next hm => exact hm.1
    · cases h
theorem begins_len {T : Told} (ok : TOk T) {a b : Pl} (hb : IsPl T b) : (beginsL a b).length ≤ 127 := by
  have hle := hb.le
  have hm := ok.many
  unfold beginsL
  rw [List.length_append, List.length_map, List.length_range]
  split
  · show _ + 1 ≤ 127
    omega
  · show _ + 0 ≤ 127
    omega
theorem vars_find {T : Told} (ok : TOk T) {a b : Pl} (hb : IsPl T b) {k : Nat} {v : VarT} (hk : k ∈ beginsL a b) (hv : v ∈ varsAt T b k) : vari T k v.2.1.length = some v ∧ VOk v := by
  have hlt := begins_lt hb k hk
  unfold varsAt at hv
  split at hv
  · next e =>
    subst e
    cases e2 : vari T b.1 b.2.1 with
    | none =>
      rw [e2] at hv
      cases hv
    | some w =>
      rw [e2] at hv
      have : v = w := by simpa using hv
      subst this
      have := vari_mem e2
      exact ⟨vari_of ok hlt this.1, var_ok ok this.1⟩
  · exact ⟨vari_of ok hlt hv, var_ok ok hv⟩
theorem ltL3 {a b c x y z : Int} : ltL [a, b, c] [x, y, z] = true ↔ a < x ∨ (a = x ∧ (b < y ∨ (b = y ∧ c < z))) := by
  unfold ltL
  simp only [PySem.W.listLt, PySem.W.DatumOrd.lt]
  by_cases h1 : a = x
  · rw [if_pos h1]
    by_cases h2 : b = y
    · rw [if_pos h2]
      by_cases h3 : c = z
      · rw [if_pos h3]
        simp
        omega
      · rw [if_neg h3, decide_eq_true_iff]
        omega
    · rw [if_neg h2, decide_eq_true_iff]
      omega
  · rw [if_neg h1, decide_eq_true_iff]
    omega
theorem begins_iff {T : Told} {a b : Pl} (ha : IsPl T a) (hb : IsPl T b) : (ltL (plL b) (plL a) = false ∧ ¬ (b.1 = a.1 ∧ 0 < a.2.2 ∧ (b.2.1 ≠ a.2.1 ∨ b.2.2 < a.2.2))) ↔ follows a b := by
  have e : ltL (plL b) (plL a) = false ↔ ¬ (b.1 < a.1 ∨ (b.1 = a.1 ∧ (b.2.1 < a.2.1 ∨ (b.2.1 = a.2.1 ∧ b.2.2 < a.2.2)))) := by
    have h := ltL3 (a := (b.1 : Int)) (b := b.2.1) (c := b.2.2) (x := a.1) (y := a.2.1) (z := a.2.2)
    rw [← Bool.not_eq_true]
    show ¬ (ltL [_, _, _] [_, _, _] = true) ↔ _
    rw [h]
    omega
  rw [e]
  unfold follows
  have h0 : a.2.2 = 0 → a.2.1 = 0 := fun z => by
    rcases ha with h | h <;> omega
  constructor <;> intro h
  · omega
  · omega
/-! promises -/
def rKs : Rp (List Nat) := fun F ks v => rList rInt F (ks.map fun k : Nat => (k : Int)) v
instance : MonoS rKs := ⟨fun s h => up (R := rList rInt) s h⟩
def spLBegins : Sp := fun vs H Q _ => ∃ v w T a b F m, vs = [v, w] ∧ Own H F m ∧ rSt F a v ∧ rSt F b w ∧ TOk T ∧ IsPl T a.pl ∧ IsPl T b.pl ∧
  ∀ r H' F', Same F F' → Own H' F' m → rOpt rKs F' (if follows a.pl b.pl then some (beginsL a.pl b.pl) else none) r → Q r H'
def spLFills : Sp := fun vs H Q _ => ∃ v w z T a b F m, vs = [v, w, z] ∧ Own H F m ∧ rLT F T v ∧ rSt F b w ∧ rKs F (beginsL a b.pl) z ∧ TOk T ∧ IsPl T a ∧ IsPl T b.pl ∧ follows a b.pl ∧
  ∀ r H' F', Same F F' → Own H' F' m → rList (rTup rInt) F' ((combos T b.pl (beginsL a b.pl)).map fillV) r → Q r H'
def spLUnits : Sp := fun vs H Q _ => ∃ v av bv kv fv T a b cs F m, vs = [v, av, bv, kv, fv] ∧ Own H F m ∧ rLT F T v ∧ rSt F a av ∧ rSt F b bv ∧ rKs F (beginsL a.pl b.pl) kv ∧ rTup rInt F (fillV cs) fv ∧ TOk T ∧ IsPl T a.pl ∧ IsPl T b.pl ∧ cs ∈ combos T b.pl (beginsL a.pl b.pl) ∧
  ∀ p u H' F', Same F F' → Own H' F' m → F' p = some (.lst [u, .int (costV cs)]) → rList rUnit F' (unitsV b.pl (startU T a.pl b.pl) (beginsL a.pl b.pl) cs) u → Q (.ref p) H'
end Tf
/-! what the law asks for a page: plain Lean -/
namespace Tf
open PySem PySem.Spec PyProof.Rows L2
theorem glue_sums : ∀ (us : List UnitT) (g : G3), glueOf us = some g → g.1 = (us.map (·.1)).sum + (us.tail.map (·.2.1.1)).sum ∧ g.2.1 = (us.tail.map (·.2.1.2.1)).sum ∧ g.2.2 = (us.tail.map (·.2.1.2.2)).sum := by
  intro us
  induction hn : us.length generalizing us with
  | zero =>
    intro g hg
    rw [List.eq_nil_of_length_eq_zero hn] at hg
    cases hg
  | succ n ih =>
    intro g hg
    rcases List.eq_nil_or_concat us with rfl | ⟨l, u, rfl⟩
    · cases hn
    · rw [List.concat_eq_append] at *
      rw [glueOf_snoc] at hg
      cases hg
      rw [List.length_append, List.length_singleton] at hn
      cases l with
      | nil =>
        refine ⟨?_, rfl, rfl⟩
        show u.1 = ([u.1] : List Int).sum + ([] : List Int).sum
        simp
      | cons x xs =>
        cases e : glueOf (x :: xs) with
        | none =>
          have := glueOf_none.mp e
          cases this
        | some g0 =>
          obtain ⟨h1, h2, h3⟩ := ih (x :: xs) (by omega) g0 e
          have e1 : ((x :: xs) ++ [u]).tail = xs ++ [u] := rfl
          have e2 : (x :: xs).tail = xs := rfl
          rw [e2] at h1 h2 h3
          rw [e1, List.map_append, List.map_append, List.map_append, List.map_append, sum_app, sum_app, sum_app, sum_app]
          unfold glueU
          dsimp only
          rw [h1, h2, h3]
          refine ⟨?_, ?_, ?_⟩ <;> simp <;> omega
def sizeU (us : List UnitT) : Int := (us.map (·.1)).sum + (us.tail.map (·.2.1.1)).sum
def strU (us : List UnitT) : Int := (us.tail.map (·.2.1.2.1)).sum
def shrU (us : List UnitT) : Int := (us.tail.map (·.2.1.2.2)).sum
theorem addG_sums (us : List UnitT) (o : Int) : addG (glueOf us) o = (sizeU us + o, strU us, shrU us) := by
  cases e : glueOf us with
  | none =>
    have := glueOf_none.mp e
    subst this
    show (o, 0, 0) = _
    unfold sizeU strU shrU
    simp
  | some g =>
    obtain ⟨h1, h2, h3⟩ := glue_sums us g e
    show (g.1 + o, g.2.1 + 0, g.2.2 + 0) = _
    unfold sizeU strU shrU
    rw [h1, h2, h3]
    simp
theorem fm_congr {α β : Type} {f g : α → Option β} : ∀ {l : List α}, (∀ x ∈ l, f x = g x) → l.filterMap f = l.filterMap g
  | [], _ => rfl
  | x :: l, h => by
    have e := h x List.mem_cons_self
    have ih := fm_congr (l := l) fun y hy => h y (List.mem_cons_of_mem _ hy)
    cases hx : f x with
    | none => rw [List.filterMap_cons_none hx, List.filterMap_cons_none (e ▸ hx), ih]
    | some y => rw [List.filterMap_cons_some hx, List.filterMap_cons_some (e ▸ hx), ih]
def canP (T : Told) (a b : Sx) : Prop := ((b.2.2.2.1 - a.2.2.2.1 : Nat) : Int) ≤ T.fap ∧ (a.2.2.2.1 < b.2.2.2.1 → b.2.2.2.1 ≤ dueF T b.1) ∧ (a.2.2.2.2 < b.2.2.2.2 → (b.2.2.2.2 : Int) ≤ dueL T b.pl)
instance (T : Told) (a b : Sx) : Decidable (canP T a b) := by unfold canP; infer_instance
def priceT (T : Told) (a b : Sx) (us : List UnitT) : Option Int :=
  if canP T a b ∧ (∀ u ∈ us.tail, u.2.2 ≠ -1) ∧ sizeU us + otherL T a b - shrU us ≤ T.tall then some (fillC T.tall (sizeU us + otherL T a b, strU us, shrU us) (looseB T b) + endC T a b) else none
theorem page_price {T : Told} (ok : TOk T) {a b : Sx} (ha : IsSt T a) (hb : IsSt T b) :
    pageT T a b = if follows a.pl b.pl ∧ a.2.2.2.1 ≤ b.2.2.2.1 ∧ a.2.2.2.2 ≤ b.2.2.2.2 ∧ a ≠ b then minOpt ((combos T b.pl (beginsL a.pl b.pl)).filterMap fun cs => (priceT T a b (unitsV b.pl (startU T a.pl b.pl) (beginsL a.pl b.pl) cs)).map fun p => (p + costV cs, fillV cs)) else none := by
  unfold pageT
  by_cases hf : follows a.pl b.pl
  · by_cases h1 : a.2.2.2.1 ≤ b.2.2.2.1 ∧ a.2.2.2.2 ≤ b.2.2.2.2 ∧ a ≠ b
    · rw [if_pos (show follows a.pl b.pl ∧ a.2.2.2.1 ≤ b.2.2.2.1 ∧ a.2.2.2.2 ≤ b.2.2.2.2 ∧ a ≠ b from ⟨hf, h1⟩)]
      by_cases hc : canP T a b
      · rw [if_pos ⟨hf, h1.1, h1.2.1, h1.2.2, hc⟩, entries_combos ok ha.1 hb.1 hf, List.filterMap_map]
        congr 1
        refine fm_congr fun cs _ => ?_
        show costE T a b (entV _ _ _ _) = _
        unfold costE entV priceT
        dsimp only
        rw [addG_sums]
        dsimp only
        by_cases hq : (∀ u ∈ (unitsV b.pl (startU T a.pl b.pl) (beginsL a.pl b.pl) cs).tail, u.2.2 ≠ -1) ∧ sizeU (unitsV b.pl (startU T a.pl b.pl) (beginsL a.pl b.pl) cs) + otherL T a b - shrU (unitsV b.pl (startU T a.pl b.pl) (beginsL a.pl b.pl) cs) ≤ T.tall
        · rw [if_pos hq, if_pos ⟨hc, hq⟩]
          show some _ = some _
          congr 2
          omega
        · rw [if_neg hq, if_neg (fun z => hq z.2)]
          rfl
      · rw [if_neg (fun z => hc ⟨z.2.2.2.2.1, z.2.2.2.2.2⟩)]
        symm
        refine minOpt_none.mpr (List.filterMap_eq_nil_iff.mpr fun cs _ => ?_)
        unfold priceT
        rw [if_neg (fun z => hc z.1)]
        rfl
    · rw [if_neg (fun z => h1 ⟨z.2.1, z.2.2.1, z.2.2.2.1⟩), if_neg (fun z => h1 z.2)]
  · rw [if_neg (fun z => hf z.1), if_neg (fun z => hf z.1)]
theorem units_ok {T : Told} (ok : TOk T) {a b : Sx} (ha : IsPl T a.pl) (hb : IsPl T b.pl) (hf : follows a.pl b.pl) {cs : List VarT} (hcs : cs ∈ combos T b.pl (beginsL a.pl b.pl)) : UsOk 1100 (unitsV b.pl (startU T a.pl b.pl) (beginsL a.pl b.pl) cs) := by
  have h : entV b.pl (startU T a.pl b.pl) (beginsL a.pl b.pl) cs ∈ entries T a.pl b.pl := by
    rw [entries_combos ok ha hb hf]
    exact List.mem_map_of_mem hcs
  exact entries_ok ok hb.le h
theorem startU_nil {T : Told} (ok : TOk T) {a b : Pl} (ha : IsPl T a) : startU T a b = [] ↔ a.2.2 = 0 ∨ (b.1 = a.1 ∧ b.2.2 ≤ a.2.2) := by
  unfold startU
  by_cases hi : a.2.2 = 0
  · rw [if_pos hi]
    exact ⟨fun _ => .inl hi, fun _ => rfl⟩
  · obtain ⟨v, hv, hm, V, hl, hlt, hk⟩ := ha.var ok (by omega)
    rw [if_neg hi, hv]
    by_cases he : b.1 = a.1
    · rw [if_pos he]
      show (List.drop a.2.2 (List.take b.2.2 v.2.1)) = [] ↔ _
      rw [List.drop_eq_nil_iff, List.length_take]
      omega
    · rw [if_neg he]
      show (List.drop a.2.2 v.2.1) = [] ↔ _
      rw [List.drop_eq_nil_iff]
      omega
theorem units_nil {T : Told} (ok : TOk T) {a b : Pl} (ha : IsPl T a) (hb : IsPl T b) (hf : follows a b) {cs : List VarT} (hcs : cs ∈ combos T b (beginsL a b)) : unitsV b (startU T a b) (beginsL a b) cs = [] ↔ b = a := by
  obtain ⟨hl, hg⟩ := combos_get hcs
  have h1 : unitsV b (startU T a b) (beginsL a b) cs = [] ↔ startU T a b = [] ∧ beginsL a b = [] := by
    unfold unitsV
    rw [List.append_eq_nil_iff]
    refine ⟨fun h => ⟨h.1, ?_⟩, fun h => ⟨h.1, by rw [h.2]; rfl⟩⟩
    cases e : beginsL a b with
    | nil => rfl
    | cons k ks =>
      exfalso
      rw [e] at hl
      cases ec : cs with
      | nil =>
        rw [ec] at hl
        cases hl
      | cons v vs =>
        have hkm : k ∈ beginsL a b := by rw [e]; exact List.mem_cons_self
        have hva := hg 0 k v (by rw [e]; rfl) (by rw [ec]; rfl)
        have hvf := vars_find ok hb hkm hva
        have h2 := h.2
        rw [e, ec] at h2
        have h3 : unitsAt b k v = [] := List.flatMap_eq_nil_iff.mp h2 (k, v) List.mem_cons_self
        have hpos := hvf.2.pos
        unfold unitsAt at h3
        split at h3
        · next ek =>
          subst ek
          have hbi := begins_last hkm
          rw [List.take_eq_nil_iff] at h3
          rcases h3 with h3 | h3
          · omega
          · rw [h3] at hpos
            exact Nat.lt_irrefl _ hpos
        · rw [h3] at hpos
          exact Nat.lt_irrefl _ hpos
  have h2 : beginsL a b = [] ↔ b.1 ≤ nextK a ∧ ¬ (0 < b.2.2 ∧ ¬ (b.1 = a.1 ∧ 0 < a.2.2)) := by
    unfold beginsL
    rw [List.append_eq_nil_iff, List.map_eq_nil_iff, List.range_eq_nil]
    refine and_congr (by omega) ?_
    split
    · next h => exact ⟨fun z => (by cases z), fun z => absurd h z⟩
    · next h => exact ⟨fun _ => h, fun _ => rfl⟩
  rw [h1, h2, startU_nil ok ha]
  have ha0 : a.2.2 = 0 → a.2.1 = 0 := fun z => by
    rcases ha with h | h <;> omega
  have hb0 : b.2.2 = 0 → b.2.1 = 0 := fun z => by
    rcases hb with h | h <;> omega
  have heq : b = a ↔ b.1 = a.1 ∧ b.2.1 = a.2.1 ∧ b.2.2 = a.2.2 := by
    refine ⟨fun h => by rw [h]; exact ⟨rfl, rfl, rfl⟩, fun h => ?_⟩
    obtain ⟨a1, a2, a3⟩ := a
    obtain ⟨b1, b2, b3⟩ := b
    dsimp only at h
    rw [h.1, h.2.1, h.2.2]
  rw [heq]
  unfold nextK
  unfold follows at hf
  constructor
  · rintro ⟨h3, h4, h5⟩
    split at h4 <;> omega
  · rintro ⟨h3, h4, h5⟩
    refine ⟨by omega, by split <;> omega, by omega⟩
theorem open_mid (T : Told) {s n : Nat} (h : s ≤ n) : ((((T.lines.drop s).take (n - s)).filter (·.2)).length : Int) = (openN T n : Int) - (openN T s : Int) := by
  unfold openN
  have e : T.lines.take n = T.lines.take s ++ (T.lines.drop s).take (n - s) := by
    rw [List.take_append_take_drop_eq h]
  rw [e, List.filter_append, List.length_append]
  omega
where
  List.take_append_take_drop_eq {α : Type} {l : List α} {s n : Nat} (h : s ≤ n) : l.take s ++ (l.drop s).take (n - s) = l.take n := by
    obtain ⟨d, rfl⟩ : ∃ d, n = s + d := ⟨n - s, by omega⟩
    rw [Nat.add_sub_cancel_left, List.take_add]
/-- what waits, as the law counts it -/
theorem wait_law {T : Told} (ok : TOk T) {b : Sx} (hb : IsSt T b) {n : Nat} (hn : dueL T b.pl = (n : Int)) :
    waitB T b = (if (dueF T b.1 : Int) - b.2.2.2.1 > 0 then (dueF T b.1 : Int) - b.2.2.2.1 else 0) * 5000 + (if ((T.lines.drop b.2.2.2.2).take (n - b.2.2.2.2)) = [] then 0 else 2000 + 100 * (((T.lines.drop b.2.2.2.2).take (n - b.2.2.2.2)).length : Int) + 1000000000 * ((((T.lines.drop b.2.2.2.2).take (n - b.2.2.2.2)).filter (·.2)).length : Int)) := by
  have hL := dueL_b ok hb.1
  have hle := hb.2.2
  rw [hn] at hL
  unfold waitB
  dsimp only
  rw [hn]
  generalize (if (dueF T b.1 : Int) - b.2.2.2.1 > 0 then (dueF T b.1 : Int) - b.2.2.2.1 else 0) = fl
  by_cases h : n ≤ b.2.2.2.2
  · have e : (T.lines.drop b.2.2.2.2).take (n - b.2.2.2.2) = [] := by
      have : n - b.2.2.2.2 = 0 := by omega
      rw [this]
      rfl
    have e2 : (if (b.2.2.2.2 : Int) > (n : Int) then (b.2.2.2.2 : Int) else (n : Int)) = (b.2.2.2.2 : Int) := by
      split <;> omega
    rw [if_pos e, e2]
    unfold waitC
    rw [if_neg (by omega)]
    omega
  · have hl : ((T.lines.drop b.2.2.2.2).take (n - b.2.2.2.2)).length = n - b.2.2.2.2 := by
      rw [List.length_take, List.length_drop]
      omega
    have e : ¬ (T.lines.drop b.2.2.2.2).take (n - b.2.2.2.2) = [] := fun z => by
      rw [z] at hl
      have : 0 = n - b.2.2.2.2 := hl
      omega
    have e2 : (if (b.2.2.2.2 : Int) > (n : Int) then (b.2.2.2.2 : Int) else (n : Int)) = (n : Int) := by
      split <;> omega
    rw [if_neg e, e2, hl, open_mid T (by omega)]
    unfold waitC
    rw [if_pos (by omega), Int.toNat_natCast]
    omega
theorem other_law (T : Told) (a b : Sx) : otherL T a b = (((T.floats.drop a.2.2.2.1).take (b.2.2.2.1 - a.2.2.2.1)).map fun f => f.1 + T.fgap).sum + (((T.lines.drop a.2.2.2.2).take (b.2.2.2.2 - a.2.2.2.2)).map (·.1)).sum + T.rule * (if 0 < ((T.lines.drop a.2.2.2.2).take (b.2.2.2.2 - a.2.2.2.2)).length then 1 else 0) ∨ ¬ b.2.2.2.2 ≤ T.lines.length := by
  by_cases hle : b.2.2.2.2 ≤ T.lines.length
  · left
    unfold otherL
    by_cases h : a.2.2.2.2 < b.2.2.2.2
    · rw [if_pos h, if_pos (by rw [List.length_take, List.length_drop]; omega)]
      omega
    · have e : b.2.2.2.2 - a.2.2.2.2 = 0 := by omega
      rw [if_neg h, e]
      simp
  · exact .inr hle
/-! promises -/
def spLPrice : Sp := fun vs H Q _ => ∃ v av bv uv T a b us F m, vs = [v, av, bv, uv] ∧ Own H F m ∧ rLT F T v ∧ rSt F a av ∧ rSt F b bv ∧ rList rUnit F us uv ∧ TOk T ∧ IsSt T a ∧ IsSt T b ∧ a.2.2.2.1 ≤ b.2.2.2.1 ∧ a.2.2.2.2 ≤ b.2.2.2.2 ∧ (us = [] ↔ b.pl = a.pl) ∧ UsOk 1100 us ∧
  ∀ H' F', Same F F' → Own H' F' m → Q (optV (priceT T a b us)) H'
def spLPage : Sp := fun vs H Q _ => ∃ v av bv T a b F m, vs = [v, av, bv] ∧ Own H F m ∧ rLT F T v ∧ rSt F a av ∧ rSt F b bv ∧ TOk T ∧ IsSt T a ∧ IsSt T b ∧
  ∀ r H' F', Same F F' → Own H' F' m → rOpt (rPair rInt (rTup rInt)) F' (pageT T a b) r → Q r H'
def spLSteps : Sp := fun vs H Q _ => ∃ v sv av T a F m, vs = [v, sv, av] ∧ Own H F m ∧ rLT F T v ∧ rList rSt F (states T) sv ∧ rSt F a av ∧ TOk T ∧ IsSt T a ∧
  ∀ r H' F', Same F F' → Own H' F' m → rList (rPair rInt rSt) F' (lawSteps T a) r → Q r H'
def spLRank : Sp := fun vs H Q _ => ∃ v av T a F m, vs = [v, av] ∧ Own H F m ∧ rLT F T v ∧ rSt F a av ∧ TOk T ∧ IsSt T a ∧ ∀ H' F', Same F F' → Own H' F' m → Q (.int (rankT T a)) H'
end Tf
local macro_rules | `(tactic| walk_at "x1") => `(tactic| first
  | with_reducible refine Tf.x_seq ?_
  | with_reducible refine Tf.x_asg ?_
  | with_reducible refine Tf.x_name ?_
  | with_reducible refine Tf.x_c ?_
  | with_reducible refine Tf.x_op ?_
  | ((with_reducible refine Tf.x_var (v := ?v0) ?hv ?_); (case hv => rfl))
  | with_reducible refine Tf.x_I0 ?_
  | with_reducible refine Tf.x_nx ?_
  | with_reducible refine Tf.x_rt ?_
  | with_reducible refine Tf.x_eqI ?_
  | with_reducible refine Tf.x_neI ?_
  | with_reducible refine Tf.x_test ?_
  | with_reducible refine Tf.x_bl ?_
  | with_reducible refine Tf.x_if ?_
  | with_reducible refine Tf.x_cons ?_
  | with_reducible refine Tf.x_nil ?_
  | with_reducible refine Tf.x_call ?_
  | with_reducible refine Tf.x_cb ?_
  | with_reducible refine Tf.x_sub ?_
  | with_reducible refine Tf.x_ret ?_
  | with_reducible refine Tf.x_drop ?_
  | with_reducible refine Tf.x_next ?_
  | with_reducible refine Tf.x_int ?_
  | with_reducible refine Tf.x_intB ?_
  | with_reducible refine Tf.x_abs ?_
  | with_reducible refine Tf.x_and ?_
  | with_reducible refine Tf.x_bndM ?_
  | with_reducible refine Tf.x_make ?_
  | with_reducible refine Tf.x_meth ?_
  | with_reducible refine Tf.x_tru ?_
  | with_reducible refine Tf.x_ckw ?_
  | with_reducible refine Tf.x_bm ?_
  | with_reducible refine Tf.x_bm0 ?_
  | with_reducible refine Tf.x_sfld ?_
  | with_reducible refine Tf.x_forS ?_
  | with_reducible refine Tf.x_forE ?_
  | with_reducible refine Tf.x_lcS ?_
  | with_reducible refine Tf.x_min2 ?_
  | with_reducible refine Tf.x_max2 ?_
  | with_reducible refine Tf.x_isNon ?_
  | with_reducible refine Tf.x_notNon ?_
  | with_reducible refine Tf.x_isB ?_
  | with_reducible refine Tf.x_or ?_
  | with_reducible refine Tf.x_not ?_
  | with_reducible refine Tf.x_B ?_
  | with_reducible refine Tf.x_tup ?_
  | with_reducible refine Tf.x_lst ?_
  | with_reducible refine Tf.x_dget ?_
  | with_reducible refine Tf.x_din ?_
  | with_reducible refine Tf.x_dnotin ?_
  | with_reducible refine Tf.x_dput ?_
  | with_reducible refine Tf.x_gcons ?_
  | with_reducible refine Tf.x_gnil ?_
  | with_reducible refine Tf.x_un ?_
  | with_reducible refine Tf.x_U ?_
  | with_reducible refine Tf.x_ct ?_
  | with_reducible refine Tf.x_bk ?_
  | with_reducible refine Tf.x_brk ?_
  | with_reducible refine Tf.x_cont ?_
  | with_reducible refine Tf.x_retN ?_
  | with_reducible refine Tf.x_forL ?_
  | with_reducible refine Tf.x_forT ?_
  | with_reducible refine Tf.x_forR1 ?_
  | with_reducible refine Tf.x_forR2 ?_
  | with_reducible refine Tf.x_forR3 ?_
  | with_reducible refine Tf.x_forK ?_
  | with_reducible refine Tf.x_abs ?_
  | with_reducible refine Tf.x_lcL ?_
  | with_reducible refine Tf.x_lcT ?_
  | with_reducible refine Tf.x_lcR1 ?_
  | with_reducible refine Tf.x_lcK ?_
  | with_reducible refine Tf.x_chain ?_
  | with_reducible refine Tf.x_sl ?_
  | with_reducible refine Tf.x_noP ?_
  | with_reducible refine Tf.x_partI ?_
  | with_reducible refine Tf.x_part ?_
  | with_reducible refine Tf.x_forZ ?_
  | with_reducible refine Tf.x_dcL ?_
  | with_reducible refine Tf.x_dcS ?_
  | with_reducible refine Tf.x_dget2 ?_
  | with_reducible refine Tf.x_yes ?_
  | with_reducible refine Tf.x_prop ?_
  | with_reducible refine Tf.x_ifE ?_
  | with_reducible refine Tf.x_andV ?_
  | with_reducible refine Tf.x_orV ?_
  | with_reducible refine Tf.x_notV ?_
  | with_reducible refine Tf.x_fld ?_
  | ((with_reducible refine Tf.x_aug (v := ?v0) ?hv ?_); (case hv => rfl))
  | with_reducible refine Tf.x_ipI ?_
  | with_reducible refine Tf.p_get0 (by assumption) ?_
  | with_reducible refine Tf.p_get1 (by assumption) ?_
  | with_reducible refine Tf.p_get2 (by assumption) ?_
  | with_reducible refine Tf.p_get3 (by assumption) ?_
  | with_reducible refine Tf.p_get4 (by assumption) ?_
  | with_reducible refine Tf.p_set1 (by assumption) (fun H' O' => ?_)
  | with_reducible refine Tf.p_set2 (by assumption) (fun H' O' => ?_)
  | with_reducible refine Tf.p_set3 (by assumption) (fun H' O' => ?_)
  | with_reducible refine Tf.p_set4 (by assumption) (fun H' O' => ?_)
  | ((with_reducible refine Tf.x_I ?h ?_); (case h => walk_at "xC")))
local macro_rules | `(tactic| walk_at "xC") => `(tactic| first
  | (show (0 : Int) < _; first | decide | omega)
  | (refine Or.inr ⟨?_, ?_⟩ <;> first | decide | omega)
  | (refine Or.inl ⟨?_, ?_⟩ <;> first | decide | omega)
  | exact L2.wide_div (b := 60) (by omega) (by omega) (by decide) (by decide)
  | (refine ⟨?_, ?_, ?_⟩ <;> decide))
local macro_rules | `(tactic| walk_at "x") => `(tactic| repeat walk_at "x1")
namespace Tf
open PySem PySem.Spec PyProof.Rows L2
def top (i : Nat) : Stmt := PySem.Challenge.pw_typeforge_k80_press_pages_and_fillings.main.body.getD i (.Pass ⟨0, 0, 0, 0⟩)
section
variable {P : Program} {w : World} {K : PySem.W.Frag} {mg : Str → Option Value} {base : Heap}
abbrev sDr : Stmt := top 23
abbrev NDr : List Str := ["pool", "many", "cell", "got", "one"]
theorem scDr : FnScope NDr ["pool", "many"] (defScope sDr) := ⟨rfl, rfl, rfl, by decide +kernel, rfl, by decide +kernel, by decide +kernel⟩
theorem ok_Dr {f : Addr} {fd : FuncData} (F : Fun K "_law_draw" "_law_draw" sDr f fd) (T : Bi mg) : FnOk P w K mg base CX0 1 f fd ["pool", "many"] spDraw := by
  refine F.ok scDr (fun vs H Q E h => ?_) (fun cdv A outer s H vs Q E hr h => ?_)
  · obtain ⟨p, o, n, F, m, rfl, _⟩ := h
    rfl
  · obtain ⟨p, _, n, F, m, rfl, O, ⟨s, script, i, b, c, z, rfl, hs, hi, hb⟩, n0, n1, k⟩ := h
    refine ⟨_, 
    (pss_cons (ps_asg (pe_op op_add (pe_ix (r := rIxL K) ix_list (pv 0) pe_int (fun _ _ => rfl)) pe_int) (pg_sub (pv 0) pe_int set_list))
    (Tf.pss_cut (ps_if (PW.pt (pw_and (pt_cmpR op_eq (pe_ix (r := rIxL K) ix_list (pv 0) pe_int (fun _ _ => rfl)) pe_int (nomark _)) (pw_and1 (pt_cmpR op_lt (pe_ix (r := rIxL K) ix_list (pv 0) pe_int (fun _ _ => rfl)) (pe_callB (id := "len") (r := rLen K) cr_len (by rfl) T.b_len (by decide +kernel) (pa_cons (pe_ix (r := rIxL K) ix_list (pv 0) pe_int (fun _ _ => rfl)) pa_nil)) (nomark _))))) 
      (pss_cons (ps_set (i := 2) scDr.nd rfl (Or.inl rfl) (pe_ix (r := rIxL K) ix_list (pe_ix (r := rIxL K) ix_list (pv 0) pe_int (fun _ _ => rfl)) (pe_ix (r := rIxL K) ix_list (pv 0) pe_int (fun _ _ => rfl)) (fun _ _ => rfl)))
      (pss_cons (ps_asg (pe_op op_add (pe_ix (r := rIxL K) ix_list (pv 0) pe_int (fun _ _ => rfl)) pe_int) (pg_sub (pv 0) pe_int set_list))
      (pss_one (ps_if (pt_cmpR op_ge (pe_callB cr_abs (by rfl) T.b_abs (by decide +kernel) (pa_cons (pv 2) pa_nil)) (pe_op op_pow pe_int pe_int) (nomark _)) 
        (pss_one (ps_asg (pe_callB cr_abs (by rfl) T.b_abs (by decide +kernel) (pa_cons (pv 2) pa_nil)) (pg_sub (pv 0) pe_int set_list))) 
        (pss_one (ps_asg (pe_op op_mod (pe_callTy (T := "int") cr_int (by rfl) T.b_int (by decide +kernel) (pa_cons (pe_op op_add (pe_op op_add (pe_op op_mul (pe_ix (r := rIxL K) ix_list (pv 0) pe_int (fun _ _ => rfl)) pe_int) (pe_op op_mul (pv 2) pe_int)) pe_int) pa_nil)) pe_int) (pg_sub (pv 0) pe_int set_list))))))) pss_nil)
    (pss_cons (ps_if (pt_cmpR op_gt (pe_ix (r := rIxL K) ix_list (pv 0) pe_int (fun _ _ => rfl)) pe_int (nomark _)) 
      (pss_cons (ps_set (i := 3) scDr.nd rfl (Or.inl rfl) (pe_op op_mod (pe_callTy (T := "int") cr_int (by rfl) T.b_int (by decide +kernel) (pa_cons (pe_ix (r := rIxL K) ix_list (pv 0) pe_int (fun _ _ => rfl)) pa_nil)) (pv 1)))
      (pss_cons (ps_asg (pe_op op_fdivW (pe_ix (r := rIxL K) ix_list (pv 0) pe_int (fun _ _ => rfl)) (pv 1)) (pg_sub (pv 0) pe_int set_list))
      (pss_one (ps_ret (pv 3))))) pss_nil)
    (pss_cons (ps_set (i := 4) scDr.nd rfl (Or.inl rfl) (pe_op op_mod (pe_callTy (T := "int") cr_int (by rfl) T.b_int (by decide +kernel) (pa_cons (pe_op op_add (pe_ix (r := rIxL K) ix_list (pv 0) pe_int (fun _ _ => rfl)) (pe_op op_mul (pe_ix (r := rIxL K) ix_list (pv 0) pe_int (fun _ _ => rfl)) pe_int)) pa_nil)) pe_int))
    (pss_cons (ps_set (i := 4) scDr.nd rfl (Or.inl rfl) (pe_op op_mod (pe_callTy (T := "int") cr_int (by rfl) T.b_int (by decide +kernel) (pa_cons (pe_op op_add (pe_op op_add (pe_op op_mul (pv 4) (pv 4)) (pe_op op_mul (pe_ix (r := rIxL K) ix_list (pv 0) pe_int (fun _ _ => rfl)) pe_int)) pe_int) pa_nil)) pe_int))
    (pss_cons (ps_set (i := 4) scDr.nd rfl (Or.inl rfl) (pe_op op_mod (pe_callTy (T := "int") cr_int (by rfl) T.b_int (by decide +kernel) (pa_cons (pe_op op_add (pe_op op_add (pe_op op_mul (pv 4) (pv 4)) (pe_ix (r := rIxL K) ix_list (pv 0) pe_int (fun _ _ => rfl))) pe_int) pa_nil)) pe_int))
    (pss_one (ps_ret (pe_op op_mod (pe_callTy (T := "int") cr_int (by rfl) T.b_int (by decide +kernel) (pa_cons (pe_op op_fdivW (pv 4) pe_int) pa_nil)) (pv 1)))))))))), ?_⟩
    have fin : ∀ r H' s i b c z, 0 ≤ r → r < n → rList rInt F script s → 0 ≤ i → 0 ≤ b → Own H' F ((p, poolO s i b c z) :: m) → Q (.int r) H' := fun r H' s i b c z h1 h2 h3 h4 h5 O' =>
      k r H' _ h1 h2 O' ⟨s, script, i, b, c, z, rfl, h3, h4, h5⟩
    walk_at "x"
    refine x_cut (fun σ' H' => ∃ i b c z u, σ' = [some (.ref p), some (.int n), u, none, none] ∧ 0 ≤ i ∧ 0 ≤ b ∧ Own H' F ((p, poolO s i b c z) :: m)) ?_ ?_
    · walk_at "x"
      have nxt : ∀ (σ' : L2.St) H' i b c z u, σ' = [some (.ref p), some (.int n), u, none, none] → 0 ≤ i → 0 ≤ b → Own H' F ((p, poolO s i b c z) :: m) →
        ∃ i b c z u, σ' = [some (.ref p), some (.int n), u, none, none] ∧ 0 ≤ i ∧ 0 ≤ b ∧ Own H' F ((p, poolO s i b c z) :: m) := fun σ' H' i b c z u h1 h2 h3 h4 => ⟨i, b, c, z, u, h1, h2, h3, h4⟩
      refine x_iteD (fun h0 => ?_) (fun h0 => ?_)
      · walk_at "x"
        refine x_lenL (by assumption) hs ?_
        walk_at "x"
        refine x_iteD (fun h1 => ?_) (fun h1 => ?_)
        · walk_at "x"
          obtain ⟨cell, hc⟩ : ∃ cell, script[i.toNat]? = some cell := ⟨_, List.getElem?_eq_getElem (by omega)⟩
          refine x_ixL (j := i.toNat) (by assumption) hs (by omega) hc (fun w hw => ?_)
          have hw : w = .int cell := hw
          subst hw
          walk_at "x"
          have hcell : ((if cell < 0 then -cell else cell) : Int) ≥ 0 := by split <;> omega
          refine x_iteD (fun h2 => ?_) (fun h2 => ?_)
          · walk_at "x"
            refine nxt _ _ _ _ _ _ _ rfl ?_ ?_ (by assumption) <;> omega
          · have h2' : ((if cell < 0 then -cell else cell) : Int) < 10 ^ 18 := by
              have : ((10 : Int) ^ (18 : Int).toNat) = 10 ^ 18 := rfl
              omega
            walk_at "x"
            refine nxt _ _ _ _ _ _ _ rfl ?_ ?_ (by assumption) <;> omega
        · walk_at "x"
          exact nxt _ _ _ _ _ _ _ rfl hi hb (by assumption)
      · walk_at "x"
        exact nxt _ _ _ _ _ _ _ rfl hi hb (by assumption)
    · rintro σ' H' ⟨i, b, c, z, u, rfl, hi, hb, O'⟩
      walk_at "x"
      refine x_iteD (fun h0 => ?_) (fun h0 => ?_)
      · walk_at "x"
        refine fin _ _ _ _ _ _ _ (Int.emod_nonneg _ ?_) (Int.emod_lt_of_pos _ n0) hs ?_ ?_ (by assumption)
        · omega
        · omega
        · exact Int.ediv_nonneg hb (by omega)
      · walk_at "x"
        refine fin _ _ _ _ _ _ _ (Int.emod_nonneg _ ?_) (Int.emod_lt_of_pos _ n0) hs ?_ ?_ (by assumption) <;> omega
abbrev sPo : Stmt := top 22
abbrev NPo : List Str := ["script"]
theorem scPo : FnScope NPo ["script"] (defScope sPo) := ⟨rfl, rfl, rfl, by decide +kernel, rfl, by decide +kernel, by decide +kernel⟩
theorem ok_Po {f : Addr} {fd : FuncData} (F : Fun K "_law_pool" "_law_pool" sPo f fd) (T : Bi mg) : FnOk P w K mg base CX0 1 f fd ["script"] (spPool K) := by
  refine F.ok scPo (fun vs H Q E h => ?_) (fun cdv A outer s H vs Q E hr h => ?_)
  · obtain ⟨a, ns, F, m, rfl, _⟩ := h
    rfl
  · obtain ⟨a, ns, F, m, rfl, hs, O, k⟩ := h
    refine ⟨_, 
    (pss_one (ps_ret (pe_lst (pa_cons (pe_callTy (T := "list") (r := rListOf K) cr_list (by rfl) T.b_list (by decide +kernel) (pa_cons (pv 0) pa_nil)) (pa_cons pe_int (pa_cons pe_int (pa_cons pe_int (pa_cons pe_int pa_nil)))))))), ?_⟩
    walk_at "x"
    refine ⟨a, ns.map V.int, rfl, .inl hs, fun l hl => ?_⟩
    walk_at "x"
    refine x_ownL (O.new hl) (by show 5 ≤ _; decide) (fun p H' hp O' => ?_)
    walk_at "x"
    exact k p H' _ _ (same_new (O.fresh hl)) O' ⟨.ref l, ns, 0, 0, 0, 1, rfl, ⟨l, _, rfl, upd_same, All2.ofmap⟩, by decide, by decide⟩
abbrev sPi : Stmt := top 24
abbrev NPi : List Str := ["pool", "row"]
theorem scPi : FnScope NPi ["pool", "row"] (defScope sPi) := ⟨rfl, rfl, rfl, by decide +kernel, rfl, by decide +kernel, by decide +kernel⟩
theorem ok_Pi {f fC__law_draw : Addr} {fd fd__law_draw : FuncData} (F : Fun K "_law_pick" "_law_pick" sPi f fd) (T : Bi mg) (C__law_draw : Cal P w K mg base "_law_draw" 1 fC__law_draw fd__law_draw ["pool", "many"] spDraw) : FnOk P w K mg base CX0 2 f fd ["pool", "row"] spPick := by
  refine F.ok scPi (fun vs H Q E h => ?_) (fun cdv A outer s H vs Q E hr h => ?_)
  · obtain ⟨p, o, a, us, F, m, rfl, _⟩ := h
    rfl
  · obtain ⟨p, o, a, us, F, m, rfl, O, hp, ha, hn, hl, k⟩ := h
    refine ⟨_, 
    (pss_one (ps_ret (pe_ix (r := rIxL K) ix_list (pv 1) (pe_call C__law_draw.ok (hr.mono (by first | decide | omega)) rfl C__law_draw.mg C__law_draw.kp C__law_draw.bi .nil pass0 (pa_cons (pv 0) (pa_cons (pe_callB (id := "len") (r := rLen K) cr_len (by rfl) T.b_len (by decide +kernel) (pa_cons (pv 1) pa_nil)) pa_nil))) (fun _ _ => rfl)))), ?_⟩
    walk_at "x"
    refine ⟨a, us, rfl, .inl (.inl (.inl (O.frz ha))), ?_⟩
    walk_at "x"
    have h0 : 0 < us.length := List.length_pos_iff.mpr hn
    refine ⟨p, o, _, F, m, rfl, O, hp, by omega, by omega, fun r H' o' h1 h2 O' hp' => ?_⟩
    have hr' : r.toNat < us.length := by omega
    refine ⟨a, us, r, us[r.toNat], rfl, rfl, .inl (.inl (O'.frz ha)), atI_of (j := r.toNat) (by omega) (List.getElem?_eq_getElem hr'), ?_⟩
    exact k _ H' o' (List.getElem_mem hr') O' hp'
abbrev sRa : Stmt := top 25
abbrev NRa : List Str := ["pool", "many"]
theorem scRa : FnScope NRa ["pool", "many"] (defScope sRa) := ⟨rfl, rfl, rfl, by decide +kernel, rfl, by decide +kernel, by decide +kernel⟩
theorem ok_Ra {f fC__law_draw : Addr} {fd fd__law_draw : FuncData} (F : Fun K "_law_rare" "_law_rare" sRa f fd) (T : Bi mg) (C__law_draw : Cal P w K mg base "_law_draw" 1 fC__law_draw fd__law_draw ["pool", "many"] spDraw) : FnOk P w K mg base CX0 2 f fd ["pool", "many"] spRare := by
  refine F.ok scRa (fun vs H Q E h => ?_) (fun cdv A outer s H vs Q E hr h => ?_)
  · obtain ⟨p, o, n, F, m, rfl, _⟩ := h
    rfl
  · obtain ⟨p, o, n, F, m, rfl, O, hp, n0, n1, k⟩ := h
    refine ⟨_, 
    (pss_one (ps_ret (pe_cmpR op_eq (pe_call C__law_draw.ok (hr.mono (by first | decide | omega)) rfl C__law_draw.mg C__law_draw.kp C__law_draw.bi .nil pass0 (pa_cons (pv 0) (pa_cons (pv 1) pa_nil))) (pe_op op_sub (pv 1) pe_int) (nomark _)))), ?_⟩
    walk_at "x"
    refine ⟨p, o, _, F, m, rfl, O, hp, n0, n1, fun r H' o' h1 h2 O' hp' => ?_⟩
    walk_at "x"
    exact k _ H' o' O' hp'
abbrev sFe : Stmt := top 26
abbrev NFe : List Str := ["pool", "usual", "most"]
theorem scFe : FnScope NFe ["pool", "usual", "most"] (defScope sFe) := ⟨rfl, rfl, rfl, by decide +kernel, rfl, by decide +kernel, by decide +kernel⟩
theorem ok_Fe {f fC__law_draw fC__law_rare : Addr} {fd fd__law_draw fd__law_rare : FuncData} (F : Fun K "_law_few" "_law_few" sFe f fd) (T : Bi mg) (C__law_draw : Cal P w K mg base "_law_draw" 1 fC__law_draw fd__law_draw ["pool", "many"] spDraw)
    (C__law_rare : Cal P w K mg base "_law_rare" 2 fC__law_rare fd__law_rare ["pool", "many"] spRare) : FnOk P w K mg base CX0 3 f fd ["pool", "usual", "most"] spFew := by
  refine F.ok scFe (fun vs H Q E h => ?_) (fun cdv A outer s H vs Q E hr h => ?_)
  · obtain ⟨p, o, a, b, F, m, rfl, _⟩ := h
    rfl
  · obtain ⟨p, o, a, b, F, m, rfl, O, hp, a0, a1, b0, b1, k⟩ := h
    refine ⟨_, 
    (pss_cons (ps_if (pt_val (pe_call C__law_rare.ok (hr.mono (by first | decide | omega)) rfl C__law_rare.mg C__law_rare.kp C__law_rare.bi .nil pass0 (pa_cons (pv 0) (pa_cons pe_int pa_nil)))) 
      (pss_one (ps_ret (pe_call C__law_draw.ok (hr.mono (by first | decide | omega)) rfl C__law_draw.mg C__law_draw.kp C__law_draw.bi .nil pass0 (pa_cons (pv 0) (pa_cons (pe_op op_add (pv 2) pe_int) pa_nil))))) pss_nil)
    (pss_one (ps_ret (pe_call C__law_draw.ok (hr.mono (by first | decide | omega)) rfl C__law_draw.mg C__law_draw.kp C__law_draw.bi .nil pass0 (pa_cons (pv 0) (pa_cons (pe_op op_add (pv 1) pe_int) pa_nil)))))), ?_⟩
    walk_at "x"
    refine ⟨p, o, _, F, m, rfl, O, hp, by decide, by decide, fun c H' o' O' hp' => ?_⟩
    walk_at "x"
    refine x_ite (fun _ => ?_) (fun _ => ?_)
    · walk_at "x"
      refine ⟨p, o', _, F, m, rfl, O', hp', by omega, by omega, fun r H2 o2 h1 h2 O2 hp2 => ?_⟩
      exact k r H2 o2 h1 (.inr (by omega)) O2 hp2
    · walk_at "x"
      refine ⟨p, o', _, F, m, rfl, O', hp', by omega, by omega, fun r H2 o2 h1 h2 O2 hp2 => ?_⟩
      exact k r H2 o2 h1 (.inl (by omega)) O2 hp2
abbrev sSa : Stmt := top 27
abbrev NSa : List Str := ["got", "due", "k"]
theorem scSa : FnScope NSa ["got", "due"] (defScope sSa) := ⟨rfl, rfl, rfl, by decide +kernel, rfl, by decide +kernel, by decide +kernel⟩
theorem ok_Sa {f : Addr} {fd : FuncData} (F : Fun K "_law_same" "_law_same" sSa f fd) (T : Bi mg) (mgS : mg "_law_same" = some (.ref f)) (bi : Binds K fd ["got", "due"] []) : ∀ n, FnOk P w K mg base CX0 n f fd ["got", "due"] (spSame n)
  | 0 => fn_never
  | n + 1 => by
    have C__law_same : Cal P w K mg base "_law_same" n f fd ["got", "due"] (spSame n) := ⟨ok_Sa F T mgS bi n, mgS, F.kp, bi⟩
    refine F.ok scSa (fun vs H Q E h => ?_) (fun cdv A outer s H vs Q E hr h => ?_)
    · obtain ⟨v, w, F, m, rfl, _⟩ := h
      rfl
    · obtain ⟨v, w, F, m, rfl, O, hS, k⟩ := h
      refine ⟨_, 
    (pss_cons (ps_if (pt_cmpR op_isNon (pv 1) pe_non (nomark _)) 
      (pss_one (ps_ret (pe_cmpR op_isNon (pv 0) pe_non (nomark _)))) pss_nil)
    (pss_cons (ps_if (pt_cmpR op_isB (pv 1) pe_bl (nomark _)) 
      (pss_one (ps_ret (pe_cmpR op_isB (pv 0) pe_bl (nomark _)))) pss_nil)
    (pss_cons (ps_if (pt_cmpR op_isB (pv 1) pe_bl (nomark _)) 
      (pss_one (ps_ret (pe_cmpR op_isB (pv 0) pe_bl (nomark _)))) pss_nil)
    (pss_cons (ps_if (pt_val (pe_callB call_isi (by rfl) T.b_isinstance (by decide +kernel) (pa_cons (pv 1) (pa_cons (pe_bltn (v := .ty "int") (by rfl) T.b_int (by decide +kernel) rfl) pa_nil)))) 
      (pss_one (ps_ret (pe_and (pe_callB call_isi (by rfl) T.b_isinstance (by decide +kernel) (pa_cons (pv 0) (pa_cons (pe_bltn (v := .ty "int") (by rfl) T.b_int (by decide +kernel) rfl) pa_nil))) (pe_and (pe_not (pe_callB call_isi (by rfl) T.b_isinstance (by decide +kernel) (pa_cons (pv 0) (pa_cons (pe_bltn (v := .ty "bool") (by rfl) T.b_bool (by decide +kernel) rfl) pa_nil)))) (pe_one (pe_cmpR op_eq (pv 0) (pv 1) (nomark _))))))) pss_nil)
    (pss_cons (ps_if (pt_val (pe_callB call_isi (by rfl) T.b_isinstance (by decide +kernel) (pa_cons (pv 1) (pa_cons (pe_bltn (v := .ty "str") (by rfl) T.b_str (by decide +kernel) rfl) pa_nil)))) 
      (pss_one (ps_ret (pe_and (pe_callB call_isi (by rfl) T.b_isinstance (by decide +kernel) (pa_cons (pv 0) (pa_cons (pe_bltn (v := .ty "str") (by rfl) T.b_str (by decide +kernel) rfl) pa_nil))) (pe_one (pe_cmpR op_eq (pv 0) (pv 1) (nomark _)))))) pss_nil)
    (Tf.pss_cut (ps_if (pt_val (pe_callB call_isi (by rfl) T.b_isinstance (by decide +kernel) (pa_cons (pv 1) (pa_cons (pe_bltn (v := .ty "tuple") (by rfl) T.b_tuple (by decide +kernel) rfl) pa_nil)))) 
      (pss_one (ps_if (PW.pt (pw_or (pt_not (pt_val (pe_callB call_isi (by rfl) T.b_isinstance (by decide +kernel) (pa_cons (pv 0) (pa_cons (pe_bltn (v := .ty "tuple") (by rfl) T.b_tuple (by decide +kernel) rfl) pa_nil))))) (pw_or1 (pt_cmpR op_ne (pe_callB (id := "len") (r := rLen K) cr_len (by rfl) T.b_len (by decide +kernel) (pa_cons (pv 0) pa_nil)) (pe_callB (id := "len") (r := rLen K) cr_len (by rfl) T.b_len (by decide +kernel) (pa_cons (pv 1) pa_nil)) (nomark _))))) 
        (pss_one (ps_ret pe_bl)) pss_nil)) 
      (pss_one (ps_if (PW.pt (pw_or (pt_not (pt_val (pe_callB call_isi (by rfl) T.b_isinstance (by decide +kernel) (pa_cons (pv 0) (pa_cons (pe_bltn (v := .ty "list") (by rfl) T.b_list (by decide +kernel) rfl) pa_nil))))) (pw_or1 (pt_cmpR op_ne (pe_callB (id := "len") (r := rLen K) cr_len (by rfl) T.b_len (by decide +kernel) (pa_cons (pv 0) pa_nil)) (pe_callB (id := "len") (r := rLen K) cr_len (by rfl) T.b_len (by decide +kernel) (pa_cons (pv 1) pa_nil)) (nomark _))))) 
        (pss_one (ps_ret pe_bl)) pss_nil)))
    (pss_cons (ps_for PassesOwn.never rfl (pi_range1 (by rfl) T.b_range (pa_cons (pe_callB (id := "len") (r := rLen K) cr_len (by rfl) T.b_len (by decide +kernel) (pa_cons (pv 1) pa_nil)) pa_nil)) (pg_name (i := 2) scSa.nd rfl (Or.inl rfl)) 
      (pss_one (ps_if (pt_not (pt_val (pe_call C__law_same.ok (hr.mono (by first | decide | omega)) rfl C__law_same.mg C__law_same.kp C__law_same.bi .nil pass0 (pa_cons (pe_ix (r := rIx K) ix_seq (pv 0) (pv 2) (fun _ _ => rfl)) (pa_cons (pe_ix (r := rIx K) ix_seq (pv 1) (pv 2) (fun _ _ => rfl)) pa_nil))))) 
        (pss_one (ps_ret pe_bl)) pss_nil)))
    (pss_one (ps_ret pe_bl))))))))), ?_⟩
      walk_at "x"
      have hS2 : (v = w ∧ atomV w = true) ∨ ∃ j a b vs ws, n = j + 1 ∧ v = .ref a ∧ w = .ref b ∧ All2 (Sim F j) vs ws ∧ vs.length < 16777216 ∧ ((F a = some (.tup vs) ∧ F b = some (.tup ws)) ∨ (F a = some (.lst vs) ∧ F b = some (.lst ws))) := by
        cases n with
        | zero => exact .inl hS
        | succ j =>
          rcases hS with hS | ⟨a, b, vs, ws, h⟩
          · exact .inl hS
          · exact .inr ⟨j, a, b, vs, ws, rfl, h⟩
      rcases hS2 with ⟨rfl, hw⟩ | ⟨j, a, b, vs, ws, rfl, rfl, rfl, hr2, hl, hA⟩
      · cases v with
        | non =>
          refine x_iteT (by simp) ?_
          walk_at "x"
          have z := k H O
          simpa using z
        | bl b =>
          refine x_iteF (by simp) ?_
          walk_at "x"
          cases b with
          | true =>
            refine x_iteT (by simp) ?_
            walk_at "x"
            have z := k H O
            simpa using z
          | false =>
            refine x_iteF (by simp) ?_
            walk_at "x"
            refine x_iteT (by simp) ?_
            walk_at "x"
            have z := k H O
            simpa using z
        | int i =>
          refine x_iteF (by simp) ?_
          walk_at "x"
          refine x_iteF (by simp) ?_
          walk_at "x"
          refine x_iteF (by simp) ?_
          walk_at "x"
          refine x_isi (.int i) (b := true) (by decide +kernel) ?_
          walk_at "x"
          refine x_iteT rfl ?_
          walk_at "x"
          refine x_isi (.int i) (b := true) (by decide +kernel) ?_
          walk_at "x"
          refine x_iteT rfl ?_
          walk_at "x"
          refine x_isi (.int i) (b := false) (by decide +kernel) ?_
          walk_at "x"
          refine x_iteT rfl ?_
          walk_at "x"
          have z := k H O
          simpa using z
        | str y =>
          refine x_iteF (by simp) ?_
          walk_at "x"
          refine x_iteF (by simp) ?_
          walk_at "x"
          refine x_iteF (by simp) ?_
          walk_at "x"
          refine x_isi (.str y) (b := false) (by decide +kernel) ?_
          walk_at "x"
          refine x_iteF rfl ?_
          walk_at "x"
          refine x_isi (.str y) (b := true) (by decide +kernel) ?_
          walk_at "x"
          refine x_iteT rfl ?_
          walk_at "x"
          refine x_isi (.str y) (b := true) (by decide +kernel) ?_
          walk_at "x"
          refine x_iteT rfl ?_
          walk_at "x"
          refine ⟨rfl, ?_⟩
          have z := k H O
          simpa using z
        | byt _ => cases hw
        | flt _ => cases hw
        | ref _ => cases hw
        | ty _ => cases hw
      · have hlw : vs.length = ws.length := hr2.length
        refine x_iteF (by simp) ?_
        walk_at "x"
        refine x_iteF (by simp) ?_
        walk_at "x"
        refine x_iteF (by simp) ?_
        walk_at "x"
        have ty : ∃ t, (t = "tuple" ∨ t = "list") ∧ TyOf K H (.ref b) (.type t) ∧ TyOf K H (.ref a) (.type t) := by
          rcases hA with ⟨ha, hb⟩ | ⟨ha, hb⟩
          · exact ⟨"tuple", .inl rfl, .tup (O.frz hb), .tup (O.frz ha)⟩
          · exact ⟨"list", .inr rfl, .lst (O.frz hb), .lst (O.frz ha)⟩
        obtain ⟨t, ht, tb, ta⟩ := ty
        refine x_isi tb (b := false) (by rcases ht with rfl | rfl <;> decide +kernel) ?_
        walk_at "x"
        refine x_iteF rfl ?_
        walk_at "x"
        refine x_isi tb (b := false) (by rcases ht with rfl | rfl <;> decide +kernel) ?_
        walk_at "x"
        refine x_iteF rfl ?_
        walk_at "x"
        have lenA : ∀ {K' : PySem.W.Frag} {Q' : VK}, Q' (.int vs.length) H → rLen K' [.ref a] H Q' := fun {K' Q'} q => by
          rcases hA with ⟨ha, hb⟩ | ⟨ha, hb⟩
          · exact ⟨a, vs, rfl, .inr (.inl (.inl (O.frz ha))), q⟩
          · exact ⟨a, vs, rfl, .inl (.inl (.inl (O.frz ha))), q⟩
        have lenB : ∀ {K' : PySem.W.Frag} {Q' : VK} {H' : Hp} (O' : Own H' F m), Q' (.int vs.length) H' → rLen K' [.ref b] H' Q' := fun {K' Q' H'} O' q => by
          rcases hA with ⟨ha, hb⟩ | ⟨ha, hb⟩
          · exact ⟨b, ws, rfl, .inr (.inl (.inl (O'.frz hb))), by rw [← hlw]; exact q⟩
          · exact ⟨b, ws, rfl, .inl (.inl (.inl (O'.frz hb))), by rw [← hlw]; exact q⟩
        refine x_cut (fun σ' H' => σ' = [some (.ref a), some (.ref b), none] ∧ Own H' F m) ?_ ?_
        · walk_at "x"
          rcases ht with rfl | rfl
          · refine x_isi tb (b := true) (by decide +kernel) ?_
            walk_at "x"
            refine x_iteT rfl ?_
            walk_at "x"
            refine x_isi ta (b := true) (by decide +kernel) ?_
            walk_at "x"
            refine x_iteF rfl ?_
            walk_at "x"
            refine lenA ?_
            walk_at "x"
            refine lenB O ?_
            walk_at "x"
            refine x_iteDn (fun h => (h rfl).elim) (fun _ => ?_)
            walk_at "x"
            exact ⟨rfl, O⟩
          · refine x_isi tb (b := false) (by decide +kernel) ?_
            walk_at "x"
            refine x_iteF rfl ?_
            walk_at "x"
            refine x_isi ta (b := true) (by decide +kernel) ?_
            walk_at "x"
            refine x_iteF rfl ?_
            walk_at "x"
            refine lenA ?_
            walk_at "x"
            refine lenB O ?_
            walk_at "x"
            refine x_iteDn (fun h => (h rfl).elim) (fun _ => ?_)
            walk_at "x"
            exact ⟨rfl, O⟩
        · rintro σ' H' ⟨rfl, O'⟩
          walk_at "x"
          refine lenB O' ?_
          walk_at "x"
          refine x_doR1 (n := vs.length) O' (by simp) (by omega) (by omega) (fun i σ F' m' => m' = m ∧ ∃ u, σ = [some (.ref a), some (.ref b), u]) ⟨rfl, _, rfl⟩ ?_ ?_
          · rintro i σ' H2 F' m' hi s O2 ⟨rfl, u, rfl⟩
            walk_at "x"
            obtain ⟨x, hx⟩ : ∃ x, vs[i]? = some x := ⟨_, List.getElem?_eq_getElem hi⟩
            obtain ⟨y, hy, hxy⟩ := hr2.get hx
            have itemA : ∀ {K' : PySem.W.Frag} {Q' : VK}, Q' x H2 → rIx K' (.ref a) (.int (i : Int)) H2 Q' := fun {K' Q'} q => by
              rcases hA with ⟨ha, hb⟩ | ⟨ha, hb⟩
              · exact .inr (.inl ⟨a, vs, _, x, rfl, rfl, .inl (.inl (O2.frz (s _ _ ha))), atI_of rfl hx, q⟩)
              · exact .inl ⟨a, vs, _, x, rfl, rfl, .inl (.inl (O2.frz (s _ _ ha))), atI_of rfl hx, q⟩
            have itemB : ∀ {K' : PySem.W.Frag} {Q' : VK}, Q' y H2 → rIx K' (.ref b) (.int (i : Int)) H2 Q' := fun {K' Q'} q => by
              rcases hA with ⟨ha, hb⟩ | ⟨ha, hb⟩
              · exact .inr (.inl ⟨b, ws, _, y, rfl, rfl, .inl (.inl (O2.frz (s _ _ hb))), atI_of rfl hy, q⟩)
              · exact .inl ⟨b, ws, _, y, rfl, rfl, .inl (.inl (O2.frz (s _ _ hb))), atI_of rfl hy, q⟩
            refine itemA ?_
            walk_at "x"
            refine itemB ?_
            walk_at "x"
            refine ⟨x, y, F', _, rfl, O2, hxy.up s, fun H3 O3 => ?_⟩
            walk_at "x"
            refine x_iteF rfl ?_
            walk_at "x"
            exact LI.mk s O3 ⟨rfl, _, rfl⟩
          · rintro σ' H2 F' m' s O2 ⟨rfl, u, rfl⟩
            walk_at "x"
            exact k H2 (O2.back s)
end
end Tf
namespace Tf
open PySem PySem.Spec PyProof.Rows L2
section
variable {P : Program} {w : World} {K : PySem.W.Frag} {mg : Str → Option Value} {base : Heap}
abbrev sGI : Stmt := inClass (top 2) 0
abbrev NGI : List Str := ["self", "natural", "stretch", "shrink"]
theorem scGI : FnScope NGI ["self", "natural", "stretch", "shrink"] (defScope sGI) := ⟨rfl, rfl, rfl, by decide +kernel, rfl, by decide +kernel, by decide +kernel⟩
theorem ok_GI {f C : Addr} {fd : FuncData} (F : Fun K "__init__" "Glue.__init__" sGI f fd) (L : GCls K C) : FnOk P w K mg base CX0 1 f fd ["self", "natural", "stretch", "shrink"] (spGInit C) := by
  refine F.ok scGI (fun vs H Q E h => ?_) (fun cdv A outer s H vs Q E hr h => ?_)
  · obtain ⟨x, dx, a, b, c, F, m, rfl, _⟩ := h
    rfl
  · obtain ⟨x, dx, a, b, c, F, m, rfl, O, k⟩ := h
    refine ⟨_, 
    (pss_cons (ps_fld (pv 0) (pv 1) rfl)
    (pss_cons (ps_fld (pv 0) (pv 2) rfl)
    (pss_one (ps_fld (pv 0) (pv 3) rfl)))), ?_⟩
    walk_at "x"
    refine x_setF O L.cl L.n1 (by show 0 < 1000; decide) (fun H1 O1 => ?_)
    walk_at "x"
    refine x_setF O1 L.cl L.n2 (by show 1 < 1000; decide) (fun H2 O2 => ?_)
    walk_at "x"
    refine x_setF O2 L.cl L.n3 (by show 2 < 1000; decide) (fun H3 O3 => ?_)
    rw [gF_make] at O3
    walk_at "x"
    exact k H3 O3
abbrev sGA : Stmt := inClass (top 2) 1
abbrev NGA : List Str := ["self", "other"]
theorem scGA : FnScope NGA ["self", "other"] (defScope sGA) := ⟨rfl, rfl, rfl, by decide +kernel, rfl, by decide +kernel, by decide +kernel⟩
theorem ok_GA {f C f1 : Addr} {fd fd1 : FuncData} (F : Fun K "__add__" "Glue.__add__" sGA f fd) (L : GCls K C) (MkG : Mk K C f1) (GG : FnOk P w K mg base CX0 1 f1 fd1 ["self", "natural", "stretch", "shrink"] (spGInit C)) (mgG : mg "Glue" = some (.ref C)) (bG : Binds K fd1 ["self", "natural", "stretch", "shrink"] []) :
    FnOk P w K mg base CX0 3 f fd ["self", "other"] (spGAdd C) := by
  refine F.ok scGA (fun vs H Q E h => ?_) (fun cdv A outer s H vs Q E hr h => ?_)
  · obtain ⟨v, w, g, h, F, m, rfl, _⟩ := h
    rfl
  · obtain ⟨v, wv, g, h, F, m, rfl, O, ⟨a, dx, rfl, ha⟩, ⟨b, dy, rfl, hb⟩, k⟩ := h
    refine ⟨_, 
    (pss_one (ps_ret (pe_make MkG GG (hr.mono (by first | decide | omega)) rfl mgG bG .nil pass0 (pa_cons (pe_op op_add (pe_fld (pv 0) rfl) (pe_fld (pv 1) rfl)) (pa_cons (pe_op op_add (pe_fld (pv 0) rfl) (pe_fld (pv 1) rfl)) (pa_cons (pe_op op_add (pe_fld (pv 0) rfl) (pe_fld (pv 1) rfl)) pa_nil)))))), ?_⟩
    walk_at "x"
    refine x_fldF O ha L.cl L.n1 gF_n ?_
    walk_at "x"
    refine x_fldF O hb L.cl L.n1 gF_n ?_
    walk_at "x"
    refine x_fldF O ha L.cl L.n2 gF_st ?_
    walk_at "x"
    refine x_fldF O hb L.cl L.n2 gF_st ?_
    walk_at "x"
    refine x_fldF O ha L.cl L.n3 gF_sh ?_
    walk_at "x"
    refine x_fldF O hb L.cl L.n3 gF_sh ?_
    walk_at "x"
    refine x_mkGlue O (fun r H' F' s O' hr => ?_)
    exact k r H' F' s O' hr
abbrev sGL : Stmt := inClass (top 2) 4
abbrev NGL : List Str := ["self"]
theorem scGL : FnScope NGL ["self"] (defScope sGL) := ⟨rfl, rfl, rfl, by decide +kernel, rfl, by decide +kernel, by decide +kernel⟩
theorem ok_GL {f C : Addr} {fd : FuncData} (F : Fun K "least" "Glue.least" sGL f fd) (L : GCls K C) : FnOk P w K mg base CX0 1 f fd ["self"] (spGLeast C) := by
  refine F.ok scGL (fun vs H Q E h => ?_) (fun cdv A outer s H vs Q E hr h => ?_)
  · obtain ⟨v, g, F, m, rfl, _⟩ := h
    rfl
  · obtain ⟨v, g, F, m, rfl, O, ⟨a, dx, rfl, ha⟩, k⟩ := h
    refine ⟨_, 
    (pss_one (ps_ret (pe_op op_sub (pe_fld (pv 0) rfl) (pe_fld (pv 0) rfl)))), ?_⟩
    walk_at "x"
    refine x_fldF O ha L.cl L.n1 gF_n ?_
    walk_at "x"
    refine x_fldF O ha L.cl L.n3 gF_sh ?_
    walk_at "x"
    exact k
abbrev sGP : Stmt := inClass (top 2) 5
abbrev NGP : List Str := ["self"]
theorem scGP : FnScope NGP ["self"] (defScope sGP) := ⟨rfl, rfl, rfl, by decide +kernel, rfl, by decide +kernel, by decide +kernel⟩
theorem ok_GP {f C : Addr} {fd : FuncData} (F : Fun K "plain" "Glue.plain" sGP f fd) (L : GCls K C) : FnOk P w K mg base CX0 1 f fd ["self"] (spGPlain C) := by
  refine F.ok scGP (fun vs H Q E h => ?_) (fun cdv A outer s H vs Q E hr h => ?_)
  · obtain ⟨v, g, F, m, rfl, _⟩ := h
    rfl
  · obtain ⟨v, g, F, m, rfl, O, ⟨a, dx, rfl, ha⟩, k⟩ := h
    refine ⟨_, 
    (pss_one (ps_ret (pe_tup (pa_cons (pe_fld (pv 0) rfl) (pa_cons (pe_fld (pv 0) rfl) (pa_cons (pe_fld (pv 0) rfl) pa_nil)))))), ?_⟩
    walk_at "x"
    refine x_fldF O ha L.cl L.n1 gF_n ?_
    walk_at "x"
    refine x_fldF O ha L.cl L.n2 gF_st ?_
    walk_at "x"
    refine x_fldF O ha L.cl L.n3 gF_sh ?_
    walk_at "x"
    refine x_newT (R := rInt) (xs := [g.1, g.2.1, g.2.2]) O (by show 3 ≤ _; decide) (All2.ofmap (f := V.int)) (fun r H' F' s O' hr => ?_)
    exact k r H' F' s O' hr
abbrev sBn : Stmt := top 5
abbrev NBn : List Str := ["slack", "room"]
theorem scBn : FnScope NBn ["slack", "room"] (defScope sBn) := ⟨rfl, rfl, rfl, by decide +kernel, rfl, by decide +kernel, by decide +kernel⟩
theorem ok_Bn {f : Addr} {fd : FuncData} (F : Fun K "badness" "badness" sBn f fd) (T : Bi mg) (cMB : ∃ t, mg "MOST_BADNESS" = some (.int 10000 t)) : FnOk P w K mg base CX0 1 f fd ["slack", "room"] spBadn := by
  refine F.ok scBn (fun vs H Q E h => ?_) (fun cdv A outer s H vs Q E hr h => ?_)
  · obtain ⟨a, b, rfl, _⟩ := h
    rfl
  · obtain ⟨a, b, rfl, a0, a1, b0, b1, k⟩ := h
    refine ⟨_, 
    (pss_cons (ps_if (pt_cmpR op_eq (pv 0) pe_int (nomark _)) 
      (pss_one (ps_ret pe_int)) pss_nil)
    (pss_cons (ps_if (pt_cmpR op_eq (pv 1) pe_int (nomark _)) 
      (pss_one (ps_ret (Tf.pe_cn rfl cMB))) pss_nil)
    (pss_one (ps_ret (pe_callB (cr_min2 rfl) (by rfl) T.b_min (by decide +kernel) (pa_cons (Tf.pe_cn rfl cMB) (pa_cons (pe_op op_fdivW (pe_op op_mul (pe_op op_mul (pe_op op_mul pe_int (pv 0)) (pv 0)) (pv 0)) (pe_op op_mul (pe_op op_mul (pv 1) (pv 1)) (pv 1))) pa_nil))))))), ?_⟩
    unfold badn at k
    walk_at "x"
    refine x_iteD (fun h => ?_) (fun h => ?_)
    · rw [if_pos h] at k
      walk_at "x"
      exact k
    · rw [if_neg h] at k
      walk_at "x"
      refine x_iteD (fun h2 => ?_) (fun h2 => ?_)
      · rw [if_pos h2] at k
        walk_at "x"
        exact k
      · rw [if_neg h2] at k
        walk_at "x"
        refine x_I (L2.wide_div (b := 186) (Int.mul_pos (Int.mul_pos (by omega) (by omega)) (by omega)) (L2.wide_lt (a := 124) (b := 62) (L2.wide_lt (a := 62) (b := 62) (by omega) (by omega)) (by omega)) (by decide) (by decide)) ?_
        walk_at "x"
        exact k
abbrev sFc : Stmt := top 15
abbrev NFc : List Str := ["height", "glue", "loose", "slack", "bad"]
theorem scFc : FnScope NFc ["height", "glue", "loose"] (defScope sFc) := ⟨rfl, rfl, rfl, by decide +kernel, rfl, by decide +kernel, by decide +kernel⟩
theorem ok_Fc {f C f1 : Addr} {fd fd1 : FuncData} (F : Fun K "fill_cost" "fill_cost" sFc f fd) (L : GCls K C) (C_badness : Cal P w K mg base "badness" 1 f1 fd1 ["slack", "room"] spBadn) : FnOk P w K mg base CX0 2 f fd ["height", "glue", "loose"] (spFill C) := by
  refine F.ok scFc (fun vs H Q E h => ?_) (fun cdv A outer s H vs Q E hr h => ?_)
  · obtain ⟨h, v, g, l, F, m, rfl, _⟩ := h
    rfl
  · obtain ⟨h, v, g, l, F, m, rfl, O, ⟨a, dx, rfl, ha⟩, B, k⟩ := h
    have b1 := B.lo
    have b2 := B.hi
    have b3 := B.s0
    have b4 := B.s1
    have b5 := B.r0
    have b6 := B.r1
    refine ⟨_, 
    (pss_cons (ps_set (i := 3) scFc.nd rfl (Or.inl rfl) (pe_op op_sub (pv 0) (pe_fld (pv 1) rfl)))
    (Tf.pss_cut (ps_if (pt_cmpR op_lt (pv 3) pe_int (nomark _)) 
      (pss_one (ps_set (i := 4) scFc.nd rfl (Or.inl rfl) (pe_call C_badness.ok (hr.mono (by first | decide | omega)) rfl C_badness.mg C_badness.kp C_badness.bi .nil pass0 (pa_cons (pe_un un_neg (pv 3)) (pa_cons (pe_fld (pv 1) rfl) pa_nil))))) 
      (pss_one (ps_if (pt_val (pv 2)) 
        (pss_one (ps_set (i := 4) scFc.nd rfl (Or.inl rfl) pe_int)) 
        (pss_one (ps_set (i := 4) scFc.nd rfl (Or.inl rfl) (pe_call C_badness.ok (hr.mono (by first | decide | omega)) rfl C_badness.mg C_badness.kp C_badness.bi .nil pass0 (pa_cons (pv 3) (pa_cons (pe_fld (pv 1) rfl) pa_nil))))))))
    (pss_one (ps_ret (pe_op op_mul (pe_op op_add pe_int (pv 4)) (pe_op op_add pe_int (pv 4))))))), ?_⟩
    walk_at "x"
    refine x_fldF O ha L.cl L.n1 gF_n ?_
    walk_at "x"
    refine x_cut (fun σ' H' => H' = H ∧ σ' = [some (.int h), some (.ref a), some (.bl l), some (.int (h - g.1)), some (.int (badG h g l))]) ?_ ?_
    · unfold badG
      walk_at "x"
      refine x_iteD (fun h1 => ?_) (fun h1 => ?_)
      · walk_at "x"
        refine x_fldF O ha L.cl L.n3 gF_sh ?_
        walk_at "x"
        refine ⟨_, _, rfl, by omega, by omega, b5, b6, ?_⟩
        walk_at "x"
        refine ⟨rfl, ?_⟩
        rw [if_pos h1]
        rfl
      · walk_at "x"
        refine x_ite (fun h2 => ?_) (fun h2 => ?_)
        · walk_at "x"
          refine ⟨rfl, ?_⟩
          rw [if_neg h1, if_pos h2]
          rfl
        · walk_at "x"
          refine x_fldF O ha L.cl L.n2 gF_st ?_
          walk_at "x"
          refine ⟨_, _, rfl, by omega, by omega, b3, b4, ?_⟩
          walk_at "x"
          refine ⟨rfl, ?_⟩
          rw [if_neg h1, if_neg (by rw [h2]; decide)]
          rfl
    · rintro σ' H' ⟨rfl, rfl⟩
      have hb := badG_b (H := h) (l := l) b3 b5
      unfold fillC at k
      generalize badG h g l = bad at hb k
      walk_at "x"
      exact k
abbrev sWt : Stmt := top 16
abbrev NWt : List Str := ["floats", "lines", "notes", "cost"]
theorem scWt : FnScope NWt ["floats", "lines", "notes"] (defScope sWt) := ⟨rfl, rfl, rfl, by decide +kernel, rfl, by decide +kernel, by decide +kernel⟩
theorem ok_Wt {f : Addr} {fd : FuncData} (F : Fun K "wait_cost" "wait_cost" sWt f fd) (cFW : ∃ t, mg "_FLOAT_WAITS" = some (.int 5000 t)) (cNW : ∃ t, mg "_NOTES_WAIT" = some (.int 2000 t)) (cLW : ∃ t, mg "_LINE_WAITS" = some (.int 100 t)) (cFL : ∃ t, mg "_FIRST_LINE_WAITS" = some (.int 1000000000 t)) :
    FnOk P w K mg base CX0 1 f fd ["floats", "lines", "notes"] spWait := by
  refine F.ok scWt (fun vs H Q E h => ?_) (fun cdv A outer s H vs Q E hr h => ?_)
  · obtain ⟨a, b, c, rfl, _⟩ := h
    rfl
  · obtain ⟨a, b, c, rfl, k⟩ := h
    refine ⟨_, 
    (pss_cons (ps_set (i := 3) scWt.nd rfl (Or.inl rfl) (pe_op op_mul (Tf.pe_cn rfl cFW) (pv 0)))
    (pss_cons (ps_if (pt_cmpR op_gt (pv 1) pe_int (nomark _)) 
      (pss_one (ps_aug (i := 3) scWt.nd rfl (Or.inl rfl) (pe_op op_add (pe_op op_add (Tf.pe_cn rfl cNW) (pe_op op_mul (Tf.pe_cn rfl cLW) (pv 1))) (pe_op op_mul (Tf.pe_cn rfl cFL) (pv 2))) ip_add)) pss_nil)
    (pss_one (ps_ret (pv 3))))), ?_⟩
    unfold waitC at k
    walk_at "x"
    refine x_iteD (fun h => ?_) (fun h => ?_)
    · rw [if_pos (by omega)] at k
      walk_at "x"
      exact k
    · rw [if_neg (by omega)] at k
      walk_at "x"
      exact k
abbrev sRc : Stmt := top 17
abbrev NRc : List Str := ["flags", "counts", "flag"]
theorem scRc : FnScope NRc ["flags"] (defScope sRc) := ⟨rfl, rfl, rfl, by decide +kernel, rfl, by decide +kernel, by decide +kernel⟩
theorem ok_Rc {f : Addr} {fd : FuncData} (F : Fun K "running_counts" "running_counts" sRc f fd) : FnOk P w K mg base CX0 1 f fd ["flags"] spCounts := by
  refine F.ok scRc (fun vs H Q E h => ?_) (fun cdv A outer s H vs Q E hr h => ?_)
  · obtain ⟨v, bs, F, m, rfl, _⟩ := h
    rfl
  · obtain ⟨v, bs, F, m, rfl, O, hv, hl, k⟩ := h
    refine ⟨_, 
    (pss_cons (ps_set (i := 1) scRc.nd rfl (Or.inl rfl) (pe_lst (pa_cons pe_int pa_nil)))
    (pss_cons (ps_for PassesOwn.never rfl (pi_list (pv 0)) (pg_name (i := 2) scRc.nd rfl (Or.inl rfl)) 
      (pss_one (ps_expr (pe_bm PySem.F.plainAttrs_list PySem.F.slot_list_append PySem.F.type_list_append mt_append (pv 1) (pa_cons (pe_ifExp (pt_val (pv 2)) (pe_op op_add (pe_ix (r := rIxL K) ix_list (pv 1) (pe_un un_neg pe_int) (fun _ _ => rfl)) pe_int) (pe_ix (r := rIxL K) ix_list (pv 1) (pe_un un_neg pe_int) (fun _ _ => rfl))) pa_nil)))))
    (pss_one (ps_ret (pv 1))))), ?_⟩
    walk_at "x"
    refine x_ownL (vs := [.int 0]) O (by show 1 ≤ _; decide) (fun c H1 hn1 O1 => ?_)
    walk_at "x"
    refine x_doL O1 hv (fun i σ F' m' => ∃ u, σ = [some v, some (.ref c), u] ∧ m' = (c, .lst ((cnts (bs.take i)).map V.int)) :: m) ⟨_, rfl, rfl⟩ ?_ ?_
    · rintro i b z σ' H2 F2 m2 hi hz s2 O2 ⟨u, rfl, rfl⟩
      have hz : z = .bl b := hz
      subst hz
      have il := (List.getElem?_eq_some_iff.mp hi).1
      have hcl : (cnts (bs.take i)).length = i + 1 := by
        unfold cnts
        rw [List.length_map, List.length_range, List.length_take]
        omega
      have hlast : ((cnts (bs.take i)).map V.int)[((cnts (bs.take i)).map V.int).length - 1]? = some (.int (((bs.take i).filter id).length : Int)) := by
        rw [List.length_map, List.getElem?_map, cnts_last]
        rfl
      have htk : bs.take (i + 1) = bs.take i ++ [b] := by
        rw [List.take_add_one, hi]
        rfl
      walk_at "x"
      refine ⟨ty_list O2.at0, ?_⟩
      walk_at "x"
      have fin : ∀ z : Int, z = (((bs.take i ++ [b]).filter id).length : Int) → rAppend (.ref c) [.int z] H2 (fun _ H1 => LI (fun i σ F' m' => ∃ u, σ = [some v, some (.ref c), u] ∧ m' = (c, .lst ((cnts (bs.take i)).map V.int)) :: m) F (i + 1) [some v, some (.ref c), some (.bl b)] H1) := fun z hz => by
        refine x_append O2 (by rw [List.length_map]; omega) (fun H3 O3 => ?_)
        refine LI.mk s2 O3 ⟨_, rfl, ?_⟩
        rw [htk, cnts_snoc, List.map_append, hz]
        rfl
      cases b with
      | true =>
        refine x_iteT rfl ?_
        walk_at "x"
        refine x_endM O2 List.mem_cons_self hlast ?_
        walk_at "x"
        refine fin _ ?_
        rw [List.filter_append, List.length_append]
        rfl
      | false =>
        refine x_iteF rfl ?_
        walk_at "x"
        refine x_endM O2 List.mem_cons_self hlast ?_
        walk_at "x"
        refine fin _ ?_
        rw [List.filter_append, List.length_append]
        rfl
    · rintro σ' H2 F2 m2 s2 O2 ⟨u, rfl, rfl⟩
      rw [List.take_length] at O2
      walk_at "x"
      exact k (.ref c) H2 _ (s2.trans O2.freeze_same) O2.freeze ⟨c, _, rfl, upd_same, All2.ofmap (f := V.int)⟩
end
end Tf
namespace Tf
open PySem PySem.Spec PyProof.Rows L2
section
variable {P : Program} {w : World} {K : PySem.W.Frag} {mg : Str → Option Value} {base : Heap}
abbrev sPF : Stmt := inClass (top 19) 1
abbrev NPF : List Str := ["self"]
theorem scPF : FnScope NPF ["self"] (defScope sPF) := ⟨rfl, rfl, rfl, by decide +kernel, rfl, by decide +kernel, by decide +kernel⟩
theorem ok_PF {f : Addr} {fd : FuncData} (F : Fun K "first" "PressTask.first" sPF f fd) : FnOk P w K mg base CX0 1 f fd ["self"] spPFirst := by
  refine F.ok scPF (fun vs H Q E h => ?_) (fun cdv A outer s H vs Q E hr h => ?_)
  · obtain ⟨v, F, m, rfl, _⟩ := h
    rfl
  · obtain ⟨v, F, m, rfl, O, k⟩ := h
    refine ⟨_, 
    (pss_one (ps_ret (pe_tup (pa_cons pe_int (pa_cons pe_int (pa_cons pe_int (pa_cons pe_int (pa_cons pe_int pa_nil)))))))), ?_⟩
    walk_at "x"
    refine x_newT (R := rInt) (xs := [0, 0, 0, 0, 0]) O (by show 5 ≤ _; decide) (All2.ofmap (f := V.int)) (fun r H' F' s O' hr => ?_)
    exact k r H' F' s O' hr
abbrev sPE : Stmt := inClass (top 19) 2
abbrev NPE : List Str := ["self", "state"]
theorem scPE : FnScope NPE ["self", "state"] (defScope sPE) := ⟨rfl, rfl, rfl, by decide +kernel, rfl, by decide +kernel, by decide +kernel⟩
theorem ok_PE {f C : Addr} {fd : FuncData} (F : Fun K "is_end" "PressTask.is_end" sPE f fd) (T : Bi mg) (L : PCls K C) : FnOk P w K mg base CX0 1 f fd ["self", "state"] (spPEnd C) := by
  refine F.ok scPE (fun vs H Q E h => ?_) (fun cdv A outer s H vs Q E hr h => ?_)
  · obtain ⟨v, w, T, a, F, m, rfl, _⟩ := h
    rfl
  · obtain ⟨v, wv, T', a, F, m, rfl, O, ⟨x, dx, s1, f1, l1, o1, la1, ma1, rfl, hx, h1, h2, h3, h4, h5, h6⟩, hw, k⟩ := h
    have hu64 := hr.units
    refine ⟨_, 
    (pss_one (ps_ret (pe_cmpR (op_eqD hu64) (pv 1) (pe_tup (pa_cons (pe_callB (id := "len") (r := rLen K) cr_len (by rfl) T.b_len (by decide +kernel) (pa_cons (pe_fld (pv 0) rfl) pa_nil)) (pa_cons pe_int (pa_cons pe_int (pa_cons (pe_callB (id := "len") (r := rLen K) cr_len (by rfl) T.b_len (by decide +kernel) (pa_cons (pe_fld (pv 0) rfl) pa_nil)) (pa_cons (pe_callB (id := "len") (r := rLen K) cr_len (by rfl) T.b_len (by decide +kernel) (pa_cons (pe_fld (pv 0) rfl) pa_nil)) pa_nil)))))) (nomark _)))), ?_⟩
    walk_at "x"
    refine x_fldF O hx L.cl L.n1 pF_1 ?_
    walk_at "x"
    refine x_lenT O h1 ?_
    walk_at "x"
    refine x_fldF O hx L.cl L.n2 pF_2 ?_
    walk_at "x"
    refine x_lenT O h2 ?_
    walk_at "x"
    refine x_fldF O hx L.cl L.n3 pF_3 ?_
    walk_at "x"
    refine x_lenT O h3 ?_
    walk_at "x"
    refine x_newT (R := rInt) (xs := stL (endS T')) O (by show 5 ≤ _; decide) (All2.ofmap (f := V.int)) (fun r H' F' s O' hr => ?_)
    refine x_eqD (R := rTup rInt) O' (up (R := rTup rInt) s hw) hr ?_
    rw [dec_iff stL_inj]
    exact k H' F' s O'
abbrev sPR : Stmt := inClass (top 19) 3
abbrev NPR : List Str := ["self", "state"]
theorem scPR : FnScope NPR ["self", "state"] (defScope sPR) := ⟨rfl, rfl, rfl, by decide +kernel, rfl, by decide +kernel, by decide +kernel⟩
theorem ok_PR {f C : Addr} {fd : FuncData} (F : Fun K "rank" "PressTask.rank" sPR f fd) (L : PCls K C) : FnOk P w K mg base CX0 1 f fd ["self", "state"] (spPRank C) := by
  refine F.ok scPR (fun vs H Q E h => ?_) (fun cdv A outer s H vs Q E hr h => ?_)
  · obtain ⟨v, w, T, a, F, m, rfl, _⟩ := h
    rfl
  · obtain ⟨v, wv, T', a, F, m, rfl, O, ⟨x, dx, s1, f1, l1, o1, la1, ma1, rfl, hx, h1, h2, h3, h4, h5, h6⟩, hw, ha, k⟩ := h
    refine ⟨_, 
    (pss_one (ps_ret (pe_op op_add (pe_op op_add (pe_op op_add (pe_ix (r := rIxL K) ix_list (pe_fld (pv 0) rfl) (pe_ix (r := rIxT K) ix_tup (pv 1) pe_int (fun _ _ => rfl)) (fun _ _ => rfl)) (pe_ix (r := rIxT K) ix_tup (pv 1) pe_int (fun _ _ => rfl))) (pe_ix (r := rIxT K) ix_tup (pv 1) pe_int (fun _ _ => rfl))) (pe_ix (r := rIxT K) ix_tup (pv 1) pe_int (fun _ _ => rfl))))), ?_⟩
    walk_at "x"
    refine x_fldF O hx L.cl L.n10 pF_10 ?_
    walk_at "x"
    refine x_ixTI (j := 0) O hw rfl rfl ?_
    refine x_ixL (R := rInt) (j := a.1) O h6 rfl (upTo_get ha) (fun z hz => ?_)
    have hz : z = .int (mostL T' a.1) := hz
    subst hz
    walk_at "x"
    refine x_ixTI (j := 2) O hw rfl rfl ?_
    walk_at "x"
    refine x_ixTI (j := 3) O hw rfl rfl ?_
    walk_at "x"
    refine x_ixTI (j := 4) O hw rfl rfl ?_
    walk_at "x"
    exact k
abbrev sVa : Stmt := inClass (top 19) 11
abbrev NVa : List Str := ["self", "k", "m", "variant"]
theorem scVa : FnScope NVa ["self", "k", "m"] (defScope sVa) := ⟨rfl, rfl, rfl, by decide +kernel, rfl, by decide +kernel, by decide +kernel⟩
theorem ok_Va {f C : Addr} {fd : FuncData} (F : Fun K "_variant" "PressTask._variant" sVa f fd) (T : Bi mg) (L : PCls K C) : FnOk P w K mg base CX0 1 f fd ["self", "k", "m"] (spVar C) := by
  refine F.ok scVa (fun vs H Q E h => ?_) (fun cdv A outer s H vs Q E hr h => ?_)
  · obtain ⟨v, T, k, j, F, m, rfl, _⟩ := h
    rfl
  · obtain ⟨v, T', k0, j, F, m, rfl, O, ⟨x, dx, s1, f1, l1, o1, la1, ma1, rfl, hx, h1, h2, h3, h4, h5, h6⟩, hk, k⟩ := h
    refine ⟨_, 
    (pss_cons (ps_for PassesOwn.never rfl (pi_tup (pe_ix (r := rIxT K) ix_tup (pe_fld (pv 0) rfl) (pv 1) (fun _ _ => rfl))) (pg_name (i := 3) scVa.nd rfl (Or.inl rfl)) 
      (pss_one (ps_if (pt_cmpR op_eq (pe_callB (id := "len") (r := rLen K) cr_len (by rfl) T.b_len (by decide +kernel) (pa_cons (pe_ix (r := rIxT K) ix_tup (pv 3) pe_int (fun _ _ => rfl)) pa_nil)) (pv 2) (nomark _)) 
        (pss_one (ps_ret (pv 3))) pss_nil)))
    (pss_one (ps_ret pe_non))), ?_⟩
    walk_at "x"
    refine x_fldF O hx L.cl L.n1 pF_1 ?_
    walk_at "x"
    refine x_ixT (R := rStrand) (j := k0) O h1 rfl (strand_get hk) (fun st hst => ?_)
    refine x_doT (R := rVari) O hst (fun i σ F' m' => ∃ u, σ = [some (.ref x), some (.int (k0 : Int)), some (.int (j : Int)), u] ∧ m' = m ∧ ((strand T' k0).take i).find? (fun v => decide (v.2.1.length = j)) = none) ⟨_, rfl, rfl, rfl⟩ ?_ ?_
    · rintro i v z σ' H1 F1 m1 hi hz s1 O1 ⟨u, rfl, rfl, hn⟩
      walk_at "x"
      refine x_tri1 O1 hz (fun a1 ha1 => ?_)
      walk_at "x"
      refine x_lenT O1 ha1 ?_
      walk_at "x"
      refine x_iteD (fun h => ?_) (fun h => ?_)
      · walk_at "x"
        refine k z H1 F1 s1 O1 ?_
        have e : vari T' k0 j = some v := by
          unfold vari
          have e2 : strand T' k0 = (strand T' k0).take i ++ v :: (strand T' k0).drop (i + 1) := by
            have il := (List.getElem?_eq_some_iff.mp hi).1
            have := List.drop_eq_getElem_cons il
            rw [(List.getElem?_eq_some_iff.mp hi).2] at this
            rw [← this, List.take_append_drop]
          rw [e2, List.find?_append, hn]
          show (List.find? (fun v : VarT => decide (v.2.1.length = j)) (v :: _)) = some v
          rw [List.find?_cons, decide_eq_true (show v.2.1.length = j by omega)]
        rw [e]
        exact hz
      · walk_at "x"
        refine LI.mk s1 O1 ⟨_, rfl, rfl, ?_⟩
        rw [List.take_add_one, hi, List.find?_append, hn]
        show (List.find? (fun v : VarT => decide (v.2.1.length = j)) [v]) = none
        rw [List.find?_cons, decide_eq_false (show ¬ v.2.1.length = j by omega)]
        rfl
    · rintro σ' H1 F1 m1 s1 O1 ⟨u, rfl, rfl, hn⟩
      rw [List.take_length] at hn
      walk_at "x"
      refine k .non H1 F1 s1 O1 ?_
      have e : vari T' k0 j = none := hn
      rw [e]
      rfl
abbrev sDf : Stmt := inClass (top 19) 12
abbrev NDf : List Str := ["self", "place", "height", "ahead"]
theorem scDf : FnScope NDf ["self", "place"] (defScope sDf) := ⟨rfl, rfl, rfl, by decide +kernel, rfl, by decide +kernel, by decide +kernel⟩
theorem ok_Df {f C : Addr} {fd : FuncData} (F : Fun K "_due_floats" "PressTask._due_floats" sDf f fd) (T : Bi mg) (L : PCls K C) : FnOk P w K mg base CX0 1 f fd ["self", "place"] (spDueF C) := by
  refine F.ok scDf (fun vs H Q E h => ?_) (fun cdv A outer s H vs Q E hr h => ?_)
  · obtain ⟨v, w, T, p, F, m, rfl, _⟩ := h
    rfl
  · obtain ⟨v, wv, T', p, F, m, rfl, O, ⟨x, dx, s1, f1, l1, o1, la1, ma1, rfl, hx, h1, h2, h3, h4, h5, h6⟩, hw, ok, k⟩ := h
    refine ⟨_, 
    (pss_one (ps_ret (pe_callB (id := "len") (r := rLen K) cr_len (by rfl) T.b_len (by decide +kernel) (pa_cons (pe_lc (own := [("height", 2), ("ahead", 3)]) (g := (gTup K 2 (gCons (gName 2) (gCons (gName 3) gNil)))) rfl scDf.nd (pi_tup (pe_fld (pv 0) rfl)) (blkOk_by (N := NDf) (sc := defScope sDf) (by decide +kernel)) (fun _ _ _ _ _ => (pg_tup (by rfl) (pgs_cons (pg_name (i := 2) scDf.nd rfl (Or.inl rfl)) (pgs_cons (pg_name (i := 3) scDf.nd rfl (Or.inl rfl)) pgs_nil)))) (fun _ _ _ _ _ => (pts_one (pt_cmpR op_le (pv 3) (pe_ix (r := rIxT K) ix_tup (pv 1) pe_int (fun _ _ => rfl)) (nomark _)))) (fun _ _ _ _ _ => pe_int)) pa_nil)))), ?_⟩
    walk_at "x"
    refine x_fldF O hx L.cl L.n2 pF_2 ?_
    refine x_docT (S := rInt) O h2 (fun i F' m' ys => m' = m ∧ ys = ((T'.floats.take i).filter fun f => decide (f.2 ≤ (p.1 : Int))).map fun _ => (1 : Int)) ⟨rfl, by simp⟩ ?_ ?_
    · rintro D acc i q z H1 F1 m1 ys hi hz s1 O1 hacc hyl ⟨rfl, rfl⟩
      refine x_gpair O1 hz (fun a1 a2 ha1 ha2 => ?_)
      have ha1 : a1 = .int q.1 := ha1
      have ha2 : a2 = .int q.2 := ha2
      subst ha1 ha2
      walk_at "x"
      refine ⟨rfl, ?_⟩
      walk_at "x"
      refine x_ixTI (j := 0) O1 (up (R := rTup rInt) s1 hw) rfl rfl ?_
      walk_at "x"
      have := ok.fewF
      have il := (List.getElem?_eq_some_iff.mp hi).1
      refine x_iteD (fun h => ?_) (fun h => ?_)
      · walk_at "x"
        refine x_keep (S := rInt) (z := 1) O1 s1 rfl hacc hyl (by omega) ⟨rfl, ?_⟩
        rw [filt_take_yes hi (decide_eq_true h), List.map_append]
        rfl
      · refine x_skip O1 s1 hacc hyl ⟨rfl, ?_⟩
        rw [filt_take_no hi (decide_eq_false h)]
    · rintro v4 H4 F4 m4 ys s4 O4 hv4 ⟨rfl, rfl⟩
      rw [List.take_length] at hv4
      walk_at "x"
      refine x_lenL O4 hv4 ?_
      rw [List.length_map]
      exact k H4 F4 s4 O4
abbrev sDl : Stmt := inClass (top 19) 13
abbrev NDl : List Str := ["self", "place", "k", "m", "i"]
theorem scDl : FnScope NDl ["self", "place"] (defScope sDl) := ⟨rfl, rfl, rfl, by decide +kernel, rfl, by decide +kernel, by decide +kernel⟩
theorem ok_Dl {f C f1 : Addr} {fd fd1 : FuncData} (F : Fun K "_due_lines" "PressTask._due_lines" sDl f fd) (T : Bi mg) (L : PCls K C) (M_PressTask__variant : Met P w K mg base C "_variant" 1 f1 fd1 ["self", "k", "m"] (spVar C)) : FnOk P w K mg base CX0 2 f fd ["self", "place"] (spDueL C) := by
  refine F.ok scDl (fun vs H Q E h => ?_) (fun cdv A outer s H vs Q E hr h => ?_)
  · obtain ⟨v, w, T, p, F, m, rfl, _⟩ := h
    rfl
  · obtain ⟨v, wv, T', p, F, m, rfl, O, hv, hw, ok, hp, k⟩ := h
    obtain ⟨x, dx, s1, f1, l1, o1, la1, ma1, rfl, hx, h1, h2, h3, h4, h5, h6⟩ := id hv
    have hk : p.1 ≤ T'.strands.length := by
      rcases hp with h | h
      · exact h.1
      · omega
    refine ⟨_, 
    (pss_cons (ps_asg (pv 1) (pg_tup (by rfl) (pgs_cons (pg_name (i := 2) scDl.nd rfl (Or.inl rfl)) (pgs_cons (pg_name (i := 3) scDl.nd rfl (Or.inl rfl)) (pgs_cons (pg_name (i := 4) scDl.nd rfl (Or.inl rfl)) pgs_nil)))))
    (pss_cons (ps_if (pt_cmpR op_eq (pv 4) pe_int (nomark _)) 
      (pss_one (ps_ret (pe_ix (r := rIxL K) ix_list (pe_fld (pv 0) rfl) (pv 2) (fun _ _ => rfl)))) pss_nil)
    (pss_one (ps_ret (pe_op op_add (pe_ix (r := rIxL K) ix_list (pe_fld (pv 0) rfl) (pv 2) (fun _ _ => rfl)) (pe_callB (Tf.cr_sumT rfl) (by rfl) T.b_sum (by decide +kernel) (pa_cons (pe_slice sl_tupA (pe_ix (r := rIxT K) ix_tup (pe_meth (pv 0) M_PressTask__variant.cl M_PressTask__variant.me M_PressTask__variant.ok (hr.mono (by first | decide | omega)) M_PressTask__variant.bi .nil pass0 (pa_cons (pv 2) (pa_cons (pv 3) pa_nil))) pe_int (fun _ _ => rfl)) po_none (po_some (pv 4))) pa_nil))))))), ?_⟩
    walk_at "x"
    refine x_g3I O hw ?_
    walk_at "x"
    refine x_iteD (fun h => ?_) (fun h => ?_)
    · walk_at "x"
      refine x_fldF O hx L.cl L.n9 pF_9 ?_
      walk_at "x"
      refine x_ixL (R := rInt) (j := p.1) O h5 rfl (upTo_get hk) (fun z hz => ?_)
      have hz : z = .int (aheadL T' p.1) := hz
      subst hz
      have e : dueL T' p = aheadL T' p.1 := by
        unfold dueL
        rw [if_pos (by omega)]
      rw [e] at k
      exact k H F (Same.refl F) O
    · walk_at "x"
      refine x_fldF O hx L.cl L.n9 pF_9 ?_
      walk_at "x"
      refine x_ixL (R := rInt) (j := p.1) O h5 rfl (upTo_get hk) (fun z hz => ?_)
      have hz : z = .int (aheadL T' p.1) := hz
      subst hz
      walk_at "x"
      obtain ⟨vv, hvv, hm, V, hl, hlt, hkk⟩ := hp.var ok (by omega)
      refine mq_of (O.frz hx) (pF_non (n := "_variant") (by decide +kernel)) ?_
      walk_at "x"
      refine ⟨_, T', p.1, p.2.1, F, m, rfl, O, hv, hkk, fun r H1 F1 s1 O1 hr => ?_⟩
      rw [hvv] at hr
      walk_at "x"
      refine x_tri2 O1 hr (fun a2 ha2 => ?_)
      walk_at "x"
      refine ⟨_, rfl, ?_⟩
      refine x_slTA O1 ha2 (fun r2 H2 F2 s2 O2 hr2 => ?_)
      rw [cutL_to] at hr2
      walk_at "x"
      refine x_sumTp O2 hr2 ?_
      walk_at "x"
      have e : dueL T' p = aheadL T' p.1 + (vv.2.2.take p.2.2).sum := by
        unfold dueL
        rw [if_neg (by omega), hvv]
        rfl
      rw [e] at k
      exact k H2 F2 (s1.trans s2) O2
abbrev sNc : Stmt := inClass (top 19) 14
abbrev NNc : List Str := ["self", "state", "k", "m", "i"]
theorem scNc : FnScope NNc ["self", "state"] (defScope sNc) := ⟨rfl, rfl, rfl, by decide +kernel, rfl, by decide +kernel, by decide +kernel⟩
theorem ok_Nc {f C f1 : Addr} {fd fd1 : FuncData} (F : Fun K "_next_cost" "PressTask._next_cost" sNc f fd) (T : Bi mg) (L : PCls K C) (M_PressTask__variant : Met P w K mg base C "_variant" 1 f1 fd1 ["self", "k", "m"] (spVar C)) : FnOk P w K mg base CX0 2 f fd ["self", "state"] (spNextC C) := by
  refine F.ok scNc (fun vs H Q E h => ?_) (fun cdv A outer s H vs Q E hr h => ?_)
  · obtain ⟨v, w, T, a, F, m, rfl, _⟩ := h
    rfl
  · obtain ⟨v, wv, T', a, F, m, rfl, O, hv, hw, ok, hp, k⟩ := h
    obtain ⟨x, dx, s1, f1, l1, o1, la1, ma1, rfl, hx, h1, h2, h3, h4, h5, h6⟩ := id hv
    refine ⟨_, 
    (pss_cons (ps_asg (pe_slice sl_tupA (pv 1) po_none (po_some pe_int)) (pg_tup (by rfl) (pgs_cons (pg_name (i := 2) scNc.nd rfl (Or.inl rfl)) (pgs_cons (pg_name (i := 3) scNc.nd rfl (Or.inl rfl)) (pgs_cons (pg_name (i := 4) scNc.nd rfl (Or.inl rfl)) pgs_nil)))))
    (pss_cons (ps_if (pt_cmpR op_eq (pv 2) (pe_callB (id := "len") (r := rLen K) cr_len (by rfl) T.b_len (by decide +kernel) (pa_cons (pe_fld (pv 0) rfl) pa_nil)) (nomark _)) 
      (pss_one (ps_ret pe_non)) pss_nil)
    (pss_cons (ps_if (pt_cmpR op_eq (pv 4) pe_int (nomark _)) 
      (pss_one (ps_ret (pe_ix (r := rIxT K) ix_tup (pe_ix (r := rIxT K) ix_tup (pe_ix (r := rIxT K) ix_tup (pe_ix (r := rIxT K) ix_tup (pe_ix (r := rIxT K) ix_tup (pe_fld (pv 0) rfl) (pv 2) (fun _ _ => rfl)) pe_int (fun _ _ => rfl)) pe_int (fun _ _ => rfl)) pe_int (fun _ _ => rfl)) pe_int (fun _ _ => rfl)))) pss_nil)
    (pss_one (ps_ret (pe_ix (r := rIxT K) ix_tup (pe_ix (r := rIxT K) ix_tup (pe_ix (r := rIxT K) ix_tup (pe_meth (pv 0) M_PressTask__variant.cl M_PressTask__variant.me M_PressTask__variant.ok (hr.mono (by first | decide | omega)) M_PressTask__variant.bi .nil pass0 (pa_cons (pv 2) (pa_cons (pv 3) pa_nil))) pe_int (fun _ _ => rfl)) (pv 4) (fun _ _ => rfl)) pe_int (fun _ _ => rfl))))))), ?_⟩
    walk_at "x"
    refine x_slTA O hw (fun r1 H1 F1 s1 O1 hr1 => ?_)
    have hr1 : rTup rInt F1 (plL a.pl) r1 := by
      have e := cutL_to (stL a) 3
      have e2 : ((3 : Nat) : Int) = 3 := rfl
      rw [e2] at e
      rw [e] at hr1
      exact hr1
    walk_at "x"
    refine x_g3I O1 hr1 ?_
    walk_at "x"
    have hx1 := s1 _ _ hx
    have h11 := up s1 h1
    refine x_fldF O1 hx1 L.cl L.n1 pF_1 ?_
    walk_at "x"
    refine x_lenT O1 h11 ?_
    walk_at "x"
    unfold nextC at k
    refine x_iteD (fun h => ?_) (fun h => ?_)
    · rw [if_pos (by omega)] at k
      walk_at "x"
      exact k H1 F1 s1 O1
    rw [if_neg (by omega)] at k
    walk_at "x"
    refine x_iteD (fun hi => ?_) (fun hi => ?_)
    · rw [if_pos (by omega)] at k
      have hk : a.1 < T'.strands.length := by
        rcases hp with hp | hp
        · have := hp.1
          have e : a.pl.1 = a.1 := rfl
          omega
        · exact hp.1
      have S := ok.strands _ (strand_mem hk)
      obtain ⟨v0, r0, e0⟩ := List.exists_cons_of_ne_nil S.ne
      have hv0 : v0 ∈ strand T' a.1 := by rw [e0]; exact List.mem_cons_self
      obtain ⟨u0, q0, f0⟩ := List.exists_cons_of_ne_nil (List.ne_nil_of_length_pos (S.vars v0 hv0).pos)
      have g0 : (strand T' a.1)[0]? = some v0 := by rw [e0]; rfl
      have g1 : v0.2.1[0]? = some u0 := by rw [f0]; rfl
      walk_at "x"
      refine x_fldF O1 hx1 L.cl L.n1 pF_1 ?_
      walk_at "x"
      refine x_ixT (R := rStrand) (j := a.1) O1 h11 rfl (strand_get hk) (fun st hst => ?_)
      walk_at "x"
      refine x_ixT (R := rVari) (j := 0) O1 hst rfl g0 (fun vv hvv => ?_)
      walk_at "x"
      refine x_tri1 O1 hvv (fun us hus => ?_)
      walk_at "x"
      refine x_ixT (R := rUnit) (j := 0) O1 hus rfl g1 (fun uu huu => ?_)
      walk_at "x"
      refine x_tri2 O1 huu (fun c hc => ?_)
      have hc : c = .int u0.2.2 := hc
      subst hc
      have e : ((strand T' a.pl.1)[0]?).bind (fun v => (v.2.1[0]?).map (·.2.2)) = some u0.2.2 := by
        have e : a.pl.1 = a.1 := rfl
        rw [e, g0]
        show (v0.2.1[0]?).map _ = _
        rw [g1]
        rfl
      rw [e] at k
      exact k H1 F1 s1 O1
    · rw [if_neg (by omega)] at k
      have h0 : 0 < a.pl.2.2 := by
        have : ¬ ((a.2.2.1 : Int) = 0) := hi
        have e : a.pl.2.2 = a.2.2.1 := rfl
        omega
      obtain ⟨vv, hvv, hm, V, hl, hlt, hkk⟩ := hp.var ok h0
      walk_at "x"
      refine mq_of (O1.frz hx1) (pF_non (n := "_variant") (by decide +kernel)) ?_
      walk_at "x"
      refine ⟨_, T', a.1, a.2.1, F1, m, rfl, O1, up s1 hv, hkk, fun r H2 F2 s2 O2 hr => ?_⟩
      have hvv' : vari T' a.1 a.2.1 = some vv := hvv
      rw [hvv'] at hr
      obtain ⟨uu, huu⟩ : ∃ u, vv.2.1[a.2.2.1]? = some u := ⟨_, List.getElem?_eq_getElem (by rw [hl]; exact hlt)⟩
      walk_at "x"
      refine x_tri1 O2 hr (fun us hus => ?_)
      walk_at "x"
      refine x_ixT (R := rUnit) (j := a.2.2.1) O2 hus rfl huu (fun uv huv => ?_)
      walk_at "x"
      refine x_tri2 O2 huv (fun c hc => ?_)
      have hc : c = .int uu.2.2 := hc
      subst hc
      have e : (vari T' a.pl.1 a.pl.2.1).bind (fun v => (v.2.1[a.pl.2.2]?).map (·.2.2)) = some uu.2.2 := by
        rw [hvv]
        show (vv.2.1[a.2.2.1]?).map _ = _
        rw [huu]
        rfl
      rw [e] at k
      exact k H2 F2 (s1.trans s2) O2
abbrev sLo : Stmt := inClass (top 19) 15
abbrev NLo : List Str := ["self", "state"]
theorem scLo : FnScope NLo ["self", "state"] (defScope sLo) := ⟨rfl, rfl, rfl, by decide +kernel, rfl, by decide +kernel, by decide +kernel⟩
theorem ok_Lo {f C f1 f2 : Addr} {fd fd1 fd2 : FuncData} (F : Fun K "_loose" "PressTask._loose" sLo f fd) (cMUST : ∃ t, mg "MUST" = some (.int (-1) t)) (M_PressTask_is_end : Met P w K mg base C "is_end" 1 f1 fd1 ["self", "state"] (spPEnd C)) (M_PressTask__next_cost : Met P w K mg base C "_next_cost" 2 f2 fd2 ["self", "state"] (spNextC C)) :
    FnOk P w K mg base CX0 3 f fd ["self", "state"] (spLoose C) := by
  refine F.ok scLo (fun vs H Q E h => ?_) (fun cdv A outer s H vs Q E hr h => ?_)
  · obtain ⟨v, w, T, a, F, m, rfl, _⟩ := h
    rfl
  · obtain ⟨v, wv, T', a, F, m, rfl, O, hv, hw, ok, hp, k⟩ := h
    obtain ⟨x, dx, s1, f1, l1, o1, la1, ma1, rfl, hx, h1, h2, h3, h4, h5, h6⟩ := id hv
    refine ⟨_, 
    (pss_one (ps_ret (pe_or (pe_meth (pv 0) M_PressTask_is_end.cl M_PressTask_is_end.me M_PressTask_is_end.ok (hr.mono (by first | decide | omega)) M_PressTask_is_end.bi .nil pass0 (pa_cons (pv 1) pa_nil)) (pe_one (pe_cmpR op_eq (pe_meth (pv 0) M_PressTask__next_cost.cl M_PressTask__next_cost.me M_PressTask__next_cost.ok (hr.mono (by first | decide | omega)) M_PressTask__next_cost.bi .nil pass0 (pa_cons (pv 1) pa_nil)) (Tf.pe_cn rfl cMUST) (nomark _)))))), ?_⟩
    walk_at "x"
    refine mq_of (O.frz hx) (pF_non (n := "is_end") (by decide +kernel)) ?_
    walk_at "x"
    refine ⟨_, wv, T', a, F, m, rfl, O, hv, hw, fun H1 F1 s1 O1 => ?_⟩
    walk_at "x"
    unfold looseB at k
    refine x_iteD (fun h => ?_) (fun h => ?_)
    · rw [decide_eq_true h, Bool.true_or] at k
      walk_at "x"
      exact k H1 F1 s1 O1
    · rw [decide_eq_false h, Bool.false_or] at k
      walk_at "x"
      refine mq_of (O1.frz (s1 _ _ hx)) (pF_non (n := "_next_cost") (by decide +kernel)) ?_
      walk_at "x"
      refine ⟨_, wv, T', a, F1, m, rfl, O1, up s1 hv, up (R := rTup rInt) s1 hw, ok, hp, fun H2 F2 s2 O2 => ?_⟩
      cases e : nextC T' a.pl with
      | none =>
        rw [e] at k
        refine ⟨rfl, ?_⟩
        have e3 : decide (optV none = V.int (-1)) = false := decide_eq_false fun z => by cases z
        have e4 : decide ((none : Option Int) = some (-1)) = false := rfl
        rw [e3]
        rw [e4] at k
        exact k H2 F2 (s1.trans s2) O2
      | some c =>
        rw [e] at k
        show rEq (.int c) _ H2 _
        walk_at "x"
        have e2 : decide (c = -1) = decide (some c = some (-1)) := dec_iff ⟨fun h => by rw [h], fun h => Option.some.inj h⟩
        rw [e2]
        exact k H2 F2 (s1.trans s2) O2
end
end Tf
namespace Tf
open PySem PySem.Spec PyProof.Rows L2
theorem runU_len {H : Int} : ∀ (us : List UnitT) (fs : List Fi), (runU H us fs).length ≤ fs.length
  | [], _ => Nat.le_refl _
  | u :: us, fs => Nat.le_trans (runU_len us (fs.filterMap (withU H u))) (List.length_filterMap_le _ _)
theorem runU_snoc {H : Int} {us : List UnitT} {u : UnitT} {fs : List Fi} : runU H (us ++ [u]) fs = (runU H us fs).filterMap (withU H u) := by
  unfold runU
  rw [List.foldl_append]
  rfl
theorem sum_take_one {l : List Int} {i : Nat} {x : Int} (h : l[i]? = some x) : (l.take (i + 1)).sum = (l.take i).sum + x := by
  rw [List.take_add_one, h, sum_app]
  show _ + [x].sum = _
  simp
section
variable {P : Program} {w : World} {K : PySem.W.Frag} {mg : Str → Option Value} {base : Heap}
abbrev sWu : Stmt := inClass (top 19) 19
abbrev NWu : List Str := ["self", "fills", "unit", "height", "gap", "cost", "found", "glue", "paid", "filling", "more"]
theorem scWu : FnScope NWu ["self", "fills", "unit"] (defScope sWu) := ⟨rfl, rfl, rfl, by decide +kernel, rfl, by decide +kernel, by decide +kernel⟩
theorem ok_Wu {f C CG f1 f2 p3 f3 : Addr} {fd fd1 fd2 fd3 : FuncData} (F : Fun K "_with_unit" "PressTask._with_unit" sWu f fd) (T : Bi mg) (L : PCls K C) (cMUST : ∃ t, mg "MUST" = some (.int (-1) t))
    (MkG : Mk K CG f1) (GG : FnOk P w K mg base CX0 1 f1 fd1 ["self", "natural", "stretch", "shrink"] (spGInit CG)) (mgG : mg "Glue" = some (.ref CG)) (bG : Binds K fd1 ["self", "natural", "stretch", "shrink"] [])
    (A_Glue : Adp P w K mg base CG 3 f2 (spGAdd CG)) (P_least : Prp P w K mg base CG "least" 1 p3 f3 fd3 (spGLeast CG)) : FnOk P w K mg base CX0 4 f fd ["self", "fills", "unit"] (spWithU C CG) := by
  refine F.ok scWu (fun vs H Q E h => ?_) (fun cdv A outer s H vs Q E hr h => ?_)
  · obtain ⟨v, w, z, T, fs, u, F, m, rfl, _⟩ := h
    rfl
  · obtain ⟨v, wv, uv, T', fs, u, F, m, rfl, O, hv, hw, hu, hfl, k⟩ := h
    obtain ⟨x, dx, s1, f1, l1, o1, la1, ma1, rfl, hx, h1, h2, h3, h4, h5, h6⟩ := id hv
    refine ⟨_, 
    (pss_cons (ps_asg (pv 2) (pg_tup (by rfl) (pgs_cons (pg_name (i := 3) scWu.nd rfl (Or.inl rfl)) (pgs_cons (pg_name (i := 4) scWu.nd rfl (Or.inl rfl)) (pgs_cons (pg_name (i := 5) scWu.nd rfl (Or.inl rfl)) pgs_nil)))))
    (pss_cons (ps_set (i := 6) scWu.nd rfl (Or.inl rfl) (pe_lst pa_nil))
    (pss_cons (ps_for PassesOwn.never rfl (pi_list (pv 1)) (pg_tup (by rfl) (pgs_cons (pg_name (i := 7) scWu.nd rfl (Or.inl rfl)) (pgs_cons (pg_name (i := 8) scWu.nd rfl (Or.inl rfl)) (pgs_cons (pg_name (i := 9) scWu.nd rfl (Or.inl rfl)) pgs_nil)))) 
      (Tf.pss_cut (ps_if (pt_cmpR op_isNon (pv 7) pe_non (nomark _)) 
        (pss_one (ps_set (i := 10) scWu.nd rfl (Or.inl rfl) (pe_make MkG GG (hr.mono (by first | decide | omega)) rfl mgG bG .nil pass0 (pa_cons (pv 3) (pa_cons pe_int (pa_cons pe_int pa_nil)))))) 
        (pss_one (ps_set (i := 10) scWu.nd rfl (Or.inl rfl) (pe_op (Tf.op_addO A_Glue.b A_Glue.f (hr.mono (by first | decide | omega))) (pv 7) (pe_make MkG GG (hr.mono (by first | decide | omega)) rfl mgG bG .nil pass0 (pa_cons (pe_op op_add (pv 3) (pe_ix (r := rIxT K) ix_tup (pv 4) pe_int (fun _ _ => rfl))) (pa_cons (pe_ix (r := rIxT K) ix_tup (pv 4) pe_int (fun _ _ => rfl)) (pa_cons (pe_ix (r := rIxT K) ix_tup (pv 4) pe_int (fun _ _ => rfl)) pa_nil))))))))
      (pss_one (ps_if (PW.pt (pw_and (pt_cmpR op_le (pe_prop (pv 10) P_least.cl P_least.hp P_least.ok (hr.mono (by first | decide | omega)) P_least.bi .nil pass0 rfl) (pe_fld (pv 0) rfl) (nomark _)) (pw_and1 (PW.pt (pw_or (pt_cmpR op_isNon (pv 7) pe_non (nomark _)) (pw_or1 (pt_cmpR op_ne (pv 5) (Tf.pe_cn rfl cMUST) (nomark _)))))))) 
        (pss_one (ps_expr (pe_bm PySem.F.plainAttrs_list PySem.F.slot_list_append PySem.F.type_list_append mt_append (pv 6) (pa_cons (pe_tup (pa_cons (pv 10) (pa_cons (pv 8) (pa_cons (pv 9) pa_nil)))) pa_nil)))) pss_nil))))
    (pss_one (ps_ret (pv 6)))))), ?_⟩
    walk_at "x"
    refine x_gtri O hu (fun a1 a2 a3 ha1 ha2 ha3 => ?_)
    have ha1 : a1 = .int u.1 := ha1
    have ha3 : a3 = .int u.2.2 := ha3
    subst ha1 ha3
    walk_at "x"
    refine x_ownL (vs := []) O (Nat.zero_le _) (fun fnd H1 hn1 O1 => ?_)
    walk_at "x"
    refine x_doL O1 hw (fun i σ F' m' => ∃ (us : List V) (u7 u8 u9 u10 : Option V), σ = [some (.ref x), some wv, some uv, some (.int u.1), some a2, some (.int u.2.2), some (.ref fnd), u7, u8, u9, u10] ∧ m' = (fnd, .lst us) :: m ∧ All2 (rFi CG F') ((fs.take i).filterMap (withU T'.tall u)) us)
      ⟨[], _, _, _, _, rfl, rfl, .nil⟩ ?_ ?_
    · rintro i q z σ' H2 F2 m2 hi hz s2 O2 ⟨us, u7, u8, u9, u10, rfl, rfl, hus⟩
      have il := (List.getElem?_eq_some_iff.mp hi).1
      refine x_gtri O2 hz (fun g1 g2 g3 hg1 hg2 hg3 => ?_)
      have hg2 : g2 = .int q.2.1 := hg2
      subst hg2
      have hul : us.length ≤ i := by
        rw [← hus.length]
        refine Nat.le_trans (List.length_filterMap_le _ _) ?_
        rw [List.length_take]
        omega
      walk_at "x"
      refine x_cut (fun σ' H' => ∃ (mv : V) (F3 : Hp), σ' = [some (.ref x), some wv, some uv, some (.int u.1), some a2, some (.int u.2.2), some (.ref fnd), some g1, some (.int q.2.1), some g3, some mv] ∧ Same F2 F3 ∧ Own H' F3 ((fnd, .lst us) :: m) ∧ rGlue CG F3 (glueU q.1 u) mv) ?_ ?_
      · walk_at "x"
        cases eq : q.1 with
        | none =>
          rw [eq] at hg1
          have hg1 : g1 = .non := hg1
          subst hg1
          refine x_iteT rfl ?_
          walk_at "x"
          refine x_mkGlue O2 (fun r H3 F3 s3 O3 hr3 => ?_)
          walk_at "x"
          exact ⟨r, F3, rfl, s3, O3, hr3⟩
        | some g =>
          rw [eq] at hg1
          have hg1 : rGlue CG F2 g g1 := hg1
          obtain ⟨ga, gdx, rfl, hga⟩ := id hg1
          refine x_iteF rfl ?_
          walk_at "x"
          have hgap := up s2 ha2
          refine x_tri0 O2 hgap (fun b0 hb0 => ?_)
          have hb0 : b0 = .int u.2.1.1 := hb0
          subst hb0
          walk_at "x"
          refine x_tri1 O2 hgap (fun b1 hb1 => ?_)
          have hb1 : b1 = .int u.2.1.2.1 := hb1
          subst hb1
          walk_at "x"
          refine x_tri2 O2 hgap (fun b2 hb2 => ?_)
          have hb2 : b2 = .int u.2.1.2.2 := hb2
          subst hb2
          walk_at "x"
          refine x_mkGlue O2 (fun r H3 F3 s3 O3 hr3 => ?_)
          refine x_addGlue O3 (up s3 hg1) hr3 (fun r4 H4 F4 s4 O4 hr4 => ?_)
          walk_at "x"
          exact ⟨r4, F4, rfl, s3.trans s4, O4, hr4⟩
      · rintro σ' H3 ⟨mv, F3, rfl, s3, O3, hmv⟩
        have s23 := s2.trans s3
        have hskip : withU T'.tall u q = none → LI (fun i σ F' m' => ∃ (us : List V) (u7 u8 u9 u10 : Option V), σ = [some (.ref x), some wv, some uv, some (.int u.1), some a2, some (.int u.2.2), some (.ref fnd), u7, u8, u9, u10] ∧ m' = (fnd, .lst us) :: m ∧ All2 (rFi CG F') ((fs.take i).filterMap (withU T'.tall u)) us)
            F (i + 1) [some (.ref x), some wv, some uv, some (.int u.1), some a2, some (.int u.2.2), some (.ref fnd), some g1, some (.int q.2.1), some g3, some mv] H3 := fun e => by
          refine LI.mk s23 O3 ⟨us, _, _, _, _, rfl, rfl, ?_⟩
          rw [fm_take hi, e]
          show All2 _ (_ ++ []) us
          rw [List.append_nil]
          exact all2_up s3 hus
        walk_at "x"
        refine x_least O3 hmv ?_
        walk_at "x"
        refine x_fldF O3 (s23 _ _ hx) L.cl L.n4 pF_4 ?_
        walk_at "x"
        refine x_iteD (fun hle => ?_) (fun hle => ?_)
        · walk_at "x"
          refine x_orC (c := !decide (u.2.2 = -1)) (fun h => ?_) ?_
          · walk_at "x"
            exact h
          refine x_ite (fun hor => ?_) (fun hor => ?_)
          · walk_at "x"
            refine ⟨ty_list O3.at0, ?_⟩
            walk_at "x"
            refine x_newTri (R := rOpt (rGlue CG)) (S := rInt) (T := rTup rInt) (x := some (glueU q.1 u)) (y := q.2.1) (z := q.2.2) O3 hmv rfl (up s3 hg3) (fun r4 H4 F4 s4 O4 hr4 => ?_)
            walk_at "x"
            refine x_append O4 (by omega) (fun H5 O5 => ?_)
            walk_at "x"
            refine LI.mk (s23.trans s4) O5 ⟨_, _, _, _, _, rfl, rfl, ?_⟩
            have e : withU T'.tall u q = some (some (glueU q.1 u), q.2) := by
              unfold withU
              rw [if_pos]
              refine ⟨hle, ?_⟩
              cases eq : q.1 with
              | none => exact .inl rfl
              | some g =>
                rw [eq] at hg1
                obtain ⟨ga, gdx, rfl, hga⟩ := hg1
                refine .inr fun z => ?_
                rw [z] at hor
                cases hor
            rw [fm_take hi, e]
            exact (all2_up (s3.trans s4) hus).snoc hr4
          · walk_at "x"
            refine hskip ?_
            unfold withU
            rw [if_neg]
            rintro ⟨_, hc⟩
            rw [Bool.or_eq_false_iff] at hor
            rcases hc with hc | hc
            · rw [hc] at hg1
              have hg1 : g1 = .non := hg1
              subst hg1
              cases hor.1
            · rw [decide_eq_false hc] at hor
              cases hor.2
        · walk_at "x"
          refine hskip ?_
          unfold withU
          rw [if_neg fun z => hle z.1]
    · rintro σ' H2 F2 m2 s2 O2 ⟨us, u7, u8, u9, u10, rfl, rfl, hus⟩
      rw [List.take_length] at hus
      walk_at "x"
      have s3 := O2.freeze_same
      exact k (.ref fnd) H2 _ (s2.trans s3) O2.freeze ⟨fnd, us, rfl, upd_same, all2_up s3 hus⟩
abbrev sTh : Stmt := inClass (top 19) 18
abbrev NTh : List Str := ["self", "spots", "k", "units", "start", "fills", "index"]
theorem scTh : FnScope NTh ["self", "spots", "k", "units", "start", "fills"] (defScope sTh) := ⟨rfl, rfl, rfl, by decide +kernel, rfl, by decide +kernel, by decide +kernel⟩
theorem ok_Th {f C CG f1 : Addr} {fd fd1 : FuncData} (F : Fun K "_through" "PressTask._through" sTh f fd) (T : Bi mg) (L : PCls K C) (M_PressTask__with_unit : Met P w K mg base C "_with_unit" 4 f1 fd1 ["self", "fills", "unit"] (spWithU C CG)) :
    FnOk P w K mg base CX0 5 f fd ["self", "spots", "k", "units", "start", "fills"] (spThrough C CG) := by
  refine F.ok scTh (fun vs H Q E h => ?_) (fun cdv A outer s H vs Q E hr h => ?_)
  · obtain ⟨v, sp, k, w, start, z, T, us, fs, zs, F, m, rfl, _⟩ := h
    rfl
  · obtain ⟨v, sp, kk, wv, start, fv, T', us, fs, zs, F, m, rfl, O, hv, hw, hf, hfl, hul, hst, hzl, k⟩ := h
    obtain ⟨x, dx, s1, f1, l1, o1, la1, ma1, rfl, hx, h1, h2, h3, h4, h5, h6⟩ := id hv
    refine ⟨_, 
    (pss_cons (ps_for PassesOwn.never rfl (pi_range2 (by rfl) T.b_range (pa_cons (pv 4) (pa_cons (pe_callB (id := "len") (r := rLen K) cr_len (by rfl) T.b_len (by decide +kernel) (pa_cons (pv 3) pa_nil)) pa_nil))) (pg_name (i := 6) scTh.nd rfl (Or.inl rfl)) 
      (pss_cons (ps_if (pt_cmpR op_gt (pv 6) (pv 4) (nomark _)) 
        (pss_one (ps_expr (pe_bm PySem.F.plainAttrs_list PySem.F.slot_list_append PySem.F.type_list_append mt_append (pv 1) (pa_cons (pe_tup (pa_cons (pe_tup (pa_cons (pv 2) (pa_cons (pe_callB (id := "len") (r := rLen K) cr_len (by rfl) T.b_len (by decide +kernel) (pa_cons (pv 3) pa_nil)) (pa_cons (pv 6) pa_nil)))) (pa_cons (pv 5) pa_nil))) pa_nil)))) pss_nil)
      (pss_one (ps_set (i := 5) scTh.nd rfl (Or.inl rfl) (pe_meth (pv 0) M_PressTask__with_unit.cl M_PressTask__with_unit.me M_PressTask__with_unit.ok (hr.mono (by first | decide | omega)) M_PressTask__with_unit.bi .nil pass0 (pa_cons (pv 5) (pa_cons (pe_ix (r := rIxT K) ix_tup (pv 3) (pv 6) (fun _ _ => rfl)) pa_nil)))))))
    (pss_one (ps_ret (pv 5)))), ?_⟩
    walk_at "x"
    refine x_lenT O hw ?_
    obtain ⟨n, hn⟩ : ∃ n : Nat, start + n = us.length := ⟨us.length - start, by omega⟩
    refine x_doR2 (n := n) O (by omega) (by omega) (fun i σ F' m' => ∃ (zv : V) (ys : List V) (u6 : Option V), σ = [some (.ref x), some (.ref sp), some (.int (kk : Int)), some wv, some (.int (start : Int)), some zv, u6] ∧ m' = (sp, .lst (zs ++ ys)) :: m ∧ rFis CG F' (runU T'.tall ((us.drop start).take i) fs) zv ∧
      All2 (rSpot CG F') ((throughS T'.tall kk us start fs).take (i - 1)) ys) ⟨fv, [], _, rfl, by rw [List.append_nil], hf, .nil⟩ ?_ ?_
    · rintro i σ' H1 F1 m1 hi s1 O1 ⟨zv, ys, u6, rfl, rfl, hzv, hys⟩
      obtain ⟨u, hu⟩ : ∃ u, us[start + i]? = some u := ⟨_, List.getElem?_eq_getElem (by omega)⟩
      have hrl := runU_len (H := T'.tall) ((us.drop start).take i) fs
      have hyl : ys.length ≤ 8 := by
        rw [← hys.length, List.length_take]
        unfold throughS
        rw [List.length_map, List.length_range]
        omega
      have hx1 := s1 _ _ hx
      have fin : ∀ (H2 F2 : Hp) (ys2 : List V), Same F1 F2 → Own H2 F2 ((sp, .lst (zs ++ ys2)) :: m) → All2 (rSpot CG F2) ((throughS T'.tall kk us start fs).take (i + 1 - 1)) ys2 → rIxT K wv (.int ((start : Int) + (i : Int))) H2 (fun y H3 => spWithU C CG [.ref x, zv, y] H3 (fun r H4 => LI (fun i σ F' m' => ∃ (zv : V) (ys : List V) (u6 : Option V), σ = [some (.ref x), some (.ref sp), some (.int (kk : Int)), some wv, some (.int (start : Int)), some zv, u6] ∧ m' = (sp, .lst (zs ++ ys)) :: m ∧ rFis CG F' (runU T'.tall ((us.drop start).take i) fs) zv ∧
          All2 (rSpot CG F') ((throughS T'.tall kk us start fs).take (i - 1)) ys) F (i + 1) [some (.ref x), some (.ref sp), some (.int (kk : Int)), some wv, some (.int (start : Int)), some r, some (.int ((start : Int) + (i : Int)))] H4) E0) := fun H2 F2 ys2 s2 O2 hys2 => by
        refine x_ixT (R := rUnit) (j := start + i) O2 (up (s1.trans s2) hw) (by omega) hu (fun uv huv => ?_)
        refine ⟨_, zv, uv, T', _, u, F2, _, rfl, O2, up (s1.trans s2) hv, up s2 hzv, huv, by omega, fun r H3 F3 s3 O3 hr3 => ?_⟩
        refine LI.mk (s1.trans (s2.trans s3)) O3 ⟨r, ys2, _, rfl, rfl, ?_, all2_up s3 hys2⟩
        have e : (us.drop start).take (i + 1) = (us.drop start).take i ++ [u] := by
          rw [List.take_add_one, List.getElem?_drop, hu]
          rfl
        rw [e, runU_snoc]
        exact hr3
      walk_at "x"
      refine x_iteD (fun hlt => ?_) (fun hlt => ?_)
      · walk_at "x"
        refine ⟨ty_list O1.at0, ?_⟩
        walk_at "x"
        refine x_lenT O1 (up s1 hw) ?_
        walk_at "x"
        refine x_newT (R := rInt) (xs := [(kk : Int), (us.length : Int), (start : Int) + (i : Int)]) O1 (by show 3 ≤ _; decide) (All2.ofmap (f := V.int)) (fun pv H2 F2 s2 O2 hpv => ?_)
        walk_at "x"
        have e1 : (start : Int) + (i : Int) = ((start + (i - 1) + 1 : Nat) : Int) := by omega
        have hpv : rPl F2 (kk, us.length, start + (i - 1) + 1) pv := by
          rw [e1] at hpv
          exact hpv
        refine x_newPair (R := rPl) (S := rFis CG) (x := (kk, us.length, start + (i - 1) + 1)) (y := runU T'.tall ((us.drop start).take i) fs) O2 hpv (up s2 hzv) (fun qv H3 F3 s3 O3 hqv => ?_)
        walk_at "x"
        refine x_append O3 (by rw [List.length_append]; omega) (fun H4 O4 => ?_)
        walk_at "x"
        refine mq_of (O4.frz ((s2.trans s3) _ _ hx1)) (pF_non (n := "_with_unit") (by decide +kernel)) ?_
        walk_at "x"
        rw [List.append_assoc] at O4
        refine fin H4 F3 (ys ++ [qv]) (s2.trans s3) O4 ?_
        have e2 : (throughS T'.tall kk us start fs)[i - 1]? = some ((kk, us.length, start + (i - 1) + 1), runU T'.tall ((us.drop start).take i) fs) := by
          unfold throughS
          rw [List.getElem?_map, List.getElem?_range (by omega)]
          show some (_, runU _ ((us.drop start).take (i - 1 + 1)) fs) = _
          have : i - 1 + 1 = i := by omega
          rw [this]
        have e3 : i + 1 - 1 = (i - 1) + 1 := by omega
        rw [e3, List.take_add_one, e2]
        exact (all2_up (s2.trans s3) hys).snoc hqv
      · have i0 : i = 0 := by omega
        subst i0
        walk_at "x"
        refine mq_of (O1.frz hx1) (pF_non (n := "_with_unit") (by decide +kernel)) ?_
        walk_at "x"
        exact fin H1 F1 ys (Same.refl _) O1 hys
    · rintro σ' H1 F1 m1 s1 O1 ⟨zv, ys, u6, rfl, rfl, hzv, hys⟩
      walk_at "x"
      have e1 : (us.drop start).take n = us.drop start := List.take_of_length_le (by rw [List.length_drop]; omega)
      have e2 : (throughS T'.tall kk us start fs).take (n - 1) = throughS T'.tall kk us start fs := List.take_of_length_le (by
        unfold throughS
        rw [List.length_map, List.length_range]
        omega)
      rw [e1] at hzv
      rw [e2] at hys
      exact k zv H1 F1 ys s1 O1 hys hzv
end
end Tf
namespace Tf
open PySem PySem.Spec PyProof.Rows L2
structure LF (fs : List Fi) (n : Nat) (al : List (G3 × (Int × List Int))) : Prop where
  mem : ∀ p ∈ al, (some p.1, p.2) ∈ fs.take n
  all : ∀ f ∈ fs.take n, ∃ g x, f.1 = some g ∧ getA al g = some x ∧ ltPF f.2 x = false
  len : al.length ≤ n
theorem LF.put {fs : List Fi} {n : Nat} {al : List (G3 × (Int × List Int))} {f : Fi} {g : G3} (h : LF fs n al) (hf : fs[n]? = some f) (hg : f.1 = some g) (hc : ∀ x, getA al g = some x → ltPF f.2 x = true) : LF fs (n + 1) (putA al g f.2) where
  mem := fun p hp => by
    rw [List.take_add_one, hf]
    rcases putA_mem hp with hp | rfl
    · exact List.mem_append_left _ (h.mem p hp)
    · refine List.mem_append_right _ ?_
      rw [← hg]
      exact List.mem_cons_self
  all := fun f' hf' => by
    rw [List.take_add_one, hf] at hf'
    rcases List.mem_append.mp hf' with hf' | hf'
    · obtain ⟨g', x', h1, h2, h3⟩ := h.all f' hf'
      by_cases e : g' = g
      · subst e
        refine ⟨g', f.2, h1, by rw [getA_put, if_pos rfl], ?_⟩
        have := hc x' h2
        refine le_trPF ?_ h3
        cases z : ltPF x' f.2 with
        | false => rfl
        | true =>
          have := totPF.tr z this
          rw [totPF.irr] at this
          cases this
      · exact ⟨g', x', h1, by rw [getA_put, if_neg e]; exact h2, h3⟩
    · have : f' = f := by simpa using hf'
      subst this
      exact ⟨g, f'.2, hg, by rw [getA_put, if_pos rfl], totPF.irr _⟩
  len := by
    have := h.len
    have := putA_len (d := al) (k := g) (x := f.2)
    omega
theorem LF.keep {fs : List Fi} {n : Nat} {al : List (G3 × (Int × List Int))} {f : Fi} {g : G3} {x : Int × List Int} (h : LF fs n al) (hf : fs[n]? = some f) (hg : f.1 = some g) (hx : getA al g = some x) (hl : ltPF f.2 x = false) : LF fs (n + 1) al where
  mem := fun p hp => by
    rw [List.take_add_one, hf]
    exact List.mem_append_left _ (h.mem p hp)
  all := fun f' hf' => by
    rw [List.take_add_one, hf] at hf'
    rcases List.mem_append.mp hf' with hf' | hf'
    · exact h.all f' hf'
    · have : f' = f := by simpa using hf'
      subst this
      exact ⟨g, x, hg, hx, hl⟩
  len := by
    have := h.len
    omega
theorem x_dgetGR {α : Type} {R : Rp α} {H F F0 : Hp} {m : Mem} {d : List (G3 × α)} {kvs : List (List Key × V)} {a : Addr} {v : V} {g : G3} {Q : VK} {x : α} (O : Own H F m) (h : Rd F a (.dT kvs)) (hk : kvG R F0 d kvs) (hv : rKey F g v) (e : getA d g = some x) (k : ∀ w, R F0 x w → Q w H) : DGQ (.ref a) v Q H := by
  obtain ⟨b, rfl, hb⟩ := key_at O hv
  rcases hk.get g with ⟨e1, _⟩ | ⟨y, w, e1, e2, hr⟩
  · rw [e] at e1
    cases e1
  · rw [e] at e1
    cases e1
    exact ⟨a, w, rfl, .inr ⟨kvs, encG g, b, rd_own O h, rfl, hb, e2.symm⟩, k w hr⟩
theorem kvG.le {α : Type} {R : Rp α} [Mono R] {F F' : Hp} {d : List (G3 × α)} {kvs : List (List Key × V)} (l : Le F F') (h : kvG R F d kvs) : kvG R F' d kvs := h.mono fun _ _ p => ⟨p.1, Mono.le l p.2⟩
theorem getA_some {κ α : Type} [DecidableEq κ] {d : List (κ × α)} {p : κ × α} (h : p ∈ d) : ∃ x, getA d p.1 = some x := by
  cases e : getA d p.1 with
  | some x => exact ⟨x, rfl⟩
  | none =>
    rw [getA_none] at e
    have := List.any_eq_false.mp e p h
    exact absurd (decide_eq_true rfl) this
theorem nextC_b {T : Told} (ok : TOk T) {p : Pl} (hp : IsPl T p) {c : Int} (h : nextC T p = some c) : -1 ≤ c ∧ c < 2 ^ 60 := by
  have hk : p.1 ≤ T.strands.length := by
    rcases hp with hp | hp
    · exact hp.1
    · exact Nat.le_of_lt hp.1
  unfold nextC at h
  split at h
  · cases h
  · next hne =>
    have hlt : p.1 < T.strands.length := by omega
    have S := ok.strands _ (strand_mem hlt)
    split at h
    · obtain ⟨v, hv, h⟩ := Option.bind_eq_some_iff.mp h
      obtain ⟨u, hu, rfl⟩ := Option.map_eq_some_iff.mp h
      have U := (S.vars v (List.mem_of_getElem? hv)).units u (List.mem_of_getElem? hu)
      exact ⟨U.c0, U.c1⟩
    · obtain ⟨v, hv, h⟩ := Option.bind_eq_some_iff.mp h
      obtain ⟨u, hu, rfl⟩ := Option.map_eq_some_iff.mp h
      have U := (S.vars v (vari_mem hv).1).units u (List.mem_of_getElem? hu)
      exact ⟨U.c0, U.c1⟩
section
variable {P : Program} {w : World} {K : PySem.W.Frag} {mg : Str → Option Value} {base : Heap}
abbrev sLe : Stmt := top 20
abbrev NLe : List Str := ["fills", "least", "glue", "paid", "filling", "key"]
theorem scLe : FnScope NLe ["fills"] (defScope sLe) := ⟨rfl, rfl, rfl, by decide +kernel, rfl, by decide +kernel, by decide +kernel⟩
theorem ok_Le {f CG f1 f2 : Addr} {fd fd1 fd2 : FuncData} (F : Fun K "_least_fills" "_least_fills" sLe f fd) (L : GCls K CG) (M_Glue_plain : Met P w K mg base CG "plain" 1 f1 fd1 ["self"] (spGPlain CG))
    (MkG : Mk K CG f2) (GG : FnOk P w K mg base CX0 1 f2 fd2 ["self", "natural", "stretch", "shrink"] (spGInit CG)) (mgG : mg "Glue" = some (.ref CG)) (bG : Binds K fd2 ["self", "natural", "stretch", "shrink"] []) : FnOk P w K mg base CX0 3 f fd ["fills"] (spLeastF CG) := by
  refine F.ok scLe (fun vs H Q E h => ?_) (fun cdv A outer s H vs Q E hr h => ?_)
  · obtain ⟨v, fs, F, m, rfl, _⟩ := h
    rfl
  · obtain ⟨v, fs, F, m, rfl, O, hm, hv, hfl, hnn, k⟩ := h
    have hu := hu_of hr
    have hu64 := hr.units
    refine ⟨_, 
    (pss_cons (ps_set (i := 1) scLe.nd rfl (Or.inr rfl) pe_dnewT)
    (pss_cons (ps_for PassesOwn.never rfl (pi_list (pv 0)) (pg_tup (by rfl) (pgs_cons (pg_name (i := 2) scLe.nd rfl (Or.inl rfl)) (pgs_cons (pg_name (i := 3) scLe.nd rfl (Or.inl rfl)) (pgs_cons (pg_name (i := 4) scLe.nd rfl (Or.inl rfl)) pgs_nil)))) 
      (pss_cons (ps_set (i := 5) scLe.nd rfl (Or.inl rfl) (pe_meth0 (pv 2) M_Glue_plain.cl M_Glue_plain.me M_Glue_plain.ok (hr.mono (by first | decide | omega)) M_Glue_plain.bi .nil pass0))
      (pss_one (ps_if (PW.pt (pw_or (pt_cmp (pc_dnotin hu (pv 5) (pv 1))) (pw_or1 (pt_cmpR (Tf.op_ltD hu64) (pe_tup (pa_cons (pv 3) (pa_cons (pv 4) pa_nil))) (pe_dget hu (pv 1) (pv 5) (fun _ _ => rfl)) (nomark _))))) 
        (pss_one (ps_dput hu (pv 1) (pv 5) (pe_tup (pa_cons (pv 3) (pa_cons (pv 4) pa_nil))) rfl)) pss_nil))))
    (pss_one (ps_ret (pe_lock (pe_lc (own := [("key", 5)]) (g := (gName 5)) (tt := tYes) rfl scLe.nd (pi_keys (pv 1)) (blkOk_by (N := NLe) (sc := defScope sLe) (by decide +kernel)) (fun _ _ _ _ _ => (pg_name (i := 5) scLe.nd rfl (by first | exact Or.inl rfl | exact Or.inr rfl))) (fun _ _ _ _ _ => pts_nil) (fun _ _ _ _ _ => (pe_tup (pa_cons (pe_make MkG GG (hr.mono (by first | decide | omega)) rfl mgG bG .nil pass0 (pa_cons (pe_ix (r := rIxT K) ix_tup (pv 5) pe_int (fun _ _ => rfl)) (pa_cons (pe_ix (r := rIxT K) ix_tup (pv 5) pe_int (fun _ _ => rfl)) (pa_cons (pe_ix (r := rIxT K) ix_tup (pv 5) pe_int (fun _ _ => rfl)) pa_nil)))) (pa_cons (pe_ix (r := rIxT K) ix_tup (pe_dget hu (pv 1) (pv 5) (fun _ _ => rfl)) pe_int (fun _ _ => rfl)) (pa_cons (pe_ix (r := rIxT K) ix_tup (pe_dget hu (pv 1) (pv 5) (fun _ _ => rfl)) pe_int (fun _ _ => rfl)) pa_nil))))))))))), ?_⟩
    walk_at "x"
    refine x_dnewT O (fun d H1 hn1 O1 => ?_)
    walk_at "x"
    refine x_doL O1 hv (fun i σ F' m' => ∃ (kvs : List (List Key × V)) (al : List (G3 × (Int × List Int))) (u2 u3 u4 u5 : Option V), σ = [some v, some (.ref d), u2, u3, u4, u5] ∧ m' = (d, .dT kvs) :: m ∧ kvG (rPair rInt (rTup rInt)) F' al kvs ∧ LF fs i al)
      ⟨[], [], _, _, _, _, rfl, rfl, .nil, fun p hp => (nomatch hp), fun f hf => by simp at hf, Nat.le_refl _⟩ ?_ ?_
    · rintro i q z σ' H2 F2 m2 hi hz s2 O2 ⟨kvs, al, u2, u3, u4, u5, rfl, rfl, hk, hlf⟩
      have il := (List.getElem?_eq_some_iff.mp hi).1
      have hll := hlf.len
      refine x_gtri O2 hz (fun g1 g2 g3 hg1 hg2 hg3 => ?_)
      have hg2 : g2 = .int q.2.1 := hg2
      subst hg2
      cases eq : q.1 with
      | none => exact absurd eq (hnn q (List.mem_of_getElem? hi))
      | some g =>
        rw [eq] at hg1
        have hg1 : rGlue CG F2 g g1 := hg1
        obtain ⟨ga, gdx, rfl, hga⟩ := id hg1
        walk_at "x"
        refine mq_of (O2.frz hga) (gF_no (by decide +kernel) (by decide +kernel) (by decide +kernel)) ?_
        walk_at "x"
        refine ⟨_, g, F2, _, rfl, O2, hg1, fun kv H3 F3 s3 O3 hkv => ?_⟩
        have hkv : rKey F3 g kv := hkv
        have hk3 := hk.up s3
        walk_at "x"
        refine x_dinG O3 hk3 hkv ?_
        walk_at "x"
        have put : ∀ (H4 F4 : Hp) (pv : V), Same F3 F4 → Own H4 F4 ((d, .dT kvs) :: m) → rPair rInt (rTup rInt) F4 q.2 pv → (∀ x, getA al g = some x → ltPF q.2 x = true) → DPQ (.ref d) kv pv (fun H5 => LI (fun i σ F' m' => ∃ (kvs : List (List Key × V)) (al : List (G3 × (Int × List Int))) (u2 u3 u4 u5 : Option V), σ = [some v, some (.ref d), u2, u3, u4, u5] ∧ m' = (d, .dT kvs) :: m ∧ kvG (rPair rInt (rTup rInt)) F' al kvs ∧ LF fs i al)
            F (i + 1) [some v, some (.ref d), some (.ref ga), some (.int q.2.1), some g3, some kv] H5) H4 := fun H4 F4 pv s4 O4 hpv hc => by
          refine x_dputG O4 (hk3.up s4) (up (R := rTup rInt) s4 hkv) hpv (by omega) (fun kvs5 H5 hk5 O5 => ?_)
          exact LI.mk (s2.trans (s3.trans s4)) O5 ⟨kvs5, _, _, _, _, _, rfl, rfl, hk5, hlf.put hi eq hc⟩
        cases hget : getA al g with
        | none =>
          refine x_iteT rfl ?_
          refine x_iteT rfl ?_
          walk_at "x"
          refine x_newPair (R := rInt) (S := rTup rInt) (x := q.2.1) (y := q.2.2) O3 rfl (up s3 hg3) (fun pv H4 F4 s4 O4 hpv => ?_)
          walk_at "x"
          exact put H4 F4 pv s4 O4 hpv (fun x hx => by rw [hget] at hx; cases hx)
        | some x =>
          refine x_iteF rfl ?_
          walk_at "x"
          refine x_newPair (R := rInt) (S := rTup rInt) (x := q.2.1) (y := q.2.2) O3 rfl (up s3 hg3) (fun pv H4 F4 s4 O4 hpv => ?_)
          walk_at "x"
          refine x_dgetG O4 (hk3.up s4) (up (R := rTup rInt) s4 hkv) hget (fun xv hxv => ?_)
          refine x_ltD (R := rPair rInt (rTup rInt)) O4 hpv hxv ?_
          walk_at "x"
          cases hlt : ltP ltI ltL q.2 x with
          | true =>
            refine x_iteT rfl ?_
            walk_at "x"
            refine x_newPair (R := rInt) (S := rTup rInt) (x := q.2.1) (y := q.2.2) O4 rfl (up (s3.trans s4) hg3) (fun pv5 H5 F5 s5 O5 hpv5 => ?_)
            walk_at "x"
            exact put H5 F5 pv5 (s4.trans s5) O5 hpv5 (fun y hy => by rw [hget] at hy; cases hy; exact hlt)
          | false =>
            refine x_iteF rfl ?_
            walk_at "x"
            exact LI.mk (s2.trans (s3.trans s4)) O4 ⟨kvs, al, _, _, _, _, rfl, rfl, hk3.up s4, hlf.keep hi eq hget hlt⟩
    · rintro σ' H2 F2 m2 s2 O2 ⟨kvs, al, u2, u3, u4, u5, rfl, rfl, hk, hlf⟩
      have hall := hlf.all
      have hmem := hlf.mem
      rw [List.take_length] at hall hmem
      have O3 := O2.freeze
      have s3 := O2.freeze_same
      have h3 : upd F2 d (.dT kvs) d = some (.dT kvs) := upd_same
      have hk3 := hk.up s3
      generalize upd F2 d (.dT kvs) = F3 at O3 s3 h3 hk3
      walk_at "x"
      refine x_lockET O3 h3 (fun od H4 F4 O4 le4 h4 back => ?_)
      have hk4 := kvG.le le4 hk3
      walk_at "x"
      refine x_docKT (S := rFi CG) (d := al) O4 hm h4 hk4 (fun i F' ys => ys = (al.take i).map fun p => (some p.1, (getA al p.1).getD p.2)) rfl ?_ ?_
      · rintro D acc i p z H5 F5 ys hi hz s5 O5 hacc hyl rfl
        have il := (List.getElem?_eq_some_iff.mp hi).1
        have hll := hlf.len
        obtain ⟨x, hx⟩ := getA_some (List.mem_of_getElem? hi)
        walk_at "x"
        refine ⟨rfl, ?_⟩
        walk_at "x"
        refine x_iteT rfl ?_
        walk_at "x"
        refine x_ixTI (j := 0) O5 hz rfl rfl ?_
        walk_at "x"
        refine x_ixTI (j := 1) O5 hz rfl rfl ?_
        walk_at "x"
        refine x_ixTI (j := 2) O5 hz rfl rfl ?_
        walk_at "x"
        refine x_mkGlue O5 (fun gv H6 F6 s6 O6 hgv => ?_)
        walk_at "x"
        have hz6 : rKey F6 p.1 z := up (R := rTup rInt) s6 hz
        refine x_dgetGR O6 (.inr ⟨od, (s5.trans s6) _ _ h4⟩) hk4 hz6 hx (fun xv hxv => ?_)
        have hxv6 := up (s5.trans s6) hxv
        walk_at "x"
        refine x_fst O6 hxv6 (fun b1 hb1 => ?_)
        have hb1 : b1 = .int x.1 := hb1
        subst hb1
        walk_at "x"
        refine x_dgetGR O6 (.inr ⟨od, (s5.trans s6) _ _ h4⟩) hk4 hz6 hx (fun xv2 hxv2 => ?_)
        walk_at "x"
        refine x_snd O6 (up (s5.trans s6) hxv2) (fun b2 hb2 => ?_)
        walk_at "x"
        refine x_newTri (R := rOpt (rGlue CG)) (S := rInt) (T := rTup rInt) (x := some p.1) (y := x.1) (z := x.2) O6 hgv rfl hb2 (fun r7 H7 F7 s7 O7 hr7 => ?_)
        refine x_keep (S := rFi CG) O7 (s5.trans (s6.trans s7)) hr7 (all2_up (s6.trans s7) hacc) hyl (by omega) ⟨rfl, ?_⟩
        rw [List.take_add_one, hi, List.map_append]
        show _ = _ ++ [(some p.1, (getA al p.1).getD p.2)]
        rw [hx]
        rfl
      · rintro v5 H5 F5 ys s5 O5 hv5 rfl
        rw [List.take_length] at hv5
        refine x_unlockET O5 h4 back s5 (fun H6 F6 s6 le6 O6 => ?_)
        have hv6 := Mono.le le6 hv5
        refine k v5 H6 F6 _ (s2.trans (s3.trans s6)) O6 hv6 (fun r hr => ?_) (fun f hf => ?_) (by rw [List.length_map]; exact hlf.len)
        · obtain ⟨p, hp, rfl⟩ := List.mem_map.mp hr
          obtain ⟨x, hx⟩ := getA_some hp
          rw [hx]
          exact hmem _ (getA_mem hx)
        · obtain ⟨g, x, h1, h2, h3⟩ := hall f hf
          refine ⟨_, List.mem_map.mpr ⟨(g, x), getA_mem h2, rfl⟩, h1.symm, ?_⟩
          show ltPF f.2 ((getA al g).getD x) = false
          rw [h2]
          exact h3
abbrev sOg : Stmt := inClass (top 19) 21
abbrev NOg : List Str := ["self", "a", "b", "length", "entry", "line"]
theorem scOg : FnScope NOg ["self", "a", "b"] (defScope sOg) := ⟨rfl, rfl, rfl, by decide +kernel, rfl, by decide +kernel, by decide +kernel⟩
theorem ok_Og {f C CG f2 : Addr} {fd fd2 : FuncData} (F : Fun K "_other_glue" "PressTask._other_glue" sOg f fd) (T : Bi mg) (L : PCls K C)
    (MkG : Mk K CG f2) (GG : FnOk P w K mg base CX0 1 f2 fd2 ["self", "natural", "stretch", "shrink"] (spGInit CG)) (mgG : mg "Glue" = some (.ref CG)) (bG : Binds K fd2 ["self", "natural", "stretch", "shrink"] []) : FnOk P w K mg base CX0 3 f fd ["self", "a", "b"] (spOther C CG) := by
  refine F.ok scOg (fun vs H Q E h => ?_) (fun cdv A outer s H vs Q E hr h => ?_)
  · obtain ⟨v, w, z, T, a, b, F, m, rfl, _⟩ := h
    rfl
  · obtain ⟨v, av, bv, T', a, b, F, m, rfl, O, hv, ha, hb, ok, k⟩ := h
    obtain ⟨x, dx, s1, f1, l1, o1, la1, ma1, rfl, hx, h1, h2, h3, h4, h5, h6⟩ := id hv
    refine ⟨_, 
    (pss_cons (ps_set (i := 3) scOg.nd rfl (Or.inl rfl) (pe_callB (Tf.cr_sumT rfl) (by rfl) T.b_sum (by decide +kernel) (pa_cons (pe_lc (own := [("entry", 4)]) (g := (gName 4)) (tt := tYes) rfl scOg.nd (pi_tup (pe_slice sl_tupA (pe_fld (pv 0) rfl) (po_some (pe_ix (r := rIxT K) ix_tup (pv 1) pe_int (fun _ _ => rfl))) (po_some (pe_ix (r := rIxT K) ix_tup (pv 2) pe_int (fun _ _ => rfl))))) (blkOk_by (N := NOg) (sc := defScope sOg) (by decide +kernel)) (fun _ _ _ _ _ => (pg_name (i := 4) scOg.nd rfl (by first | exact Or.inl rfl | exact Or.inr rfl))) (fun _ _ _ _ _ => pts_nil) (fun _ _ _ _ _ => (pe_op op_add (pe_ix (r := rIxT K) ix_tup (pv 4) pe_int (fun _ _ => rfl)) (Tf.pe_fldK (K := K) (pv 0) rfl rfl)))) pa_nil)))
    (Tf.pss_cut (ps_if (pt_cmpR op_gt (pe_ix (r := rIxT K) ix_tup (pv 2) pe_int (fun _ _ => rfl)) (pe_ix (r := rIxT K) ix_tup (pv 1) pe_int (fun _ _ => rfl)) (nomark _)) 
      (pss_one (ps_aug (i := 3) scOg.nd rfl (Or.inl rfl) (pe_op op_add (pe_fld (pv 0) rfl) (pe_callB (Tf.cr_sumT rfl) (by rfl) T.b_sum (by decide +kernel) (pa_cons (pe_lc (own := [("line", 5)]) (g := (gName 5)) (tt := tYes) rfl scOg.nd (pi_tup (pe_slice sl_tupA (pe_fld (pv 0) rfl) (po_some (pe_ix (r := rIxT K) ix_tup (pv 1) pe_int (fun _ _ => rfl))) (po_some (pe_ix (r := rIxT K) ix_tup (pv 2) pe_int (fun _ _ => rfl))))) (blkOk_by (N := NOg) (sc := defScope sOg) (by decide +kernel)) (fun _ _ _ _ _ => (pg_name (i := 5) scOg.nd rfl (by first | exact Or.inl rfl | exact Or.inr rfl))) (fun _ _ _ _ _ => pts_nil) (fun _ _ _ _ _ => (pe_ix (r := rIxT K) ix_tup (pv 5) pe_int (fun _ _ => rfl)))) pa_nil))) ip_add)) pss_nil)
    (pss_one (ps_ret (pe_make MkG GG (hr.mono (by first | decide | omega)) rfl mgG bG .nil pass0 (pa_cons (pv 3) (pa_cons pe_int (pa_cons pe_int pa_nil)))))))), ?_⟩
    walk_at "x"
    refine x_fldF O hx L.cl L.n2 pF_2 ?_
    walk_at "x"
    refine x_ixTI (j := 3) O ha rfl rfl ?_
    refine ⟨_, rfl, ?_⟩
    walk_at "x"
    refine x_ixTI (j := 3) O hb rfl rfl ?_
    refine ⟨_, rfl, ?_⟩
    refine x_slTA O h2 (fun fv H1 F1 s1 O1 hfv => ?_)
    rw [cutL_mid] at hfv
    have hlen : ((T'.floats.drop a.2.2.2.1).take (b.2.2.2.1 - a.2.2.2.1)).length ≤ T'.floats.length := by
      rw [List.length_take, List.length_drop]
      omega
    have hfew := ok.fewF
    have hfewL := ok.fewL
    refine x_docT (S := rInt) O1 hfv (fun i F' m' ys => m' = m ∧ ys = (((T'.floats.drop a.2.2.2.1).take (b.2.2.2.1 - a.2.2.2.1)).take i).map fun f => f.1 + T'.fgap) ⟨rfl, by simp⟩ ?_ ?_
    · rintro D acc i q z H2 F2 m2 ys hi hz s2 O2 hacc hyl ⟨rfl, rfl⟩
      have il := (List.getElem?_eq_some_iff.mp hi).1
      walk_at "x"
      refine ⟨rfl, ?_⟩
      walk_at "x"
      refine x_iteT rfl ?_
      walk_at "x"
      refine x_fst O2 hz (fun b1 hb1 => ?_)
      have hb1 : b1 = .int q.1 := hb1
      subst hb1
      walk_at "x"
      refine x_fldF O2 ((s1.trans s2) _ _ hx) L.cl L.n7 pF_7 ?_
      walk_at "x"
      refine x_keep (S := rInt) (z := q.1 + T'.fgap) O2 s2 rfl hacc hyl (by omega) ⟨rfl, ?_⟩
      rw [List.take_add_one, hi, List.map_append]
      rfl
    · rintro v2 H2 F2 m2 ys s2 O2 hv2 ⟨rfl, rfl⟩
      rw [List.take_length] at hv2
      have s12 := s1.trans s2
      walk_at "x"
      refine x_sumL O2 hv2 ?_
      walk_at "x"
      refine x_cut (fun σ' H' => ∃ F3, σ' = [some (.ref x), some av, some bv, some (.int (otherL T' a b)), none, none] ∧ Same F F3 ∧ Own H' F3 m2) ?_ ?_
      · walk_at "x"
        refine x_ixTI (j := 4) O2 (up (R := rTup rInt) s12 hb) rfl rfl ?_
        walk_at "x"
        refine x_ixTI (j := 4) O2 (up (R := rTup rInt) s12 ha) rfl rfl ?_
        walk_at "x"
        refine x_iteD (fun hlt => ?_) (fun hlt => ?_)
        · walk_at "x"
          refine x_fldF O2 (s12 _ _ hx) L.cl L.n6 pF_6 ?_
          walk_at "x"
          refine x_fldF O2 (s12 _ _ hx) L.cl L.n3 pF_3 ?_
          walk_at "x"
          refine x_ixTI (j := 4) O2 (up (R := rTup rInt) s12 ha) rfl rfl ?_
          refine ⟨_, rfl, ?_⟩
          walk_at "x"
          refine x_ixTI (j := 4) O2 (up (R := rTup rInt) s12 hb) rfl rfl ?_
          refine ⟨_, rfl, ?_⟩
          refine x_slTA O2 (up s12 h3) (fun lv H3 F3 s3 O3 hlv => ?_)
          rw [cutL_mid] at hlv
          have hlen2 : ((T'.lines.drop a.2.2.2.2).take (b.2.2.2.2 - a.2.2.2.2)).length ≤ T'.lines.length := by
            rw [List.length_take, List.length_drop]
            omega
          refine x_docT (S := rInt) O3 hlv (fun i F' m' ys => m' = m2 ∧ ys = (((T'.lines.drop a.2.2.2.2).take (b.2.2.2.2 - a.2.2.2.2)).take i).map (·.1)) ⟨rfl, by simp⟩ ?_ ?_
          · rintro D acc i q z H4 F4 m4 ys hi hz s4 O4 hacc hyl ⟨rfl, rfl⟩
            have il := (List.getElem?_eq_some_iff.mp hi).1
            walk_at "x"
            refine ⟨rfl, ?_⟩
            walk_at "x"
            refine x_iteT rfl ?_
            walk_at "x"
            refine x_fst O4 hz (fun b1 hb1 => ?_)
            refine x_keep (S := rInt) (z := q.1) O4 s4 hb1 hacc hyl (by omega) ⟨rfl, ?_⟩
            rw [List.take_add_one, hi, List.map_append]
            rfl
          · rintro v4 H4 F4 m4 ys s4 O4 hv4 ⟨rfl, rfl⟩
            rw [List.take_length] at hv4
            walk_at "x"
            refine x_sumL O4 hv4 ?_
            walk_at "x"
            refine ⟨F4, ?_, s12.trans (s3.trans s4), O4⟩
            unfold otherL
            rw [if_pos (by omega)]
            rfl
        · walk_at "x"
          refine ⟨F2, ?_, s12, O2⟩
          unfold otherL
          rw [if_neg (by omega), Int.add_zero]
          rfl
      · rintro σ' H3 ⟨F3, rfl, s3, O3⟩
        walk_at "x"
        refine x_mkGlue O3 (fun r H4 F4 s4 O4 hr4 => ?_)
        exact k r H4 F4 (s3.trans s4) O4 hr4
abbrev sEc : Stmt := inClass (top 19) 22
abbrev NEc : List Str := ["self", "a", "b", "place", "due", "notes", "cost", "after"]
theorem scEc : FnScope NEc ["self", "a", "b"] (defScope sEc) := ⟨rfl, rfl, rfl, by decide +kernel, rfl, by decide +kernel, by decide +kernel⟩
theorem ok_Ec {f C f1 f2 f3 f4 : Addr} {fd fd1 fd2 fd3 fd4 : FuncData} (F : Fun K "_end_cost" "PressTask._end_cost" sEc f fd) (T : Bi mg) (L : PCls K C) (cMUST : ∃ t, mg "MUST" = some (.int (-1) t)) (cNU : ∃ t, mg "NO_UNIT_SET" = some (.int 4000 t))
    (M_PressTask__due_lines : Met P w K mg base C "_due_lines" 2 f1 fd1 ["self", "place"] (spDueL C)) (M_PressTask__due_floats : Met P w K mg base C "_due_floats" 1 f2 fd2 ["self", "place"] (spDueF C)) (C_wait_cost : Cal P w K mg base "wait_cost" 1 f3 fd3 ["floats", "lines", "notes"] spWait)
    (M_PressTask__next_cost : Met P w K mg base C "_next_cost" 2 f4 fd4 ["self", "state"] (spNextC C)) : FnOk P w K mg base CX0 3 f fd ["self", "a", "b"] (spEndC C) := by
  refine F.ok scEc (fun vs H Q E h => ?_) (fun cdv A outer s H vs Q E hr h => ?_)
  · obtain ⟨v, w, z, T, a, b, F, m, rfl, _⟩ := h
    rfl
  · obtain ⟨v, av, bv, T', a, b, F, m, rfl, O, hv, ha, hb, ok, hst, k⟩ := h
    obtain ⟨x, dx, s1, f1, l1, o1, la1, ma1, rfl, hx, h1, h2, h3, h4, h5, h6⟩ := id hv
    have hu64 := hr.units
    refine ⟨_, 
    (pss_cons (ps_set (i := 3) scEc.nd rfl (Or.inl rfl) (pe_slice sl_tupA (pv 2) po_none (po_some pe_int)))
    (pss_cons (ps_set (i := 4) scEc.nd rfl (Or.inl rfl) (pe_callB (cr_max2 rfl) (by rfl) T.b_max (by decide +kernel) (pa_cons (pe_meth (pv 0) M_PressTask__due_lines.cl M_PressTask__due_lines.me M_PressTask__due_lines.ok (hr.mono (by first | decide | omega)) M_PressTask__due_lines.bi .nil pass0 (pa_cons (pv 3) pa_nil)) (pa_cons (pe_ix (r := rIxT K) ix_tup (pv 2) pe_int (fun _ _ => rfl)) pa_nil))))
    (pss_cons (ps_set (i := 5) scEc.nd rfl (Or.inl rfl) (pe_op op_sub (pe_ix (r := rIxL K) ix_list (pe_fld (pv 0) rfl) (pv 4) (fun _ _ => rfl)) (pe_ix (r := rIxL K) ix_list (pe_fld (pv 0) rfl) (pe_ix (r := rIxT K) ix_tup (pv 2) pe_int (fun _ _ => rfl)) (fun _ _ => rfl))))
    (pss_cons (ps_set (i := 6) scEc.nd rfl (Or.inl rfl) (pe_call C_wait_cost.ok (hr.mono (by first | decide | omega)) rfl C_wait_cost.mg C_wait_cost.kp C_wait_cost.bi .nil pass0 (pa_cons (pe_callB (cr_max2 rfl) (by rfl) T.b_max (by decide +kernel) (pa_cons pe_int (pa_cons (pe_op op_sub (pe_meth (pv 0) M_PressTask__due_floats.cl M_PressTask__due_floats.me M_PressTask__due_floats.ok (hr.mono (by first | decide | omega)) M_PressTask__due_floats.bi .nil pass0 (pa_cons (pv 3) pa_nil)) (pe_ix (r := rIxT K) ix_tup (pv 2) pe_int (fun _ _ => rfl))) pa_nil))) (pa_cons (pe_op op_sub (pv 4) (pe_ix (r := rIxT K) ix_tup (pv 2) pe_int (fun _ _ => rfl))) (pa_cons (pv 5) pa_nil)))))
    (pss_cons (ps_if (pt_cmpR (op_eqD hu64) (pv 3) (pe_slice sl_tupA (pv 1) po_none (po_some pe_int)) (nomark _)) 
      (pss_one (ps_ret (pe_op op_add (pv 6) (Tf.pe_cn rfl cNU)))) pss_nil)
    (pss_cons (ps_set (i := 7) scEc.nd rfl (Or.inl rfl) (pe_meth (pv 0) M_PressTask__next_cost.cl M_PressTask__next_cost.me M_PressTask__next_cost.ok (hr.mono (by first | decide | omega)) M_PressTask__next_cost.bi .nil pass0 (pa_cons (pv 2) pa_nil)))
    (pss_cons (ps_if (PW.pt (pw_or (pt_cmpR op_isNon (pv 7) pe_non (nomark _)) (pw_or1 (pt_cmpR op_eq (pv 7) (Tf.pe_cn rfl cMUST) (nomark _))))) 
      (pss_one (ps_ret (pv 6))) pss_nil)
    (pss_one (ps_ret (pe_op op_add (pv 6) (pe_op op_mul (pv 7) (pv 7)))))))))))), ?_⟩
    walk_at "x"
    refine x_slTA O hb (fun pv H1 F1 s1 O1 hpv => ?_)
    have e3 : ∀ y : Sx, cutL (stL y) none (some 3) = plL y.pl := fun y => by
      have e := cutL_to (stL y) 3
      have e2 : ((3 : Nat) : Int) = 3 := rfl
      rw [e2] at e
      exact e
    rw [e3] at hpv
    have hpv : rPl F1 b.pl pv := hpv
    walk_at "x"
    refine mq_of (O1.frz (s1 _ _ hx)) (pF_non (n := "_due_lines") (by decide +kernel)) ?_
    walk_at "x"
    refine ⟨_, pv, T', b.pl, F1, m, rfl, O1, up s1 hv, hpv, ok, hst.1, fun H2 F2 s2 O2 => ?_⟩
    have s12 := s1.trans s2
    have hb2 := up (R := rTup rInt) s12 hb
    walk_at "x"
    refine x_ixTI (j := 4) O2 hb2 rfl rfl ?_
    walk_at "x"
    have hL := dueL_b ok hst.1
    have hS := hst.2.2
    obtain ⟨due, hdue⟩ : ∃ due : Int, (if (b.2.2.2.2 : Int) > dueL T' b.pl then (b.2.2.2.2 : Int) else dueL T' b.pl) = due := ⟨_, rfl⟩
    have hd0 : 0 ≤ due ∧ due ≤ (T'.lines.length : Int) := by
      rw [← hdue]
      split <;> omega
    rw [hdue]
    refine x_fldF O2 (s12 _ _ hx) L.cl L.n8 pF_8 ?_
    walk_at "x"
    refine x_ixL (R := rInt) (j := due.toNat) O2 (up s12 h4) (by omega) (openL_get (by omega)) (fun z1 hz1 => ?_)
    have hz1 : z1 = .int (openN T' due.toNat : Int) := hz1
    subst hz1
    walk_at "x"
    refine x_fldF O2 (s12 _ _ hx) L.cl L.n8 pF_8 ?_
    walk_at "x"
    refine x_ixTI (j := 4) O2 hb2 rfl rfl ?_
    refine x_ixL (R := rInt) (j := b.2.2.2.2) O2 (up s12 h4) rfl (openL_get hS) (fun z2 hz2 => ?_)
    have hz2 : z2 = .int (openN T' b.2.2.2.2 : Int) := hz2
    subst hz2
    walk_at "x"
    refine mq_of (O2.frz (s12 _ _ hx)) (pF_non (n := "_due_floats") (by decide +kernel)) ?_
    walk_at "x"
    refine ⟨_, pv, T', b.pl, F2, m, rfl, O2, up s12 hv, up (R := rTup rInt) s2 hpv, ok, fun H3 F3 s3 O3 => ?_⟩
    have s13 := s12.trans s3
    have hb3 := up (R := rTup rInt) s13 hb
    walk_at "x"
    refine x_ixTI (j := 3) O3 hb3 rfl rfl ?_
    walk_at "x"
    refine x_ixTI (j := 4) O3 hb3 rfl rfl ?_
    walk_at "x"
    refine ⟨_, _, _, rfl, ?_⟩
    have ew : waitB T' b = waitC (if (dueF T' b.1 : Int) - b.2.2.2.1 > 0 then (dueF T' b.1 : Int) - b.2.2.2.1 else 0) (due - b.2.2.2.2) ((openN T' due.toNat : Int) - openN T' b.2.2.2.2) := by
      unfold waitB
      dsimp only
      rw [hdue]
    have ew2 : waitC (if (dueF T' b.pl.1 : Int) - b.2.2.2.1 > 0 then (dueF T' b.pl.1 : Int) - b.2.2.2.1 else 0) (due - b.2.2.2.2) ((openN T' due.toNat : Int) - openN T' b.2.2.2.2) = waitB T' b := ew.symm
    rw [ew2]
    walk_at "x"
    refine x_slTA O3 (up (R := rTup rInt) s13 ha) (fun qv H4 F4 s4 O4 hqv => ?_)
    rw [e3] at hqv
    walk_at "x"
    refine x_eqD (R := rTup rInt) O4 (up (R := rTup rInt) (s2.trans (s3.trans s4)) hpv) hqv ?_
    rw [dec_iff plL_inj]
    unfold endC at k
    have s14 := s13.trans s4
    walk_at "x"
    refine x_iteD (fun hp => ?_) (fun hp => ?_)
    · rw [if_pos hp] at k
      walk_at "x"
      exact k H4 F4 s14 O4
    · rw [if_neg hp] at k
      walk_at "x"
      refine mq_of (O4.frz (s14 _ _ hx)) (pF_non (n := "_next_cost") (by decide +kernel)) ?_
      walk_at "x"
      refine ⟨_, bv, T', b, F4, m, rfl, O4, up s14 hv, up (R := rTup rInt) s14 hb, ok, hst.1, fun H5 F5 s5 O5 => ?_⟩
      cases en : nextC T' b.pl with
      | none =>
        rw [en] at k
        walk_at "x"
        refine x_iteT rfl ?_
        refine x_iteT rfl ?_
        walk_at "x"
        exact k H5 F5 (s14.trans s5) O5
      | some c =>
        rw [en] at k
        dsimp only at k
        have hc := nextC_b ok hst.1 en
        show gName 7 (V.int c) _ H5 _
        walk_at "x"
        refine x_iteF rfl ?_
        walk_at "x"
        refine x_iteD (fun hm => ?_) (fun hm => ?_)
        · rw [if_pos hm] at k
          walk_at "x"
          exact k H5 F5 (s14.trans s5) O5
        · rw [if_neg hm] at k
          walk_at "x"
          exact k H5 F5 (s14.trans s5) O5
end
end Tf
namespace Tf
open PySem PySem.Spec PyProof.Rows L2
theorem otherL_hi {T : Told} (ok : TOk T) (a b : Sx) : otherL T a b < 2 ^ 56 := by
  have bnd : ∀ (l : List Int) (c : Int), (∀ x ∈ l, x ≤ c) → 0 ≤ c → l.sum ≤ l.length * c := fun l c h hc => by
    induction l with
    | nil => simp
    | cons x l ih =>
      have h1 := h x List.mem_cons_self
      have h2 := ih fun y hy => h y (List.mem_cons_of_mem _ hy)
      rw [List.sum_cons, List.length_cons]
      have : ((l.length + 1 : Nat) : Int) * c = l.length * c + c := by
        rw [Int.natCast_add, Int.add_mul]
        omega
      omega
  have h1 := bnd (((T.floats.drop a.2.2.2.1).take (b.2.2.2.1 - a.2.2.2.1)).map fun f => f.1 + T.fgap) (2 ^ 51) (fun x hx => by
    obtain ⟨f, hf, rfl⟩ := List.mem_map.mp hx
    have := ok.floatB f (List.mem_of_mem_drop (List.mem_of_mem_take hf))
    have := ok.gapB
    omega) (by decide)
  have h2 := bnd (((T.lines.drop a.2.2.2.2).take (b.2.2.2.2 - a.2.2.2.2)).map (·.1)) (2 ^ 51) (fun x hx => by
    obtain ⟨f, hf, rfl⟩ := List.mem_map.mp hx
    have := ok.lineB f (List.mem_of_mem_drop (List.mem_of_mem_take hf))
    omega) (by decide)
  have l1 : (((T.floats.drop a.2.2.2.1).take (b.2.2.2.1 - a.2.2.2.1)).map fun f => f.1 + T.fgap).length ≤ 4 := by
    rw [List.length_map, List.length_take, List.length_drop]
    have := ok.fewF
    omega
  have l2 : (((T.lines.drop a.2.2.2.2).take (b.2.2.2.2 - a.2.2.2.2)).map (·.1)).length ≤ 10 := by
    rw [List.length_map, List.length_take, List.length_drop]
    have := ok.fewL
    omega
  have := ok.ruleB
  unfold otherL
  generalize (((T.floats.drop a.2.2.2.1).take (b.2.2.2.1 - a.2.2.2.1)).map fun f => f.1 + T.fgap) = u1 at h1 l1
  generalize (((T.lines.drop a.2.2.2.2).take (b.2.2.2.2 - a.2.2.2.2)).map (·.1)) = u2 at h2 l2
  split <;> omega
theorem optP_none {α β : Type} {l : List (Int × List Int)} {c : Int} (h : l = []) : (minOpt l).map (fun x => (x.1 + c, x.2)) = none := by
  rw [h]
  rfl
section
variable {P : Program} {w : World} {K : PySem.W.Frag} {mg : Str → Option Value} {base : Heap}
abbrev sBe : Stmt := inClass (top 19) 20
abbrev NBe : List Str := ["self", "a", "b", "fills", "more", "loose", "pairs", "glue", "paid", "filling", "whole", "cost"]
theorem scBe : FnScope NBe ["self", "a", "b", "fills"] (defScope sBe) := ⟨rfl, rfl, rfl, by decide +kernel, rfl, by decide +kernel, by decide +kernel⟩
theorem ok_Be {f C CG f1 f2 f3 f4 p3 f5 f6 : Addr} {fd fd1 fd2 fd3 fd4 fd5 fd6 : FuncData} (F : Fun K "_best" "PressTask._best" sBe f fd) (T : Bi mg) (L : PCls K C) (M_PressTask__other_glue : Met P w K mg base C "_other_glue" 3 f1 fd1 ["self", "a", "b"] (spOther C CG))
    (M_PressTask__loose : Met P w K mg base C "_loose" 3 f2 fd2 ["self", "state"] (spLoose C)) (A_Glue : Adp P w K mg base CG 3 f3 (spGAdd CG)) (P_least : Prp P w K mg base CG "least" 1 p3 f4 fd4 (spGLeast CG)) (C_fill_cost : Cal P w K mg base "fill_cost" 2 f5 fd5 ["height", "glue", "loose"] (spFill CG))
    (M_PressTask__end_cost : Met P w K mg base C "_end_cost" 3 f6 fd6 ["self", "a", "b"] (spEndC C)) : FnOk P w K mg base CX0 5 f fd ["self", "a", "b", "fills"] (spBest C CG) := by
  refine F.ok scBe (fun vs H Q E h => ?_) (fun cdv A outer s H vs Q E hr h => ?_)
  · obtain ⟨v, w, z, u, T, a, b, fs, F, m, rfl, _⟩ := h
    rfl
  · obtain ⟨v, av, bv, fv, T', a, b, fs, F, m, rfl, O, hv, ha, hb, hf, ok, hst, hfl, hgb, k⟩ := h
    obtain ⟨x, dx, s1, f1, l1, o1, la1, ma1, rfl, hx, h1, h2, h3, h4, h5, h6⟩ := id hv
    have hu64 := hr.units
    refine ⟨_, 
    (pss_cons (ps_if (pt_cmpR (op_eqD hu64) (pv 1) (pv 2) (nomark _)) 
      (pss_one (ps_ret pe_non)) pss_nil)
    (pss_cons (ps_set (i := 4) scBe.nd rfl (Or.inl rfl) (pe_meth (pv 0) M_PressTask__other_glue.cl M_PressTask__other_glue.me M_PressTask__other_glue.ok (hr.mono (by first | decide | omega)) M_PressTask__other_glue.bi .nil pass0 (pa_cons (pv 1) (pa_cons (pv 2) pa_nil))))
    (pss_cons (ps_set (i := 5) scBe.nd rfl (Or.inl rfl) (pe_meth (pv 0) M_PressTask__loose.cl M_PressTask__loose.me M_PressTask__loose.ok (hr.mono (by first | decide | omega)) M_PressTask__loose.bi .nil pass0 (pa_cons (pv 2) pa_nil)))
    (pss_cons (ps_set (i := 6) scBe.nd rfl (Or.inl rfl) (pe_lst pa_nil))
    (pss_cons (ps_for PassesOwn.never rfl (pi_list (pv 3)) (pg_tup (by rfl) (pgs_cons (pg_name (i := 7) scBe.nd rfl (Or.inl rfl)) (pgs_cons (pg_name (i := 8) scBe.nd rfl (Or.inl rfl)) (pgs_cons (pg_name (i := 9) scBe.nd rfl (Or.inl rfl)) pgs_nil)))) 
      (Tf.pss_cut (ps_set (i := 10) scBe.nd rfl (Or.inl rfl) (pe_ifExp (pt_cmpR op_isNon (pv 7) pe_non (nomark _)) (pv 4) (pe_op (Tf.op_addO A_Glue.b A_Glue.f (hr.mono (by first | decide | omega))) (pv 7) (pv 4))))
      (pss_one (ps_if (pt_cmpR op_le (pe_prop (pv 10) P_least.cl P_least.hp P_least.ok (hr.mono (by first | decide | omega)) P_least.bi .nil pass0 rfl) (pe_fld (pv 0) rfl) (nomark _)) 
        (pss_one (ps_expr (pe_bm PySem.F.plainAttrs_list PySem.F.slot_list_append PySem.F.type_list_append mt_append (pv 6) (pa_cons (pe_tup (pa_cons (pe_op op_add (pv 8) (pe_call C_fill_cost.ok (hr.mono (by first | decide | omega)) rfl C_fill_cost.mg C_fill_cost.kp C_fill_cost.bi .nil pass0 (pa_cons (pe_fld (pv 0) rfl) (pa_cons (pv 10) (pa_cons (pv 5) pa_nil))))) (pa_cons (pv 9) pa_nil))) pa_nil)))) pss_nil))))
    (pss_cons (ps_if (pt_not (pt_tru (pv 6) (by intro _; rfl))) 
      (pss_one (ps_ret pe_non)) pss_nil)
    (pss_cons (ps_asg (pe_callB (Tf.cr_minDat rfl hu64) (by rfl) T.b_min (by decide +kernel) (pa_cons (pv 6) pa_nil)) (pg_tup (by rfl) (pgs_cons (pg_name (i := 11) scBe.nd rfl (Or.inl rfl)) (pgs_cons (pg_name (i := 9) scBe.nd rfl (Or.inl rfl)) pgs_nil))))
    (pss_one (ps_ret (pe_tup (pa_cons (pe_op op_add (pv 11) (pe_meth (pv 0) M_PressTask__end_cost.cl M_PressTask__end_cost.me M_PressTask__end_cost.ok (hr.mono (by first | decide | omega)) M_PressTask__end_cost.bi .nil pass0 (pa_cons (pv 1) (pa_cons (pv 2) pa_nil)))) (pa_cons (pv 9) pa_nil)))))))))))), ?_⟩
    walk_at "x"
    refine x_eqD (R := rTup rInt) O ha hb ?_
    rw [dec_iff stL_inj]
    walk_at "x"
    refine x_iteD (fun he => ?_) (fun he => ?_)
    · rw [if_pos he] at k
      walk_at "x"
      exact k .non H F (Same.refl F) O rfl
    rw [if_neg he] at k
    walk_at "x"
    refine mq_of (O.frz hx) (pF_non (n := "_other_glue") (by decide +kernel)) ?_
    walk_at "x"
    refine ⟨_, av, bv, T', a, b, F, m, rfl, O, hv, ha, hb, ok, fun mv H1 F1 s1 O1 hmv => ?_⟩
    walk_at "x"
    refine mq_of (O1.frz (s1 _ _ hx)) (pF_non (n := "_loose") (by decide +kernel)) ?_
    walk_at "x"
    refine ⟨_, bv, T', b, F1, m, rfl, O1, up s1 hv, up (R := rTup rInt) s1 hb, ok, hst.1, fun H2 F2 s2 O2 => ?_⟩
    walk_at "x"
    have s12 := s1.trans s2
    have hmv2 := up s2 hmv
    have ho0 := otherL_nonneg ok a b
    have ho1 := otherL_hi ok a b
    have htb := ok.tallB
    generalize ho : otherL T' a b = o at k hmv2 ho0 ho1
    generalize hl : looseB T' b = lo at k
    refine x_ownL (vs := []) O2 (Nat.zero_le _) (fun pr H3 hn3 O3 => ?_)
    walk_at "x"
    refine x_doL O3 (up s12 hf) (fun i σ F' m' => ∃ (us : List V) (u7 u8 u9 u10 u11 : Option V), σ = [some (.ref x), some av, some bv, some fv, some mv, some (.bl lo), some (.ref pr), u7, u8, u9, u10, u11] ∧ m' = (pr, .lst us) :: m ∧ All2 (rPair rInt (rTup rInt) F') ((fs.take i).filterMap (pairF T'.tall o lo)) us)
      ⟨[], _, _, _, _, _, rfl, rfl, .nil⟩ ?_ ?_
    · rintro i q z σ' H4 F4 m4 hi hz s4 O4 ⟨us, u7, u8, u9, u10, u11, rfl, rfl, hus⟩
      have il := (List.getElem?_eq_some_iff.mp hi).1
      have hqm := List.mem_of_getElem? hi
      refine x_gtri O4 hz (fun g1 g2 g3 hg1 hg2 hg3 => ?_)
      have hg2 : g2 = .int q.2.1 := hg2
      subst hg2
      have s24 := s12.trans s4
      have hul : us.length ≤ i := by
        rw [← hus.length]
        refine Nat.le_trans (List.length_filterMap_le _ _) ?_
        rw [List.length_take]
        omega
      walk_at "x"
      refine x_cut (fun σ' H' => ∃ (wv : V) (F5 : Hp), σ' = [some (.ref x), some av, some bv, some fv, some mv, some (.bl lo), some (.ref pr), some g1, some (.int q.2.1), some g3, some wv, u11] ∧ Same F4 F5 ∧ Own H' F5 ((pr, .lst us) :: m) ∧ rGlue CG F5 (addG q.1 o) wv) ?_ ?_
      · walk_at "x"
        cases eq : q.1 with
        | none =>
          rw [eq] at hg1
          have hg1 : g1 = .non := hg1
          subst hg1
          refine x_iteT rfl ?_
          walk_at "x"
          exact ⟨mv, F4, rfl, Same.refl _, O4, up s4 hmv2⟩
        | some g =>
          rw [eq] at hg1
          have hg1 : rGlue CG F4 g g1 := hg1
          obtain ⟨ga, gdx, rfl, hga⟩ := id hg1
          refine x_iteF rfl ?_
          walk_at "x"
          refine x_addGlue O4 hg1 (up s4 hmv2) (fun r4 H5 F5 s5 O5 hr5 => ?_)
          walk_at "x"
          exact ⟨r4, F5, rfl, s5, O5, hr5⟩
      · rintro σ' H5 ⟨wv, F5, rfl, s5, O5, hwv⟩
        have s25 := s24.trans s5
        walk_at "x"
        refine x_least O5 hwv ?_
        walk_at "x"
        refine x_fldF O5 (s25 _ _ hx) L.cl L.n4 pF_4 ?_
        walk_at "x"
        refine x_iteD (fun hle => ?_) (fun hle => ?_)
        · walk_at "x"
          refine ⟨ty_list O5.at0, ?_⟩
          walk_at "x"
          refine x_fldF O5 (s25 _ _ hx) L.cl L.n4 pF_4 ?_
          walk_at "x"
          have hGB : GB T'.tall (addG q.1 o) := by
            cases eq : q.1 with
            | none => exact ⟨by show _ < T'.tall - o; omega, by show T'.tall - o < _; omega, Int.le_refl _, by show (0 : Int) < _; decide, Int.le_refl _, by show (0 : Int) < _; decide⟩
            | some g =>
              have hb := hgb q hqm g eq
              exact ⟨by show _ < T'.tall - (g.1 + o); omega, by show T'.tall - (g.1 + o) < _; omega, by show 0 ≤ g.2.1 + 0; omega, by show g.2.1 + 0 < _; omega, by show 0 ≤ g.2.2 + 0; omega, by show g.2.2 + 0 < _; omega⟩
          refine ⟨_, wv, addG q.1 o, lo, F5, _, rfl, O5, hwv, hGB, ?_⟩
          walk_at "x"
          refine x_newPair (R := rInt) (S := rTup rInt) (x := q.2.1 + fillC T'.tall (addG q.1 o) lo) (y := q.2.2) O5 rfl (up s5 hg3) (fun r6 H6 F6 s6 O6 hr6 => ?_)
          walk_at "x"
          refine x_append O6 (by omega) (fun H7 O7 => ?_)
          walk_at "x"
          refine LI.mk (s4.trans (s5.trans s6)) O7 ⟨_, _, _, _, _, _, rfl, rfl, ?_⟩
          have e : pairF T'.tall o lo q = some (q.2.1 + fillC T'.tall (addG q.1 o) lo, q.2.2) := by
            unfold pairF
            rw [if_pos hle]
          rw [fm_take hi, e]
          exact (all2_up (s5.trans s6) hus).snoc hr6
        · walk_at "x"
          refine LI.mk (s4.trans s5) O5 ⟨us, _, _, _, _, _, rfl, rfl, ?_⟩
          have e : pairF T'.tall o lo q = none := by
            unfold pairF
            rw [if_neg hle]
          rw [fm_take hi, e]
          show All2 _ (_ ++ []) us
          rw [List.append_nil]
          exact all2_up s5 hus
    · rintro σ' H4 F4 m4 s4 O4 ⟨us, u7, u8, u9, u10, u11, rfl, rfl, hus⟩
      rw [List.take_length] at hus
      have s24 := s12.trans s4
      walk_at "x"
      refine tq_listM O4 List.mem_cons_self ?_
      generalize fs.filterMap (pairF T'.tall o lo) = ps at hus k
      cases hus with
      | nil =>
        refine x_iteT rfl ?_
        walk_at "x"
        exact k .non H4 F4 s24 O4.tail rfl
      | @cons p0 v0 ps0 vs0 hp0 hps =>
        refine x_iteF rfl ?_
        have s5 := O4.freeze_same
        have hl5 : rList (rPair rInt (rTup rInt)) (upd F4 pr (.lst (v0 :: vs0))) (p0 :: ps0) (.ref pr) := ⟨pr, _, rfl, upd_same, all2_up s5 (.cons hp0 hps)⟩
        have O5 := O4.freeze
        generalize upd F4 pr (.lst (v0 :: vs0)) = F5 at O5 s5 hl5
        walk_at "x"
        refine x_minDat (R := rPair rInt (rTup rInt)) O5 hl5 (fun wv hwv => ?_)
        generalize hmin : minO (ltP ltI ltL) p0 ps0 = mn at hwv
        have hk : (minOpt (p0 :: ps0)).map (fun x => (x.1 + endC T' a b, x.2)) = some (mn.1 + endC T' a b, mn.2) := by
          show (some (minO ltPF p0 ps0)).map _ = _
          rw [← hmin]
          rfl
        rw [hk] at k
        refine x_gpair O5 hwv (fun c1 c2 hc1 hc2 => ?_)
        have hc1 : c1 = .int mn.1 := hc1
        subst hc1
        walk_at "x"
        have s05 := s24.trans s5
        refine mq_of (O5.frz (s05 _ _ hx)) (pF_non (n := "_end_cost") (by decide +kernel)) ?_
        walk_at "x"
        refine ⟨_, av, bv, T', a, b, F5, m, rfl, O5, up s05 hv, up (R := rTup rInt) s05 ha, up (R := rTup rInt) s05 hb, ok, hst, fun H6 F6 s6 O6 => ?_⟩
        walk_at "x"
        refine x_newPair (R := rInt) (S := rTup rInt) (x := mn.1 + endC T' a b) (y := mn.2) O6 rfl (up s6 hc2) (fun r7 H7 F7 s7 O7 hr7 => ?_)
        exact k r7 H7 F7 (s05.trans (s6.trans s7)) O7 hr7
end
end Tf
namespace Tf
open PySem PySem.Spec PyProof.Rows L2
theorem wi_zero {T : Told} {a : Pl} (ha : IsPl T a) (hi : a.2.2 = 0) : WI T a [(a, [(none, 0, [])])] [(none, 0, [])] 0 := by
  have h2 : a.2.1 = 0 := by
    rcases ha with h | h
    · exact h.2.1
    · omega
  have ek : nextK a = a.1 := by
    unfold nextK
    rw [if_pos hi]
  have ea : a = (nextK a + 0, 0, 0) := by
    obtain ⟨a1, a2, a3⟩ := a
    dsimp only at *
    rw [ek, h2, hi]
    rfl
  have er : restU T a = [] := by
    unfold restU
    rw [if_pos hi]
  refine ⟨nextK_le ha, ?_, fun x hx => ?_, ?_⟩
  · unfold midA
    rw [if_pos hi]
    show [a] = [] ++ [(nextK a, 0, 0)]
    exact congrArg (fun z => [z]) ea
  · rw [List.mem_singleton.mp hx]
    show Reps _ _ (entries T a a)
    have := entries_at (T := T) (a := a) 0
    rw [← ea] at this
    rw [this, er]
    exact Reps.start
  · rw [er]
    exact Reps.start
theorem wi_mid {T : Told} (ok : TOk T) {a : Pl} (ha : IsPl T a) (hi : 0 < a.2.2) {v : VarT} (hv : vari T a.1 a.2.1 = some v) :
    WI T a (((a, [(none, 0, [])]) :: throughS T.tall a.1 v.2.1 a.2.2 [(none, 0, [])]) ++ [((a.1 + 1, 0, 0), runU T.tall (v.2.1.drop a.2.2) [(none, 0, [])])]) (runU T.tall (v.2.1.drop a.2.2) [(none, 0, [])]) 0 := by
  obtain ⟨v', hv', hm, V, hl, hlt, hk⟩ := ha.var ok hi
  rw [hv] at hv'
  cases hv'
  have ek : nextK a = a.1 + 1 := by
    unfold nextK
    rw [if_neg (by omega)]
  have er : restU T a = v.2.1.drop a.2.2 := by
    unfold restU
    rw [if_neg (by omega), hv]
    rfl
  have hub : ∀ u ∈ v.2.1.drop a.2.2, UB u := fun u hu => V.units u (List.mem_of_mem_drop hu)
  have hcur : Reps T.tall (runU T.tall (v.2.1.drop a.2.2) [(none, 0, [])]) (fullL T (nextK a) (restU T a) 0) := by
    have := runU_reps (v.2.1.drop a.2.2) (Reps.start (H := T.tall)) hub
    rw [er]
    exact this
  have hmid : ∀ d, entries T a (a.1, a.2.1, a.2.2 + d) = [([], (v.2.1.drop a.2.2).take d, 0)] := fun d => by
    unfold entries
    rw [if_pos ⟨rfl, hi⟩, er]
    show [([], (v.2.1.drop a.2.2).take (a.2.2 + d - a.2.2), 0)] = _
    rw [Nat.add_sub_cancel_left]
  refine ⟨nextK_le ha, ?_, fun x hx => ?_, hcur⟩
  · rw [List.map_append, List.map_cons]
    unfold midA throughS
    rw [if_neg (by omega), List.map_map, ek, ← hl]
    show _ ++ [(a.1 + 1, 0, 0)] = _ ++ [(a.1 + 1, 0, 0)]
    congr 1
    obtain ⟨r, hr⟩ : ∃ r, v.2.1.length - a.2.2 = r + 1 := ⟨v.2.1.length - a.2.2 - 1, by omega⟩
    rw [hr, List.range_succ_eq_map, List.map_cons, List.map_map, Nat.add_sub_cancel]
    congr 1
    obtain ⟨a1, a2, a3⟩ := a
    dsimp only at *
    rw [← hl]
    rfl
  · rcases List.mem_append.mp hx with hx | hx
    · rcases List.mem_cons.mp hx with rfl | hx
      · show Reps _ _ (entries T a a)
        have := hmid 0
        rw [Nat.add_zero] at this
        have e : ((a.1, a.2.1, a.2.2) : Pl) = a := rfl
        rw [e] at this
        rw [this]
        exact Reps.start
      · unfold throughS at hx
        obtain ⟨d, hd, rfl⟩ := List.mem_map.mp hx
        show Reps _ _ (entries T a (a.1, v.2.1.length, a.2.2 + d + 1))
        rw [hl, Nat.add_assoc, hmid (d + 1)]
        exact runU_reps _ (Reps.start (H := T.tall)) fun u hu => hub u (List.mem_of_mem_take hu)
    · rw [List.mem_singleton.mp hx]
      show Reps _ _ (entries T a (a.1 + 1, 0, 0))
      have := entries_at (T := T) (a := a) 0
      rw [ek] at this
      rw [show a.1 + 1 = a.1 + 1 + 0 from rfl, this, ← ek]
      exact hcur
/-- the strand k in its variants so far -/
structure VI (T : Told) (a : Pl) (sps sps2 : List (Pl × List Fi)) (eds : List Fi) (n i : Nat) : Prop where
  pre : sps2.map (·.1) = sps.map (·.1) ++ ((strand T (nextK a + n)).take i).flatMap fun v => (List.range (v.2.1.length - 1)).map fun d => ((nextK a + n, v.2.1.length, d + 1) : Pl)
  reps : ∀ x ∈ sps2, Reps T.tall x.2 (entries T a x.1)
  cur : Reps T.tall eds (((strand T (nextK a + n)).take i).flatMap fun v => extV (fullL T (nextK a) (restU T a) n) v v.2.1.length)
  some_ : ∀ f ∈ eds, f.1 ≠ none
theorem VI.start {T : Told} {a : Pl} {sps : List (Pl × List Fi)} {fs : List Fi} {n : Nat} (h : WI T a sps fs n) : VI T a sps sps [] n 0 := ⟨by simp, h.reps, Reps.nil, fun f hf => (nomatch hf)⟩
theorem VI.next {T : Told} (ok : TOk T) {a : Pl} {sps sps2 : List (Pl × List Fi)} {fs eds : List Fi} {n i : Nat} {v : VarT} (h : VI T a sps sps2 eds n i) (hw : WI T a sps fs n) (hk : nextK a + n < T.strands.length) (hi : (strand T (nextK a + n))[i]? = some v) :
    VI T a sps (sps2 ++ throughS T.tall (nextK a + n) v.2.1 0 (fs.map fun f => (f.1, f.2.1 + v.1, f.2.2 ++ [(v.2.1.length : Int)]))) (eds ++ runU T.tall (v.2.1.drop 0) (fs.map fun f => (f.1, f.2.1 + v.1, f.2.2 ++ [(v.2.1.length : Int)]))) n (i + 1) := by
  have hv := List.mem_of_getElem? hi
  have V := var_ok ok hv
  have hb := hw.cur.begun (n := n) (fun e he => fullL_len he) v
  obtain ⟨h1, h2, h3⟩ := through_reps ok hk hv hb
  refine ⟨?_, fun x hx => ?_, ?_, fun f hf => ?_⟩
  · rw [List.map_append, h.pre, h1, List.take_add_one, hi, List.flatMap_append, List.append_assoc]
    congr 2
    show _ = [v].flatMap _
    rw [List.flatMap_cons, List.flatMap_nil, List.append_nil]
  · rcases List.mem_append.mp hx with hx | hx
    · exact h.reps x hx
    · exact h2 x hx
  · rw [List.take_add_one, hi, List.flatMap_append]
    have : ((some v).toList.flatMap fun v => extV (fullL T (nextK a) (restU T a) n) v v.2.1.length) = extV (fullL T (nextK a) (restU T a) n) v v.2.1.length := by
      show [v].flatMap _ = _
      rw [List.flatMap_cons, List.flatMap_nil, List.append_nil]
    rw [this]
    exact h.cur.app h3
  · rcases List.mem_append.mp hf with hf | hf
    · exact h.some_ f hf
    · rw [List.drop_zero] at hf
      exact runU_some (List.ne_nil_of_length_pos V.pos) f hf
theorem VI.done {T : Told} (ok : TOk T) {a : Pl} {sps sps2 : List (Pl × List Fi)} {fs eds rs : List Fi} {n : Nat} (h : VI T a sps sps2 eds n (strand T (nextK a + n)).length) (hw : WI T a sps fs n) (hk : nextK a + n < T.strands.length)
    (h1 : ∀ r ∈ rs, r ∈ eds) (h2 : ∀ f ∈ eds, ∃ r ∈ rs, r.1 = f.1 ∧ ltPF f.2 r.2 = false) (h3 : rs.length ≤ eds.length) : WI T a (sps2 ++ [((nextK a + (n + 1), 0, 0), rs)]) rs (n + 1) := by
  have hcur := h.cur
  rw [List.take_length] at hcur
  have hfull : Reps T.tall rs (fullL T (nextK a) (restU T a) (n + 1)) := by
    refine (hcur.same (fun e => extS_mem e) ?_).least h1 h2 h3
    rw [flatV_length, extS_length]
    exact Nat.le_refl _
  refine ⟨hk, ?_, fun x hx => ?_, hfull⟩
  · rw [List.map_append, h.pre, List.take_length, hw.pre, placesK_snoc, List.append_assoc, List.append_assoc]
    rfl
  · rcases List.mem_append.mp hx with hx | hx
    · exact h.reps x hx
    · rw [List.mem_singleton.mp hx]
      show Reps _ _ (entries T a (nextK a + (n + 1), 0, 0))
      rw [entries_at]
      exact hfull
theorem throughS_len {H : Int} {k start : Nat} {us : List UnitT} {fs : List Fi} (h : us.length ≤ 8) : (throughS H k us start fs).length ≤ 8 := by
  unfold throughS
  rw [List.length_map, List.length_range]
  omega
section
variable {P : Program} {w : World} {K : PySem.W.Frag} {mg : Str → Option Value} {base : Heap}
abbrev sSp : Stmt := inClass (top 19) 17
abbrev NSp : List Str := ["self", "state", "fills", "spots", "k", "ended", "cost", "units", "notes", "begun", "glue", "paid", "filling"]
theorem scSp : FnScope NSp ["self", "state"] (defScope sSp) := ⟨rfl, rfl, rfl, by decide +kernel, rfl, by decide +kernel, by decide +kernel⟩
theorem ok_Sp {f C CG f1 f2 f3 : Addr} {fd fd1 fd2 fd3 : FuncData} (F : Fun K "_spots" "PressTask._spots" sSp f fd) (T : Bi mg) (L : PCls K C) (M_PressTask__variant : Met P w K mg base C "_variant" 1 f1 fd1 ["self", "k", "m"] (spVar C))
    (M_PressTask__through : Met P w K mg base C "_through" 5 f2 fd2 ["self", "spots", "k", "units", "start", "fills"] (spThrough C CG)) (C__least_fills : Cal P w K mg base "_least_fills" 3 f3 fd3 ["fills"] (spLeastF CG)) :
    FnOk P w K mg base CX0 6 f fd ["self", "state"] (spSpots C CG) := by
  refine F.ok scSp (fun vs H Q E h => ?_) (fun cdv A outer s H vs Q E hr h => ?_)
  · obtain ⟨v, w, T, a, F, m, rfl, _⟩ := h
    rfl
  · obtain ⟨v, stv, T', a, F, m, rfl, O, hm, hv, ha, ok, hpl, k⟩ := h
    obtain ⟨x, dx, s1, f1, l1, o1, la1, ma1, rfl, hx, h1, h2, h3, h4, h5, h6⟩ := id hv
    refine ⟨_, 
    (pss_cons (ps_set (i := 2) scSp.nd rfl (Or.inl rfl) (pe_lst (pa_cons (pe_tup (pa_cons pe_non (pa_cons pe_int (pa_cons (pe_tup pa_nil) pa_nil)))) pa_nil)))
    (pss_cons (ps_set (i := 3) scSp.nd rfl (Or.inl rfl) (pe_lst (pa_cons (pe_tup (pa_cons (pe_slice sl_tupA (pv 1) po_none (po_some pe_int)) (pa_cons (pv 2) pa_nil))) pa_nil)))
    (pss_cons (ps_set (i := 4) scSp.nd rfl (Or.inl rfl) (pe_ix (r := rIxT K) ix_tup (pv 1) pe_int (fun _ _ => rfl)))
    (Tf.pss_cut (ps_if (pt_cmpR op_gt (pe_ix (r := rIxT K) ix_tup (pv 1) pe_int (fun _ _ => rfl)) pe_int (nomark _)) 
      (pss_cons (ps_set (i := 2) scSp.nd rfl (Or.inl rfl) (pe_meth (pv 0) M_PressTask__through.cl M_PressTask__through.me M_PressTask__through.ok (hr.mono (by first | decide | omega)) M_PressTask__through.bi .nil pass0 (pa_cons (pv 3) (pa_cons (pv 4) (pa_cons (pe_ix (r := rIxT K) ix_tup (pe_meth (pv 0) M_PressTask__variant.cl M_PressTask__variant.me M_PressTask__variant.ok (hr.mono (by first | decide | omega)) M_PressTask__variant.bi .nil pass0 (pa_cons (pv 4) (pa_cons (pe_ix (r := rIxT K) ix_tup (pv 1) pe_int (fun _ _ => rfl)) pa_nil))) pe_int (fun _ _ => rfl)) (pa_cons (pe_ix (r := rIxT K) ix_tup (pv 1) pe_int (fun _ _ => rfl)) (pa_cons (pv 2) pa_nil)))))))
      (pss_cons (ps_aug (i := 4) scSp.nd rfl (Or.inl rfl) pe_int ip_add)
      (pss_one (ps_expr (pe_bm PySem.F.plainAttrs_list PySem.F.slot_list_append PySem.F.type_list_append mt_append (pv 3) (pa_cons (pe_tup (pa_cons (pe_tup (pa_cons (pv 4) (pa_cons pe_int (pa_cons pe_int pa_nil)))) (pa_cons (pv 2) pa_nil))) pa_nil)))))) pss_nil)
    (pss_cons (ps_while PassesOwn.never (PW.pt (pw_and (pt_tru (pv 2) (by intro _; rfl)) (pw_and1 (pt_cmpR op_lt (pv 4) (pe_callB (id := "len") (r := rLen K) cr_len (by rfl) T.b_len (by decide +kernel) (pa_cons (pe_fld (pv 0) rfl) pa_nil)) (nomark _))))) 
      (pss_cons (ps_set (i := 5) scSp.nd rfl (Or.inl rfl) (pe_lst pa_nil))
      (pss_cons (ps_for PassesOwn.never rfl (pi_tup (pe_ix (r := rIxT K) ix_tup (pe_fld (pv 0) rfl) (pv 4) (fun _ _ => rfl))) (pg_tup (by rfl) (pgs_cons (pg_name (i := 6) scSp.nd rfl (Or.inr rfl)) (pgs_cons (pg_name (i := 7) scSp.nd rfl (Or.inr rfl)) (pgs_cons (pg_name (i := 8) scSp.nd rfl (Or.inl rfl)) pgs_nil)))) 
        (pss_cons (ps_setLc (i := 9) (own := [("glue", 10), ("paid", 11), ("filling", 12)]) (g := (gTup K 3 (gCons (gName 10) (gCons (gName 11) (gCons (gName 12) gNil))))) (tt := tYes) rfl scSp.nd rfl rfl (sw_true rfl rfl rfl (by decide +kernel)) (pi_list (pv 2)) (blkOk_by (N := NSp) (sc := defScope sSp) (by decide +kernel)) (fun _ _ _ _ _ => (pg_tup (by rfl) (pgs_cons (pg_name (i := 10) scSp.nd rfl (Or.inl rfl)) (pgs_cons (pg_name (i := 11) scSp.nd rfl (Or.inl rfl)) (pgs_cons (pg_name (i := 12) scSp.nd rfl (Or.inl rfl)) pgs_nil))))) (fun _ _ _ _ _ => pts_nil) (fun _ _ _ _ _ => (pe_tup (pa_cons (pv 10) (pa_cons (pe_op op_add (pv 11) (pv 6)) (pa_cons (pe_op (r := rCatA K) op_catA (pv 12) (pe_tup (pa_cons (pe_callB (id := "len") (r := rLen K) cr_len (by rfl) T.b_len (by decide +kernel) (pa_cons (pv 7) pa_nil)) pa_nil))) pa_nil))))))
        (pss_one (ps_expr (pe_bm PySem.F.plainAttrs_list PySem.F.slot_list_extend PySem.F.type_list_extend mt_extend (pv 5) (pa_cons (pe_meth (pv 0) M_PressTask__through.cl M_PressTask__through.me M_PressTask__through.ok (hr.mono (by first | decide | omega)) M_PressTask__through.bi .nil pass0 (pa_cons (pv 3) (pa_cons (pv 4) (pa_cons (pv 7) (pa_cons pe_int (pa_cons (pv 9) pa_nil)))))) pa_nil))))))
      (pss_cons (ps_set (i := 2) scSp.nd rfl (Or.inl rfl) (pe_call C__least_fills.ok (hr.mono (by first | decide | omega)) rfl C__least_fills.mg C__least_fills.kp C__least_fills.bi .nil pass0 (pa_cons (pv 5) pa_nil)))
      (pss_cons (ps_aug (i := 4) scSp.nd rfl (Or.inl rfl) pe_int ip_add)
      (pss_one (ps_expr (pe_bm PySem.F.plainAttrs_list PySem.F.slot_list_append PySem.F.type_list_append mt_append (pv 3) (pa_cons (pe_tup (pa_cons (pe_tup (pa_cons (pv 4) (pa_cons pe_int (pa_cons pe_int pa_nil)))) (pa_cons (pv 2) pa_nil))) pa_nil)))))))))
    (pss_one (ps_ret (pv 3)))))))), ?_⟩
    have hkK := nextK_le hpl
    have hmany := ok.many
    walk_at "x"
    refine x_newT (R := rInt) (xs := []) O (Nat.zero_le _) .nil (fun ev H1 F1 s1 O1 hev => ?_)
    walk_at "x"
    refine x_newTri (R := rOpt (rGlue CG)) (S := rInt) (T := rTup rInt) (x := none) (y := 0) (z := []) O1 rfl rfl hev (fun tv H2 F2 s2 O2 htv => ?_)
    walk_at "x"
    refine x_newL (R := rFi CG) (xs := [(none, 0, [])]) O2 (by show 1 ≤ _; decide) (.cons htv .nil) (fun fv H3 F3 s3 O3 hfv => ?_)
    have s03 := s1.trans (s2.trans s3)
    walk_at "x"
    refine x_slTA O3 (up (R := rTup rInt) s03 ha) (fun pv H4 F4 s4 O4 hpv => ?_)
    have hpv : rPl F4 a.pl pv := by
      have e := cutL_to (stL a) 3
      have e2 : ((3 : Nat) : Int) = 3 := rfl
      rw [e2] at e
      rw [e] at hpv
      exact hpv
    walk_at "x"
    refine x_newPair (R := rPl) (S := rFis CG) (x := a.pl) (y := [(none, 0, [])]) O4 hpv (up s4 hfv) (fun qv H5 F5 s5 O5 hqv => ?_)
    walk_at "x"
    refine x_ownL (vs := [qv]) O5 (by show 1 ≤ _; decide) (fun spl H6 hn6 O6 => ?_)
    have s05 := s03.trans (s4.trans s5)
    have ha5 := up (R := rTup rInt) s05 ha
    walk_at "x"
    refine x_ixTI (j := 0) O6 ha5 rfl rfl ?_
    walk_at "x"
    refine x_cut (fun σ' H' => ∃ (fv : V) (fs : List Fi) (sps : List (Pl × List Fi)) (spv : List V) (F' : Hp) (u5 u6 u7 u8 u9 u10 u11 u12 : Option V), σ' = [some (.ref x), some stv, some fv, some (.ref spl), some (.int (nextK a.pl : Int)), u5, u6, u7, u8, u9, u10, u11, u12] ∧ Same F F' ∧ Own H' F' ((spl, .lst spv) :: m) ∧
      rFis CG F' fs fv ∧ All2 (rSpot CG F') sps spv ∧ WI T' a.pl sps fs 0 ∧ spv.length ≤ 10) ?_ ?_
    · walk_at "x"
      refine x_ixTI (j := 2) O6 ha5 rfl rfl ?_
      walk_at "x"
      refine x_iteD (fun hi => ?_) (fun hi => ?_)
      · have hi0 : 0 < a.pl.2.2 := by
          have e : a.pl.2.2 = a.2.2.1 := rfl
          omega
        obtain ⟨vv, hvv, hvm, Vk, hvl, hlt, hkk⟩ := hpl.var ok hi0
        walk_at "x"
        refine mq_of (O6.frz (s05 _ _ hx)) (pF_non (n := "_through") (by decide +kernel)) ?_
        walk_at "x"
        refine mq_of (O6.frz (s05 _ _ hx)) (pF_non (n := "_variant") (by decide +kernel)) ?_
        walk_at "x"
        refine x_ixTI (j := 1) O6 ha5 rfl rfl ?_
        walk_at "x"
        refine ⟨_, T', a.1, a.2.1, F5, _, rfl, O6, up s05 hv, hkk, fun r H7 F7 s7 O7 hr7 => ?_⟩
        have hvv' : vari T' a.1 a.2.1 = some vv := hvv
        rw [hvv'] at hr7
        walk_at "x"
        refine x_tri1 O7 hr7 (fun us hus => ?_)
        walk_at "x"
        have s07 := s05.trans s7
        refine x_ixTI (j := 2) O7 (up (R := rTup rInt) s7 ha5) rfl rfl ?_
        walk_at "x"
        have hlt2 : a.2.2.1 < vv.2.1.length := by rw [hvl]; exact hlt
        refine ⟨_, spl, a.1, us, a.2.2.1, fv, T', vv.2.1, [(none, 0, [])], [qv], F7, m, rfl, O7, up s07 hv, hus, up (s4.trans (s5.trans s7)) hfv, by decide, Vk.few, hlt2, by show 1 ≤ _; decide, fun r8 H8 F8 ys s8 O8 hys hr8 => ?_⟩
        walk_at "x"
        refine ⟨ty_list O8.at0, ?_⟩
        walk_at "x"
        have e1 : (a.1 : Int) + 1 = ((a.1 + 1 : Nat) : Int) := by omega
        refine x_newT (R := rInt) (xs := plL (a.1 + 1, 0, 0)) O8 (by show 3 ≤ _; decide) (by rw [e1]; exact All2.ofmap (f := V.int)) (fun pv9 H9 F9 s9 O9 hpv9 => ?_)
        have hpv9 : rPl F9 (a.1 + 1, 0, 0) pv9 := hpv9
        walk_at "x"
        refine x_newPair (R := rPl) (S := rFis CG) (x := (a.1 + 1, 0, 0)) (y := runU T'.tall (vv.2.1.drop a.2.2.1) [(none, 0, [])]) O9 hpv9 (up s9 hr8) (fun qv10 H10 F10 s10 O10 hqv10 => ?_)
        walk_at "x"
        have hyl : ys.length ≤ 8 := by
          rw [← hys.length]
          exact throughS_len Vk.few
        refine x_append O10 (by show ([qv] ++ ys).length < _; rw [List.length_append]; show 1 + _ < _; omega) (fun H11 O11 => ?_)
        walk_at "x"
        have ek : (nextK a.pl : Int) = (a.1 : Int) + 1 := by
          unfold nextK
          rw [if_neg (by omega)]
          rfl
        have s910 := s9.trans s10
        refine ⟨r8, _, _, _, F10, _, _, _, _, _, _, _, _, by rw [ek]; rfl, s07.trans (s8.trans s910), O11, up s910 hr8, ((All2.cons (up (s7.trans (s8.trans s910)) hqv) (all2_up s910 hys)).app (.cons hqv10 .nil)), wi_mid ok hpl hi0 hvv, by rw [List.length_append, List.length_append]; show 1 + ys.length + 1 ≤ 10; omega⟩
      · have hi0 : a.pl.2.2 = 0 := by
          have e : a.pl.2.2 = a.2.2.1 := rfl
          omega
        walk_at "x"
        have ek : (nextK a.pl : Int) = (a.1 : Int) := by
          unfold nextK
          rw [if_pos hi0]
        refine ⟨fv, _, _, _, F5, _, _, _, _, _, _, _, _, by rw [ek]; rfl, s05, O6, up (s4.trans s5) hfv, .cons hqv .nil, wi_zero hpl hi0, by show 1 ≤ _; decide⟩
    · rintro σ' H7 ⟨fv7, fs7, sps7, spv7, F7, u5, u6, u7, u8, u9, u10, u11, u12, rfl, s7, O7, hfv7, hsp7, hwi7, hlen7⟩
      walk_at "x"
      refine x_while O7 (fun n σ F' m' => ∃ (j : Nat) (fv : V) (fs : List Fi) (sps : List (Pl × List Fi)) (spv : List V) (u5 u6 u7 u8 u9 u10 u11 u12 : Option V), σ = [some (.ref x), some stv, some fv, some (.ref spl), some (.int ((nextK a.pl + j : Nat) : Int)), u5, u6, u7, u8, u9, u10, u11, u12] ∧ m' = (spl, .lst spv) :: m ∧
        rFis CG F' fs fv ∧ All2 (rSpot CG F') sps spv ∧ WI T' a.pl sps fs j ∧ spv.length ≤ 10 + 30 * j ∧ n = T'.strands.length - (nextK a.pl + j)) _ ⟨0, fv7, fs7, sps7, spv7, _, _, _, _, _, _, _, _, rfl, rfl, hfv7, hsp7, hwi7, by omega, rfl⟩ ?_
      rintro n σ' H8 F8 m8 s8 O8 ⟨j, fv, fs, sps, spv, u5, u6, u7, u8, u9, u10, u11, u12, rfl, rfl, hfv, hsp, hwi, hlen, hn⟩
      have hle := hwi.le
      have s78 := s7.trans s8
      have done : (fs = [] ∨ nextK a.pl + j = T'.strands.length) → Q (.ref spl) H8 := fun hend => by
        have s9 := O8.freeze_same
        exact k (.ref spl) H8 _ sps (s78.trans s9) O8.freeze ⟨spl, spv, rfl, upd_same, all2_up s9 hsp⟩ (hwi.spots ok hend)
      obtain ⟨fa, fus, rfl, hfa, hfu⟩ := id hfv
      walk_at "x"
      refine tq_list (O8.frz hfa) ?_
      cases hfu with
      | nil =>
        refine x_iteF rfl ?_
        refine x_iteF rfl ?_
        walk_at "x"
        exact done (.inl rfl)
      | @cons p0 v0 ps0 vs0 hp0 hps =>
        refine x_iteT rfl ?_
        walk_at "x"
        refine x_fldF O8 (s78 _ _ hx) L.cl L.n1 pF_1 ?_
        walk_at "x"
        refine x_lenT O8 (up s78 h1) ?_
        walk_at "x"
        refine x_iteD (fun hlt => ?_) (fun hlt => ?_)
        · have hkj : nextK a.pl + j < T'.strands.length := by omega
          have S := ok.strands _ (strand_mem hkj)
          have hfl := hwi.cur.len
          have hfew := fullL_few ok (u0 := restU T' a.pl) hle
          refine ⟨LI _ F7 (n - 1), fun σ2 H2 h => ⟨n - 1, by omega, h⟩, ?_⟩
          walk_at "x"
          refine x_ownL (vs := []) O8 (Nat.zero_le _) (fun el H9 hn9 O9 => ?_)
          walk_at "x"
          refine x_fldF O9 (s78 _ _ hx) L.cl L.n1 pF_1 ?_
          walk_at "x"
          refine x_ixT (R := rStrand) (j := nextK a.pl + j) O9 (up s78 h1) rfl (strand_get hkj) (fun st hst => ?_)
          refine x_doT (R := rVari) O9 hst (fun i σ F' m' => ∃ (eds : List Fi) (ev : List V) (sps2 : List (Pl × List Fi)) (spv2 : List V) (u6 u7 u8 u9 u10 u11 u12 : Option V), σ = [some (.ref x), some stv, some (.ref fa), some (.ref spl), some (.int ((nextK a.pl + j : Nat) : Int)), some (.ref el), u6, u7, u8, u9, u10, u11, u12] ∧
            m' = (el, .lst ev) :: (spl, .lst spv2) :: m ∧ All2 (rFi CG F') eds ev ∧ All2 (rSpot CG F') sps2 spv2 ∧ VI T' a.pl sps sps2 eds j i ∧ spv2.length ≤ spv.length + 8 * i ∧ ev.length ≤ 30 * i) ⟨[], [], sps, spv, _, _, _, _, _, _, _, rfl, rfl, .nil, hsp, VI.start hwi, Nat.le_refl _, Nat.le_refl _⟩ ?_ ?_
          · rintro i vv z σ' H10 F10 m10 hi hz s10 O10 ⟨eds, ev, sps2, spv2, u6, u7, u8, u9, u10, u11, u12, rfl, rfl, hed, hsp2, hvi, hl2, hel⟩
            have il := (List.getElem?_eq_some_iff.mp hi).1
            have hsf := S.few
            have hvm := List.mem_of_getElem? hi
            have Vk := S.vars vv hvm
            refine x_gtri O10 hz (fun a1 a2 a3 ha1 ha2 ha3 => ?_)
            have ha1 : a1 = .int vv.1 := ha1
            subst ha1
            have s710 := s78.trans s10
            walk_at "x"
            refine x_docL (R := rFi CG) (S := rFi CG) O10 (up s10 hfv) (fun i2 F' m' ys => m' = (el, .lst ev) :: (spl, .lst spv2) :: m ∧ ys = ((p0 :: ps0).take i2).map fun f => (f.1, f.2.1 + vv.1, f.2.2 ++ [(vv.2.1.length : Int)])) ⟨rfl, by simp⟩ ?_ ?_
            · rintro D acc i2 q z2 H11 F11 m11 ys hi2 hz2 s11 O11 hacc hyl ⟨rfl, rfl⟩
              have il2 := (List.getElem?_eq_some_iff.mp hi2).1
              refine x_gtri O11 hz2 (fun g1 g2 g3 hg1 hg2 hg3 => ?_)
              have hg2 : g2 = .int q.2.1 := hg2
              subst hg2
              walk_at "x"
              refine ⟨rfl, ?_⟩
              walk_at "x"
              refine x_iteT rfl ?_
              walk_at "x"
              refine x_lenT O11 (up s11 ha2) ?_
              walk_at "x"
              refine x_newT (R := rInt) (xs := [(vv.2.1.length : Int)]) O11 (by show 1 ≤ _; decide) (All2.ofmap (f := V.int)) (fun lv H12 F12 s12 O12 hlv => ?_)
              have hq1 : q.2.2.length ≤ 1000 := by
                have hqm := List.mem_of_getElem? hi2
                obtain ⟨us, hue, _⟩ := hwi.cur.snd q hqm
                have := fullL_len hue
                have e : q.2.2.length = j := this
                omega
              refine x_catTA O12 (up s12 hg3) hlv (by show _ + 1 ≤ _; omega) (fun cv H13 F13 s13 O13 hcv => ?_)
              walk_at "x"
              refine x_newTri (R := rOpt (rGlue CG)) (S := rInt) (T := rTup rInt) (x := q.1) (y := q.2.1 + vv.1) (z := q.2.2 ++ [(vv.2.1.length : Int)]) O13 (up (s12.trans s13) hg1) rfl hcv (fun r14 H14 F14 s14 O14 hr14 => ?_)
              refine x_keep (S := rFi CG) O14 (s11.trans (s12.trans (s13.trans s14))) hr14 (all2_up (s12.trans (s13.trans s14)) hacc) hyl (by omega) ⟨rfl, ?_⟩
              rw [List.take_add_one, hi2, List.map_append]
              rfl
            · rintro bv H11 F11 m11 ys s11 O11 hbv ⟨rfl, rfl⟩
              rw [List.take_length] at hbv
              walk_at "x"
              refine ⟨ty_list O11.at0, ?_⟩
              walk_at "x"
              have s711 := s710.trans s11
              refine mq_of (O11.frz (s711 _ _ hx)) (pF_non (n := "_through") (by decide +kernel)) ?_
              walk_at "x"
              refine ⟨_, spl, nextK a.pl + j, a2, 0, bv, T', vv.2.1, _, spv2, F11, _, rfl, O11.swap, up s711 hv, up s11 ha2, hbv, by rw [List.length_map]; omega, Vk.few, Vk.pos, by omega, fun r12 H12 F12 ys2 s12 O12 hys2 hr12 => ?_⟩
              walk_at "x"
              obtain ⟨ra, rus, rfl, hra, hru⟩ := id hr12
              have hrul : rus.length ≤ 30 := by
                rw [← hru.length]
                refine Nat.le_trans (runU_len _ _) ?_
                rw [List.length_map]
                omega
              have hyl2 : ys2.length ≤ 8 := by
                rw [← hys2.length]
                exact throughS_len Vk.few
              refine x_extend O12.swap hra (by omega) (fun H13 O13 => ?_)
              walk_at "x"
              refine LI.mk (s10.trans (s11.trans s12)) O13 ?_
              exact ⟨_, _, _, _, _, _, _, _, _, _, _, rfl, rfl, (all2_up (s11.trans s12) hed).app hru, (all2_up (s11.trans s12) hsp2).app hys2, hvi.next ok hwi hkj hi, by rw [List.length_append]; omega, by rw [List.length_append]; omega⟩
          · rintro σ' H10 F10 m10 s10 O10 ⟨eds, ev, sps2, spv2, u6, u7, u8, u9, u10, u11, u12, rfl, rfl, hed, hsp2, hvi, hl2, hel⟩
            have hsf := S.few
            walk_at "x"
            have O11 := O10.freeze
            have s11 := O10.freeze_same
            have hel11 : rFis CG (upd F10 el (.lst ev)) eds (.ref el) := ⟨el, ev, rfl, upd_same, all2_up s11 hed⟩
            generalize upd F10 el (.lst ev) = F11 at O11 s11 hel11
            have hm2 : NoTup ((spl, HO.lst spv2) :: m) := fun c hc xs => by
              rcases List.mem_cons.mp hc with rfl | hc
              · exact fun z => by cases z
              · exact hm c hc xs
            refine ⟨.ref el, eds, F11, _, rfl, O11, hm2, hel11, by rw [hed.length]; omega, hvi.some_, fun r12 H12 F12 rs s12 O12 hr12 hr1 hr2 hr3 => ?_⟩
            walk_at "x"
            refine ⟨ty_list O12.at0, ?_⟩
            walk_at "x"
            have e1 : ((nextK a.pl + j : Nat) : Int) + 1 = ((nextK a.pl + (j + 1) : Nat) : Int) := by omega
            rw [e1]
            refine x_newT (R := rInt) (xs := plL (nextK a.pl + (j + 1), 0, 0)) O12 (by show 3 ≤ _; decide) (All2.ofmap (f := V.int)) (fun pv13 H13 F13 s13 O13 hpv13 => ?_)
            have hpv13 : rPl F13 (nextK a.pl + (j + 1), 0, 0) pv13 := hpv13
            walk_at "x"
            refine x_newPair (R := rPl) (S := rFis CG) (x := (nextK a.pl + (j + 1), 0, 0)) (y := rs) O13 hpv13 (up s13 hr12) (fun qv14 H14 F14 s14 O14 hqv14 => ?_)
            walk_at "x"
            refine x_append O14 (by omega) (fun H15 O15 => ?_)
            walk_at "x"
            have s1314 := s13.trans s14
            have s1014 := s11.trans (s12.trans s1314)
            refine LI.mk (s8.trans (s10.trans s1014)) O15 ?_
            exact ⟨j + 1, r12, rs, _, _, _, _, _, _, _, _, _, _, rfl, rfl, up s1314 hr12, (all2_up s1014 hsp2).snoc hqv14, hvi.done ok hwi hkj hr1 hr2 hr3, by rw [List.length_append]; show _ + 1 ≤ _; omega, by omega⟩
        · walk_at "x"
          exact done (.inr (by omega))
end
end Tf
namespace Tf
open PySem PySem.Spec PyProof.Rows L2
theorem noTup_cons {m : Mem} {a : Addr} {us : List V} (h : NoTup m) : NoTup ((a, HO.lst us) :: m) := fun c hc xs => by
  rcases List.mem_cons.mp hc with rfl | hc
  · exact fun z => by cases z
  · exact h c hc xs
/-- one row of the pages at a place -/
def pgRow (T : Told) (a : Sx) (p : Pl) (i : Nat) (j : Nat) : Option Pg := (pageT T a (p.1, p.2.1, p.2.2, a.2.2.2.1 + i, a.2.2.2.2 + j)).map fun x => (x.1, x.2, (p.1, p.2.1, p.2.2, a.2.2.2.1 + i, a.2.2.2.2 + j))
def pgRows (T : Told) (a : Sx) (p : Pl) (i n : Nat) : List Pg := (List.range n).filterMap (pgRow T a p i)
theorem pgRows_succ {T : Told} {a : Sx} {p : Pl} {i n : Nat} : pgRows T a p i (n + 1) = pgRows T a p i n ++ (pgRow T a p i n).toList := by
  unfold pgRows
  rw [List.range_succ, List.filterMap_append]
  congr 1
theorem pagesP_rows {T : Told} {a : Sx} {p : Pl} : pagesP T a p = (List.range (numF T a p)).flatMap fun i => pgRows T a p i (numS T a p) := rfl
theorem range_flat_succ {β : Type} {f : Nat → List β} {n : Nat} : (List.range (n + 1)).flatMap f = (List.range n).flatMap f ++ f n := by
  rw [List.range_succ, List.flatMap_append, List.flatMap_cons, List.flatMap_nil, List.append_nil]
theorem pgRows_len {T : Told} {a : Sx} {p : Pl} {i n : Nat} : (pgRows T a p i n).length ≤ n := by
  unfold pgRows
  refine Nat.le_trans (List.length_filterMap_le _ _) ?_
  rw [List.length_range]
  exact Nat.le_refl _
theorem take_flat_succ {α β : Type} {f : α → List β} {l : List α} {i : Nat} {x : α} (h : l[i]? = some x) : (l.take (i + 1)).flatMap f = (l.take i).flatMap f ++ f x := by
  rw [List.take_add_one, h, List.flatMap_append]
  congr 1
  show [x].flatMap f = f x
  rw [List.flatMap_cons, List.flatMap_nil, List.append_nil]
section
variable {P : Program} {w : World} {K : PySem.W.Frag} {mg : Str → Option Value} {base : Heap}
abbrev sPg : Stmt := inClass (top 19) 16
abbrev NPg : List Str := ["self", "state", "found", "place", "fills", "floats", "f", "s", "after", "best"]
theorem scPg : FnScope NPg ["self", "state"] (defScope sPg) := ⟨rfl, rfl, rfl, by decide +kernel, rfl, by decide +kernel, by decide +kernel⟩
theorem ok_Pg {f C CG f1 f2 f3 f4 : Addr} {fd fd1 fd2 fd3 fd4 : FuncData} (F : Fun K "_pages" "PressTask._pages" sPg f fd) (T : Bi mg) (L : PCls K C) (M_PressTask__spots : Met P w K mg base C "_spots" 6 f1 fd1 ["self", "state"] (spSpots C CG))
    (M_PressTask__due_floats : Met P w K mg base C "_due_floats" 1 f2 fd2 ["self", "place"] (spDueF C)) (M_PressTask__due_lines : Met P w K mg base C "_due_lines" 2 f3 fd3 ["self", "place"] (spDueL C)) (M_PressTask__best : Met P w K mg base C "_best" 5 f4 fd4 ["self", "a", "b", "fills"] (spBest C CG)) :
    FnOk P w K mg base CX0 7 f fd ["self", "state"] (spPages C) := by
  refine F.ok scPg (fun vs H Q E h => ?_) (fun cdv A outer s H vs Q E hr h => ?_)
  · obtain ⟨v, w, T, a, F, m, rfl, _⟩ := h
    rfl
  · obtain ⟨v, av, T', a, F, m, rfl, O, hm, hv, ha, ok, hst, k⟩ := h
    obtain ⟨x, dx, s1, f1, l1, o1, la1, ma1, rfl, hx, h1, h2, h3, h4, h5, h6⟩ := id hv
    have hfap := ok.fapB
    have hfF := ok.fewF
    have hfL := ok.fewL
    have haF := hst.2.1
    have haL := hst.2.2
    refine ⟨_, 
    (pss_cons (ps_set (i := 2) scPg.nd rfl (Or.inl rfl) (pe_lst pa_nil))
    (pss_cons (ps_for PassesOwn.never rfl (pi_list (pe_meth (pv 0) M_PressTask__spots.cl M_PressTask__spots.me M_PressTask__spots.ok (hr.mono (by first | decide | omega)) M_PressTask__spots.bi .nil pass0 (pa_cons (pv 1) pa_nil))) (pg_tup (by rfl) (pgs_cons (pg_name (i := 3) scPg.nd rfl (Or.inl rfl)) (pgs_cons (pg_name (i := 4) scPg.nd rfl (Or.inl rfl)) pgs_nil))) 
      (pss_cons (ps_set (i := 5) scPg.nd rfl (Or.inl rfl) (pe_callB (cr_min2 rfl) (by rfl) T.b_min (by decide +kernel) (pa_cons (pe_op op_add (pe_ix (r := rIxT K) ix_tup (pv 1) pe_int (fun _ _ => rfl)) (pe_fld (pv 0) rfl)) (pa_cons (pe_meth (pv 0) M_PressTask__due_floats.cl M_PressTask__due_floats.me M_PressTask__due_floats.ok (hr.mono (by first | decide | omega)) M_PressTask__due_floats.bi .nil pass0 (pa_cons (pv 3) pa_nil)) pa_nil))))
      (pss_one (ps_for PassesOwn.never rfl (pi_range2 (by rfl) T.b_range (pa_cons (pe_ix (r := rIxT K) ix_tup (pv 1) pe_int (fun _ _ => rfl)) (pa_cons (pe_op op_add (pe_callB (cr_max2 rfl) (by rfl) T.b_max (by decide +kernel) (pa_cons (pe_ix (r := rIxT K) ix_tup (pv 1) pe_int (fun _ _ => rfl)) (pa_cons (pv 5) pa_nil))) pe_int) pa_nil))) (pg_name (i := 6) scPg.nd rfl (Or.inl rfl)) 
        (pss_one (ps_for PassesOwn.never rfl (pi_range2 (by rfl) T.b_range (pa_cons (pe_ix (r := rIxT K) ix_tup (pv 1) pe_int (fun _ _ => rfl)) (pa_cons (pe_op op_add (pe_callB (cr_max2 rfl) (by rfl) T.b_max (by decide +kernel) (pa_cons (pe_ix (r := rIxT K) ix_tup (pv 1) pe_int (fun _ _ => rfl)) (pa_cons (pe_meth (pv 0) M_PressTask__due_lines.cl M_PressTask__due_lines.me M_PressTask__due_lines.ok (hr.mono (by first | decide | omega)) M_PressTask__due_lines.bi .nil pass0 (pa_cons (pv 3) pa_nil)) pa_nil))) pe_int) pa_nil))) (pg_name (i := 7) scPg.nd rfl (Or.inl rfl)) 
          (pss_cons (ps_set (i := 8) scPg.nd rfl (Or.inl rfl) (pe_op (r := rCatA K) op_catA (pv 3) (pe_tup (pa_cons (pv 6) (pa_cons (pv 7) pa_nil)))))
          (pss_cons (ps_set (i := 9) scPg.nd rfl (Or.inl rfl) (pe_meth (pv 0) M_PressTask__best.cl M_PressTask__best.me M_PressTask__best.ok (hr.mono (by first | decide | omega)) M_PressTask__best.bi .nil pass0 (pa_cons (pv 1) (pa_cons (pv 8) (pa_cons (pv 4) pa_nil)))))
          (pss_one (ps_if (pt_cmpR op_notNon (pv 9) pe_non (nomark _)) 
            (pss_one (ps_expr (pe_bm PySem.F.plainAttrs_list PySem.F.slot_list_append PySem.F.type_list_append mt_append (pv 2) (pa_cons (pe_tup (pa_cons (pe_ix (r := rIxT K) ix_tup (pv 9) pe_int (fun _ _ => rfl)) (pa_cons (pe_ix (r := rIxT K) ix_tup (pv 9) pe_int (fun _ _ => rfl)) (pa_cons (pv 8) pa_nil)))) pa_nil)))) pss_nil))))))))))
    (pss_one (ps_ret (pv 2))))), ?_⟩
    walk_at "x"
    refine x_ownL (vs := []) O (Nat.zero_le _) (fun fnd H1 hn1 O1 => ?_)
    walk_at "x"
    refine mq_of (O1.frz hx) (pF_non (n := "_spots") (by decide +kernel)) ?_
    walk_at "x"
    refine ⟨_, av, T', a, F, _, rfl, O1, noTup_cons hm, hv, ha, ok, hst.1, fun r2 H2 F2 sps s2 O2 hr2 hsp => ?_⟩
    have hlen := hsp.len ok hst.1
    refine x_doL O2 hr2 (fun i σ F' m' => ∃ (us : List V) (u3 u4 u5 u6 u7 u8 u9 : Option V), σ = [some (.ref x), some av, some (.ref fnd), u3, u4, u5, u6, u7, u8, u9] ∧ m' = (fnd, .lst us) :: m ∧ All2 (rPg F') ((sps.take i).flatMap fun x => pagesP T' a x.1) us)
      ⟨[], _, _, _, _, _, _, _, rfl, rfl, .nil⟩ ?_ ?_
    · rintro i q z σ' H3 F3 m3 hi hz s3 O3 ⟨us, u3, u4, u5, u6, u7, u8, u9, rfl, rfl, hus⟩
      have il := (List.getElem?_eq_some_iff.mp hi).1
      have hqm := List.mem_of_getElem? hi
      obtain ⟨hpl, hfo⟩ := hsp.pl hst.1 q hqm
      have hrp := hsp.reps q hqm
      have hul : us.length ≤ 55 * i := by
        rw [← hus.length]
        refine Nat.le_trans (flat_len (c := 55) _ fun y hy => pagesP_len ok hst (hsp.pl hst.1 y (List.mem_of_mem_take hy)).1) ?_
        rw [List.length_take]
        omega
      refine x_gpair O3 hz (fun pv fv hpv hfv => ?_)
      have s03 := s2.trans s3
      have ha3 := up (R := rTup rInt) s03 ha
      walk_at "x"
      refine x_ixTI (j := 3) O3 ha3 rfl rfl ?_
      walk_at "x"
      refine x_fldF O3 (s03 _ _ hx) L.cl L.n5 pF_5 ?_
      walk_at "x"
      refine mq_of (O3.frz (s03 _ _ hx)) (pF_non (n := "_due_floats") (by decide +kernel)) ?_
      walk_at "x"
      refine ⟨_, pv, T', q.1, F3, _, rfl, O3, up s03 hv, hpv, ok, fun H4 F4 s4 O4 => ?_⟩
      walk_at "x"
      have s04 := s03.trans s4
      have ha4 := up (R := rTup rInt) s04 ha
      refine x_ixTI (j := 3) O4 ha4 rfl rfl ?_
      walk_at "x"
      refine x_ixTI (j := 3) O4 ha4 rfl rfl ?_
      walk_at "x"
      have hF := dueF_b (T := T') q.1.1
      have hL := dueL_b ok hpl
      have hnF := numF_le ok hst q.1
      have hnS := numS_le ok hst hpl
      refine x_doR2 (n := numF T' a q.1) O4 rfl (by split <;> split <;> omega) (fun i2 σ F' m' => ∃ (us2 : List V) (u6 u7 u8 u9 : Option V), σ = [some (.ref x), some av, some (.ref fnd), some pv, some fv, some (.int (if (a.2.2.2.1 : Int) + T'.fap > (dueF T' q.1.1 : Int) then (dueF T' q.1.1 : Int) else (a.2.2.2.1 : Int) + T'.fap)), u6, u7, u8, u9] ∧ m' = (fnd, .lst us2) :: m ∧
        All2 (rPg F') (((sps.take i).flatMap fun x => pagesP T' a x.1) ++ (List.range i2).flatMap fun i => pgRows T' a q.1 i (numS T' a q.1)) us2) ⟨us, _, _, _, _, rfl, rfl, by rw [List.range_zero, List.flatMap_nil, List.append_nil]; exact all2_up s4 hus⟩ ?_ ?_
      · rintro i2 σ' H5 F5 m5 hi2 s5 O5 ⟨us2, u6, u7, u8, u9, rfl, rfl, hus2⟩
        have hul2 : us2.length ≤ 55 * i + 11 * i2 := by
          rw [← hus2.length, List.length_append, hus.length]
          have := flat_len (c := 11) (f := fun i => pgRows T' a q.1 i (numS T' a q.1)) (List.range i2) fun i _ => Nat.le_trans pgRows_len (by omega)
          rw [List.length_range] at this
          omega
        have ef : (a.2.2.2.1 : Int) + (i2 : Int) = ((a.2.2.2.1 + i2 : Nat) : Int) := by omega
        rw [ef]
        have s05 := s04.trans s5
        have ha5 := up (R := rTup rInt) s05 ha
        walk_at "x"
        refine x_ixTI (j := 4) O5 ha5 rfl rfl ?_
        walk_at "x"
        refine x_ixTI (j := 4) O5 ha5 rfl rfl ?_
        walk_at "x"
        refine mq_of (O5.frz (s05 _ _ hx)) (pF_non (n := "_due_lines") (by decide +kernel)) ?_
        walk_at "x"
        refine ⟨_, pv, T', q.1, F5, _, rfl, O5, up s05 hv, up (R := rTup rInt) (s4.trans s5) hpv, ok, hpl, fun H6 F6 s6 O6 => ?_⟩
        walk_at "x"
        have s06 := s05.trans s6
        refine x_doR2 (n := numS T' a q.1) O6 rfl (by split <;> omega) (fun j2 σ F' m' => ∃ (us3 : List V) (u7 u8 u9 : Option V), σ = [some (.ref x), some av, some (.ref fnd), some pv, some fv, some (.int (if (a.2.2.2.1 : Int) + T'.fap > (dueF T' q.1.1 : Int) then (dueF T' q.1.1 : Int) else (a.2.2.2.1 : Int) + T'.fap)), some (.int ((a.2.2.2.1 + i2 : Nat) : Int)), u7, u8, u9] ∧ m' = (fnd, .lst us3) :: m ∧
          All2 (rPg F') ((((sps.take i).flatMap fun x => pagesP T' a x.1) ++ (List.range i2).flatMap fun i => pgRows T' a q.1 i (numS T' a q.1)) ++ pgRows T' a q.1 i2 j2) us3) ⟨us2, _, _, _, rfl, rfl, by rw [show pgRows T' a q.1 i2 0 = [] from rfl, List.append_nil]; exact all2_up s6 hus2⟩ ?_ ?_
        · rintro j2 σ' H7 F7 m7 hj2 s7 O7 ⟨us3, u7, u8, u9, rfl, rfl, hus3⟩
          have hul3 : us3.length ≤ 55 * i + 11 * i2 + j2 := by
            rw [← hus3.length, List.length_append, hus2.length]
            have := pgRows_len (T := T') (a := a) (p := q.1) (i := i2) (n := j2)
            omega
          have es : (a.2.2.2.2 : Int) + (j2 : Int) = ((a.2.2.2.2 + j2 : Nat) : Int) := by omega
          rw [es]
          have s07 := s06.trans s7
          have s37 := s4.trans (s5.trans (s6.trans s7))
          walk_at "x"
          refine x_newT (R := rInt) (xs := [((a.2.2.2.1 + i2 : Nat) : Int), ((a.2.2.2.2 + j2 : Nat) : Int)]) O7 (by show 2 ≤ _; decide) (All2.ofmap (f := V.int)) (fun tv H8 F8 s8 O8 htv => ?_)
          refine x_catTA O8 (up (R := rTup rInt) (s37.trans s8) hpv) htv (by show 3 + 2 ≤ _; decide) (fun bv H9 F9 s9 O9 hbv => ?_)
          obtain ⟨b, hb⟩ : ∃ b : Sx, b = (q.1.1, q.1.2.1, q.1.2.2, a.2.2.2.1 + i2, a.2.2.2.2 + j2) := ⟨_, rfl⟩
          have hbv : rSt F9 b bv := by
            rw [hb]
            exact hbv
          have hstb : IsSt T' b := by
            rw [hb]
            exact hst.page ok hpl hi2 hj2
          have s79 := s8.trans s9
          have s09 := s07.trans s79
          walk_at "x"
          refine mq_of (O9.frz (s09 _ _ hx)) (pF_non (n := "_best") (by decide +kernel)) ?_
          walk_at "x"
          refine ⟨_, av, bv, fv, T', a, b, q.2, F9, _, rfl, O9, up s09 hv, up (R := rTup rInt) s09 ha, hbv, up (s37.trans s79) hfv, ok, hstb, reps_few ok hrp hst.1 hpl hfo, reps_glue ok hrp hpl, fun r10 H10 F10 s10 O10 hr10 => ?_⟩
          rw [best_is ok hrp hfo hi2 hj2 hb] at hr10
          have hrow : pgRow T' a q.1 i2 j2 = (pageT T' a b).map fun x => (x.1, x.2, b) := by
            rw [hb]
            rfl
          have s710 := s79.trans s10
          walk_at "x"
          cases ep : pageT T' a b with
          | none =>
            rw [ep] at hr10 hrow
            have hr10 : r10 = .non := hr10
            subst hr10
            refine x_iteF rfl ?_
            walk_at "x"
            refine LI.mk (s7.trans s710) O10 ⟨us3, _, _, _, rfl, rfl, ?_⟩
            rw [pgRows_succ, hrow]
            show All2 _ (_ ++ (_ ++ [])) us3
            rw [List.append_nil]
            exact all2_up s710 hus3
          | some y =>
            rw [ep] at hr10 hrow
            have hr10 : rPair rInt (rTup rInt) F10 y r10 := hr10
            obtain ⟨ra, r1, r2, rfl, hra, hr1, hr2⟩ := id hr10
            refine x_iteT rfl ?_
            walk_at "x"
            refine ⟨ty_list O10.at0, ?_⟩
            walk_at "x"
            refine x_fst O10 hr10 (fun c1 hc1 => ?_)
            walk_at "x"
            refine x_snd O10 hr10 (fun c2 hc2 => ?_)
            walk_at "x"
            refine x_newTri (R := rInt) (S := rTup rInt) (T := rSt) (x := y.1) (y := y.2) (z := b) O10 hc1 hc2 (up (R := rTup rInt) s10 hbv) (fun r11 H11 F11 s11 O11 hr11 => ?_)
            walk_at "x"
            refine x_append O11 (by omega) (fun H12 O12 => ?_)
            walk_at "x"
            refine LI.mk (s7.trans (s710.trans s11)) O12 ⟨_, _, _, _, rfl, rfl, ?_⟩
            rw [pgRows_succ, hrow]
            show All2 _ (_ ++ (_ ++ [_])) _
            rw [← List.append_assoc]
            exact (all2_up (s710.trans s11) hus3).snoc hr11
        · rintro σ' H7 F7 m7 s7 O7 ⟨us3, u7, u8, u9, rfl, rfl, hus3⟩
          walk_at "x"
          refine LI.mk (s5.trans (s6.trans s7)) O7 ⟨us3, _, _, _, _, rfl, rfl, ?_⟩
          rw [range_flat_succ, ← List.append_assoc]
          exact hus3
      · rintro σ' H5 F5 m5 s5 O5 ⟨us2, u6, u7, u8, u9, rfl, rfl, hus2⟩
        walk_at "x"
        refine LI.mk (s3.trans (s4.trans s5)) O5 ⟨us2, _, _, _, _, _, _, _, rfl, rfl, ?_⟩
        rw [take_flat_succ hi, pagesP_rows]
        exact hus2
    · rintro σ' H3 F3 m3 s3 O3 ⟨us, u3, u4, u5, u6, u7, u8, u9, rfl, rfl, hus⟩
      rw [List.take_length, ← pages_spots ok hsp] at hus
      walk_at "x"
      have s4 := O3.freeze_same
      exact k (.ref fnd) H3 _ (s2.trans (s3.trans s4)) O3.freeze ⟨fnd, us, rfl, upd_same, all2_up s4 hus⟩
abbrev sSn : Stmt := inClass (top 19) 5
abbrev NSn : List Str := ["self", "state", "cost", "filling", "after"]
theorem scSn : FnScope NSn ["self", "state"] (defScope sSn) := ⟨rfl, rfl, rfl, by decide +kernel, rfl, by decide +kernel, by decide +kernel⟩
theorem ok_Sn {f C f1 : Addr} {fd fd1 : FuncData} (F : Fun K "steps" "PressTask.steps" sSn f fd) (M_PressTask__pages : Met P w K mg base C "_pages" 7 f1 fd1 ["self", "state"] (spPages C)) : FnOk P w K mg base CX0 8 f fd ["self", "state"] (spSteps C) := by
  refine F.ok scSn (fun vs H Q E h => ?_) (fun cdv A outer s H vs Q E hr h => ?_)
  · obtain ⟨v, w, T, a, F, m, rfl, _⟩ := h
    rfl
  · obtain ⟨v, av, T', a, F, m, rfl, O, hm, hv, ha, ok, hst, k⟩ := h
    obtain ⟨x, dx, s1, f1, l1, o1, la1, ma1, rfl, hx, h1, h2, h3, h4, h5, h6⟩ := id hv
    refine ⟨_, 
    (pss_one (ps_ret (pe_lc (own := [("cost", 2), ("filling", 3), ("after", 4)]) (g := (gTup K 3 (gCons (gName 2) (gCons (gName 3) (gCons (gName 4) gNil))))) (tt := tYes) rfl scSn.nd (pi_list (pe_meth (pv 0) M_PressTask__pages.cl M_PressTask__pages.me M_PressTask__pages.ok (hr.mono (by first | decide | omega)) M_PressTask__pages.bi .nil pass0 (pa_cons (pv 1) pa_nil))) (blkOk_by (N := NSn) (sc := defScope sSn) (by decide +kernel)) (fun _ _ _ _ _ => (pg_tup (by rfl) (pgs_cons (pg_name (i := 2) scSn.nd rfl (Or.inl rfl)) (pgs_cons (pg_name (i := 3) scSn.nd rfl (Or.inl rfl)) (pgs_cons (pg_name (i := 4) scSn.nd rfl (Or.inl rfl)) pgs_nil))))) (fun _ _ _ _ _ => pts_nil) (fun _ _ _ _ _ => (pe_tup (pa_cons (pv 2) (pa_cons (pv 4) pa_nil))))))), ?_⟩
    walk_at "x"
    refine mq_of (O.frz hx) (pF_non (n := "_pages") (by decide +kernel)) ?_
    walk_at "x"
    refine ⟨_, av, T', a, F, _, rfl, O, hm, hv, ha, ok, hst, fun r2 H2 F2 s2 O2 hr2 => ?_⟩
    have hpl := pagesT_len ok hst
    refine x_docLO (R := rPg) (S := rPair rInt rSt) O2 hr2 (fun i F' m' ys => m' = m ∧ ys = ((pagesT T' a).take i).map fun x => (x.1, x.2.2)) ⟨rfl, by simp⟩ ?_ ?_
    · rintro D acc i q z H3 F3 m3 ys hi hz s3 O3 hacc hyl ⟨rfl, rfl⟩
      have il := (List.getElem?_eq_some_iff.mp hi).1
      refine x_gtri O3 hz (fun g1 g2 g3 hg1 hg2 hg3 => ?_)
      walk_at "x"
      refine ⟨rfl, ?_⟩
      walk_at "x"
      refine x_iteT rfl ?_
      walk_at "x"
      refine x_newPair (R := rInt) (S := rSt) (x := q.1) (y := q.2.2) O3 hg1 hg3 (fun r4 H4 F4 s4 O4 hr4 => ?_)
      refine x_keep (S := rPair rInt rSt) O4 (s3.trans s4) hr4 (all2_up s4 hacc) hyl (by omega) ⟨rfl, ?_⟩
      rw [List.take_add_one, hi, List.map_append]
      rfl
    · rintro D acc H3 F3 m3 ys s3 O3 hacc ⟨rfl, rfl⟩
      rw [List.take_length, steps_law ok hst] at hacc
      walk_at "x"
      exact k D H3 F3 acc (s2.trans s3) O3 hacc
abbrev sPc : Stmt := inClass (top 19) 6
abbrev NPc : List Str := ["self", "a", "b", "cost", "filling", "after"]
theorem scPc : FnScope NPc ["self", "a", "b"] (defScope sPc) := ⟨rfl, rfl, rfl, by decide +kernel, rfl, by decide +kernel, by decide +kernel⟩
theorem ok_Pc {f C f1 : Addr} {fd fd1 : FuncData} (F : Fun K "page_cost" "PressTask.page_cost" sPc f fd) (M_PressTask__pages : Met P w K mg base C "_pages" 7 f1 fd1 ["self", "state"] (spPages C)) : FnOk P w K mg base CX0 8 f fd ["self", "a", "b"] (spPCost C) := by
  refine F.ok scPc (fun vs H Q E h => ?_) (fun cdv A outer s H vs Q E hr h => ?_)
  · obtain ⟨v, w, z, T, a, b, F, m, rfl, _⟩ := h
    rfl
  · obtain ⟨v, av, bv, T', a, b, F, m, rfl, O, hm, hv, ha, hb, ok, hst, hstb, k⟩ := h
    obtain ⟨x, dx, s1, f1, l1, o1, la1, ma1, rfl, hx, h1, h2, h3, h4, h5, h6⟩ := id hv
    have hu64 := hr.units
    refine ⟨_, 
    (pss_cons (ps_for PassesOwn.never rfl (pi_list (pe_meth (pv 0) M_PressTask__pages.cl M_PressTask__pages.me M_PressTask__pages.ok (hr.mono (by first | decide | omega)) M_PressTask__pages.bi .nil pass0 (pa_cons (pv 1) pa_nil))) (pg_tup (by rfl) (pgs_cons (pg_name (i := 3) scPc.nd rfl (Or.inl rfl)) (pgs_cons (pg_name (i := 4) scPc.nd rfl (Or.inl rfl)) (pgs_cons (pg_name (i := 5) scPc.nd rfl (Or.inl rfl)) pgs_nil)))) 
      (pss_one (ps_if (pt_cmpR (op_eqD hu64) (pv 5) (pv 2) (nomark _)) 
        (pss_one (ps_ret (pv 3))) pss_nil)))
    (pss_one (ps_ret pe_non))), ?_⟩
    walk_at "x"
    refine mq_of (O.frz hx) (pF_non (n := "_pages") (by decide +kernel)) ?_
    walk_at "x"
    refine ⟨_, av, T', a, F, _, rfl, O, hm, hv, ha, ok, hst, fun r2 H2 F2 s2 O2 hr2 => ?_⟩
    refine x_doL O2 hr2 (fun i σ F' m' => ∃ (u3 u4 u5 : Option V), σ = [some (.ref x), some av, some bv, u3, u4, u5] ∧ m' = m ∧ ∀ y ∈ (pagesT T' a).take i, ¬ y.2.2 = b) ⟨_, _, _, rfl, rfl, fun y hy => (nomatch hy)⟩ ?_ ?_
    · rintro i q z σ' H3 F3 m3 hi hz s3 O3 ⟨u3, u4, u5, rfl, rfl, hno⟩
      refine x_gtri O3 hz (fun g1 g2 g3 hg1 hg2 hg3 => ?_)
      have hg1 : g1 = .int q.1 := hg1
      subst hg1
      walk_at "x"
      refine x_eqD (R := rTup rInt) O3 hg3 (up (R := rTup rInt) (s2.trans s3) hb) ?_
      rw [dec_iff stL_inj]
      walk_at "x"
      refine x_iteD (fun he => ?_) (fun he => ?_)
      · walk_at "x"
        have e := pagesT_mem (List.mem_of_getElem? hi)
        rw [he] at e
        rw [e] at k
        exact k H3 F3 (s2.trans s3) O3
      · walk_at "x"
        refine LI.mk s3 O3 ⟨_, _, _, rfl, rfl, fun y hy => ?_⟩
        rw [List.take_add_one, hi] at hy
        rcases List.mem_append.mp hy with hy | hy
        · exact hno y hy
        · rw [List.mem_singleton.mp hy]
          exact he
    · rintro σ' H3 F3 m3 s3 O3 ⟨u3, u4, u5, rfl, rfl, hno⟩
      rw [List.take_length] at hno
      rw [pages_none ok hst hstb hno] at k
      walk_at "x"
      exact k H3 F3 (s2.trans s3) O3
abbrev sFl : Stmt := inClass (top 19) 7
abbrev NFl : List Str := ["self", "a", "b", "cost", "filling", "after"]
theorem scFl : FnScope NFl ["self", "a", "b"] (defScope sFl) := ⟨rfl, rfl, rfl, by decide +kernel, rfl, by decide +kernel, by decide +kernel⟩
theorem ok_Fl {f C f1 : Addr} {fd fd1 : FuncData} (F : Fun K "filling" "PressTask.filling" sFl f fd) (M_PressTask__pages : Met P w K mg base C "_pages" 7 f1 fd1 ["self", "state"] (spPages C)) : FnOk P w K mg base CX0 8 f fd ["self", "a", "b"] (spPFill C) := by
  refine F.ok scFl (fun vs H Q E h => ?_) (fun cdv A outer s H vs Q E hr h => ?_)
  · obtain ⟨v, w, z, T, a, b, F, m, rfl, _⟩ := h
    rfl
  · obtain ⟨v, av, bv, T', a, b, F, m, rfl, O, hm, hv, ha, hb, ok, hst, hstb, k⟩ := h
    obtain ⟨x, dx, s1, f1, l1, o1, la1, ma1, rfl, hx, h1, h2, h3, h4, h5, h6⟩ := id hv
    have hu64 := hr.units
    refine ⟨_, 
    (pss_cons (ps_for PassesOwn.never rfl (pi_list (pe_meth (pv 0) M_PressTask__pages.cl M_PressTask__pages.me M_PressTask__pages.ok (hr.mono (by first | decide | omega)) M_PressTask__pages.bi .nil pass0 (pa_cons (pv 1) pa_nil))) (pg_tup (by rfl) (pgs_cons (pg_name (i := 3) scFl.nd rfl (Or.inl rfl)) (pgs_cons (pg_name (i := 4) scFl.nd rfl (Or.inl rfl)) (pgs_cons (pg_name (i := 5) scFl.nd rfl (Or.inl rfl)) pgs_nil)))) 
      (pss_one (ps_if (pt_cmpR (op_eqD hu64) (pv 5) (pv 2) (nomark _)) 
        (pss_one (ps_ret (pv 4))) pss_nil)))
    (pss_one (ps_ret pe_non))), ?_⟩
    walk_at "x"
    refine mq_of (O.frz hx) (pF_non (n := "_pages") (by decide +kernel)) ?_
    walk_at "x"
    refine ⟨_, av, T', a, F, _, rfl, O, hm, hv, ha, ok, hst, fun r2 H2 F2 s2 O2 hr2 => ?_⟩
    refine x_doL O2 hr2 (fun i σ F' m' => ∃ (u3 u4 u5 : Option V), σ = [some (.ref x), some av, some bv, u3, u4, u5] ∧ m' = m ∧ ∀ y ∈ (pagesT T' a).take i, ¬ y.2.2 = b) ⟨_, _, _, rfl, rfl, fun y hy => (nomatch hy)⟩ ?_ ?_
    · rintro i q z σ' H3 F3 m3 hi hz s3 O3 ⟨u3, u4, u5, rfl, rfl, hno⟩
      refine x_gtri O3 hz (fun g1 g2 g3 hg1 hg2 hg3 => ?_)
      walk_at "x"
      refine x_eqD (R := rTup rInt) O3 hg3 (up (R := rTup rInt) (s2.trans s3) hb) ?_
      rw [dec_iff stL_inj]
      walk_at "x"
      refine x_iteD (fun he => ?_) (fun he => ?_)
      · walk_at "x"
        have e := pagesT_mem (List.mem_of_getElem? hi)
        rw [he] at e
        rw [e] at k
        exact k g2 H3 F3 (s2.trans s3) O3 hg2
      · walk_at "x"
        refine LI.mk s3 O3 ⟨_, _, _, rfl, rfl, fun y hy => ?_⟩
        rw [List.take_add_one, hi] at hy
        rcases List.mem_append.mp hy with hy | hy
        · exact hno y hy
        · rw [List.mem_singleton.mp hy]
          exact he
    · rintro σ' H3 F3 m3 s3 O3 ⟨u3, u4, u5, rfl, rfl, hno⟩
      rw [List.take_length] at hno
      rw [pages_none ok hst hstb hno] at k
      walk_at "x"
      exact k .non H3 F3 (s2.trans s3) O3 rfl
end
end Tf
namespace Tf
open PySem PySem.Spec PyProof.Rows L2
theorem putF_new {k : Str} {v : V} : ∀ {fs : List (Str × V)} (ks : List Str), fs.map (·.1) = ks → ks.contains k = false → putF k v fs = fs ++ [(k, v)]
  | [], _, _, _ => rfl
  | (k', x) :: fs, [], h, _ => by cases h
  | (k', x) :: fs, k2 :: ks, h, hc => by
    rw [List.map_cons, List.cons.injEq] at h
    rw [List.contains_cons, Bool.or_eq_false_iff] at hc
    obtain ⟨h1, h2⟩ := h
    have h1 : k' = k2 := h1
    subst h1
    show (if k' = k then _ else _) = _
    rw [if_neg (fun e => by
      rw [e, beq_self_eq_true] at hc
      cases hc.1), putF_new ks h2 hc.2]
    rfl
theorem pP_1 {s : V} : putF "strands" (s) ([] : List (Str × V)) = ([("strands", s)] : List (Str × V)) := putF_new ([] : List Str) rfl (by decide +kernel)
theorem pP_2 {s f : V} : putF "floats" (f) ([("strands", s)] : List (Str × V)) = ([("strands", s), ("floats", f)] : List (Str × V)) := putF_new (["strands"] : List Str) rfl (by decide +kernel)
theorem pP_3 {s f l : V} : putF "lines" (l) ([("strands", s), ("floats", f)] : List (Str × V)) = ([("strands", s), ("floats", f), ("lines", l)] : List (Str × V)) := putF_new (["strands", "floats"] : List Str) rfl (by decide +kernel)
theorem pP_4 {s f l : V} {h : Int} : putF "height" (.int h) ([("strands", s), ("floats", f), ("lines", l)] : List (Str × V)) = ([("strands", s), ("floats", f), ("lines", l), ("height", .int h)] : List (Str × V)) := putF_new (["strands", "floats", "lines"] : List Str) rfl (by decide +kernel)
theorem pP_5 {s f l : V} {h p : Int} : putF "floats_a_page" (.int p) ([("strands", s), ("floats", f), ("lines", l), ("height", .int h)] : List (Str × V)) = ([("strands", s), ("floats", f), ("lines", l), ("height", .int h), ("floats_a_page", .int p)] : List (Str × V)) := putF_new (["strands", "floats", "lines", "height"] : List Str) rfl (by decide +kernel)
theorem pP_6 {s f l : V} {h p r : Int} : putF "rule" (.int r) ([("strands", s), ("floats", f), ("lines", l), ("height", .int h), ("floats_a_page", .int p)] : List (Str × V)) = ([("strands", s), ("floats", f), ("lines", l), ("height", .int h), ("floats_a_page", .int p), ("rule", .int r)] : List (Str × V)) := putF_new (["strands", "floats", "lines", "height", "floats_a_page"] : List Str) rfl (by decide +kernel)
theorem pP_7 {s f l : V} {h p r g : Int} : putF "float_gap" (.int g) ([("strands", s), ("floats", f), ("lines", l), ("height", .int h), ("floats_a_page", .int p), ("rule", .int r)] : List (Str × V)) = ([("strands", s), ("floats", f), ("lines", l), ("height", .int h), ("floats_a_page", .int p), ("rule", .int r), ("float_gap", .int g)] : List (Str × V)) := putF_new (["strands", "floats", "lines", "height", "floats_a_page", "rule"] : List Str) rfl (by decide +kernel)
theorem pP_8 {s f l o : V} {h p r g : Int} : putF "_opened" (o) ([("strands", s), ("floats", f), ("lines", l), ("height", .int h), ("floats_a_page", .int p), ("rule", .int r), ("float_gap", .int g)] : List (Str × V)) = ([("strands", s), ("floats", f), ("lines", l), ("height", .int h), ("floats_a_page", .int p), ("rule", .int r), ("float_gap", .int g), ("_opened", o)] : List (Str × V)) := putF_new (["strands", "floats", "lines", "height", "floats_a_page", "rule", "float_gap"] : List Str) rfl (by decide +kernel)
theorem pP_9 {s f l o la : V} {h p r g : Int} : putF "_lines_ahead" (la) ([("strands", s), ("floats", f), ("lines", l), ("height", .int h), ("floats_a_page", .int p), ("rule", .int r), ("float_gap", .int g), ("_opened", o)] : List (Str × V)) = ([("strands", s), ("floats", f), ("lines", l), ("height", .int h), ("floats_a_page", .int p), ("rule", .int r), ("float_gap", .int g), ("_opened", o), ("_lines_ahead", la)] : List (Str × V)) := putF_new (["strands", "floats", "lines", "height", "floats_a_page", "rule", "float_gap", "_opened"] : List Str) rfl (by decide +kernel)
theorem pP_10 {s f l o la ma : V} {h p r g : Int} : putF "_most_ahead" (ma) ([("strands", s), ("floats", f), ("lines", l), ("height", .int h), ("floats_a_page", .int p), ("rule", .int r), ("float_gap", .int g), ("_opened", o), ("_lines_ahead", la)] : List (Str × V)) = ([("strands", s), ("floats", f), ("lines", l), ("height", .int h), ("floats_a_page", .int p), ("rule", .int r), ("float_gap", .int g), ("_opened", o), ("_lines_ahead", la), ("_most_ahead", ma)] : List (Str × V)) := putF_new (["strands", "floats", "lines", "height", "floats_a_page", "rule", "float_gap", "_opened", "_lines_ahead"] : List Str) rfl (by decide +kernel)
theorem mostOf_last {s : StrT} {v : VarT} (h : s[s.length - 1]? = some v) : mostOf s = (v.2.1.length : Int) := by
  unfold mostOf
  rw [h]
  rfl
theorem notesOf_first {s : StrT} {v : VarT} (h : s[0]? = some v) : notesOf s = v.2.2.sum := by
  unfold notesOf
  rw [h]
  rfl
theorem all2_get {α : Type} {R : α → V → Prop} : ∀ {xs : List α} {vs : List V} {i : Nat} {w : V}, All2 R xs vs → vs[i]? = some w → ∃ x, xs[i]? = some x ∧ R x w
  | _, _, _, _, .nil, h => by cases h
  | x :: xs, v :: vs, 0, w, .cons r _, h => by
    cases h
    exact ⟨x, rfl, r⟩
  | x :: xs, v :: vs, i + 1, w, .cons _ r, h => all2_get (xs := xs) (vs := vs) (i := i) r h
section
variable {P : Program} {w : World} {K : PySem.W.Frag} {mg : Str → Option Value} {base : Heap}
abbrev sPI : Stmt := inClass (top 19) 0
abbrev NPI : List Str := ["self", "strands", "floats", "lines", "height", "floats_a_page", "rule", "float_gap", "strand", "line"]
theorem scPI : FnScope NPI ["self", "strands", "floats", "lines", "height", "floats_a_page", "rule", "float_gap"] (defScope sPI) := ⟨rfl, rfl, rfl, by decide +kernel, rfl, by decide +kernel, by decide +kernel⟩
theorem ok_PI {f C f1 : Addr} {fd fd1 : FuncData} (F : Fun K "__init__" "PressTask.__init__" sPI f fd) (T : Bi mg) (L : PCls K C) (C_running_counts : Cal P w K mg base "running_counts" 1 f1 fd1 ["flags"] spCounts) :
    FnOk P w K mg base CX0 2 f fd ["self", "strands", "floats", "lines", "height", "floats_a_page", "rule", "float_gap"] (spPInit C) := by
  refine F.ok scPI (fun vs H Q E h => ?_) (fun cdv A outer s H vs Q E hr h => ?_)
  · obtain ⟨x, dx, sa, fa, la, T, F, m, rfl, _⟩ := h
    rfl
  · obtain ⟨x, dx, sa, fa, la, T', F, m, rfl, O, gv, ok, k⟩ := h
    obtain ⟨svs, hsv, hss⟩ := gv.s
    obtain ⟨fvs, hfv, hff⟩ := gv.f
    obtain ⟨lvs, hlv, hll⟩ := gv.l
    have hmany := ok.many
    refine ⟨_, 
    (pss_cons (ps_fld (pv 0) (pe_callTy (T := "tuple") (r := rTupOf K) cr_tup (by rfl) T.b_tuple (by decide +kernel) (pa_cons (pe_lc (own := [("strand", 8)]) (g := (gName 8)) (tt := tYes) rfl scPI.nd (pi_seq (pv 1)) (blkOk_by (N := NPI) (sc := defScope sPI) (by decide +kernel)) (fun _ _ _ _ _ => (pg_name (i := 8) scPI.nd rfl (by first | exact Or.inl rfl | exact Or.inr rfl))) (fun _ _ _ _ _ => pts_nil) (fun _ _ _ _ _ => (pe_callTy (T := "tuple") (r := rTupOf K) cr_tup (by rfl) T.b_tuple (by decide +kernel) (pa_cons (pv 8) pa_nil)))) pa_nil)) rfl)
    (pss_cons (ps_fld (pv 0) (pe_callTy (T := "tuple") (r := rTupOf K) cr_tup (by rfl) T.b_tuple (by decide +kernel) (pa_cons (pv 2) pa_nil)) rfl)
    (pss_cons (ps_fld (pv 0) (pe_callTy (T := "tuple") (r := rTupOf K) cr_tup (by rfl) T.b_tuple (by decide +kernel) (pa_cons (pv 3) pa_nil)) rfl)
    (pss_cons (ps_fld (pv 0) (pv 4) rfl)
    (pss_cons (ps_fld (pv 0) (pv 5) rfl)
    (pss_cons (ps_fld (pv 0) (pv 6) rfl)
    (pss_cons (ps_fld (pv 0) (pv 7) rfl)
    (pss_cons (ps_fld (pv 0) (pe_call C_running_counts.ok (hr.mono (by first | decide | omega)) rfl C_running_counts.mg C_running_counts.kp C_running_counts.bi .nil pass0 (pa_cons (pe_lc (own := [("line", 9)]) (g := (gName 9)) (tt := tYes) rfl scPI.nd (pi_tup (pe_fld (pv 0) rfl)) (blkOk_by (N := NPI) (sc := defScope sPI) (by decide +kernel)) (fun _ _ _ _ _ => (pg_name (i := 9) scPI.nd rfl (by first | exact Or.inl rfl | exact Or.inr rfl))) (fun _ _ _ _ _ => pts_nil) (fun _ _ _ _ _ => (pe_ix (r := rIxT K) ix_tup (pv 9) pe_int (fun _ _ => rfl)))) pa_nil)) rfl)
    (pss_cons (ps_fld (pv 0) (pe_lst (pa_cons pe_int pa_nil)) rfl)
    (pss_cons (ps_fld (pv 0) (pe_lst (pa_cons pe_int pa_nil)) rfl)
    (pss_one (ps_for PassesOwn.never rfl (pi_tup (pe_fld (pv 0) rfl)) (pg_name (i := 8) scPI.nd rfl (Or.inl rfl)) 
      (pss_cons (ps_expr (pe_bm PySem.F.plainAttrs_list PySem.F.slot_list_append PySem.F.type_list_append mt_append (pe_fld (pv 0) rfl) (pa_cons (pe_op op_add (pe_ix (r := rIxL K) ix_list (pe_fld (pv 0) rfl) (pe_un un_neg pe_int) (fun _ _ => rfl)) (pe_callB (Tf.cr_sumT rfl) (by rfl) T.b_sum (by decide +kernel) (pa_cons (pe_ix (r := rIxT K) ix_tup (pe_ix (r := rIxT K) ix_tup (pv 8) pe_int (fun _ _ => rfl)) pe_int (fun _ _ => rfl)) pa_nil))) pa_nil)))
      (pss_one (ps_expr (pe_bm PySem.F.plainAttrs_list PySem.F.slot_list_append PySem.F.type_list_append mt_append (pe_fld (pv 0) rfl) (pa_cons (pe_op op_add (pe_ix (r := rIxL K) ix_list (pe_fld (pv 0) rfl) (pe_un un_neg pe_int) (fun _ _ => rfl)) (pe_callB (id := "len") (r := rLen K) cr_len (by rfl) T.b_len (by decide +kernel) (pa_cons (pe_ix (r := rIxT K) ix_tup (pe_ix (r := rIxT K) ix_tup (pv 8) (pe_un un_neg pe_int) (fun _ _ => rfl)) pe_int (fun _ _ => rfl)) pa_nil))) pa_nil))))))))))))))))), ?_⟩
    walk_at "x"
    refine x_docSM (S := rStrand) O (hsv.up (Same.refl _) fun c hc => List.mem_cons_of_mem _ hc) (fun i F' m' ys => m' = (x, .ins C dx []) :: m ∧ ys = T'.strands.take i) ⟨rfl, by rw [List.take_zero]⟩ (fun i F' m' ys h c hc => by rw [h.1]; exact hc) ?_ ?_
    · rintro D acc i z H1 F1 m1 ys hi s1 O1 hacc hyl ⟨rfl, rfl⟩
      obtain ⟨st, hst, b, ws, rfl, hb, hbs⟩ := all2_get hss hi
      have il := (List.getElem?_eq_some_iff.mp hst).1
      walk_at "x"
      refine ⟨rfl, ?_⟩
      walk_at "x"
      refine x_iteT rfl ?_
      walk_at "x"
      refine x_tupM O1 (hb.up s1 fun c hc => List.mem_cons_of_mem _ (List.mem_cons_of_mem _ hc)) (fun t H2 F2 s2 O2 ht => ?_)
      refine x_keep (S := rStrand) O2 (s1.trans s2) ⟨t, ws, rfl, ht, all2_up (s1.trans s2) hbs⟩ (all2_up s2 hacc) hyl (by omega) ⟨rfl, ?_⟩
      rw [List.take_add_one, hst]
      rfl
    · rintro bv H1 F1 m1 ys s1 O1 hbv ⟨rfl, rfl⟩
      rw [← hss.length, List.take_length] at hbv
      walk_at "x"
      refine x_tupL O1 hbv (fun sv H2 F2 s2 O2 hsv2 => ?_)
      walk_at "x"
      refine x_setF O2 L.cl L.n1 (by show 0 < 1000; decide) (fun H3 O3 => ?_)
      rw [pP_1] at O3
      have s02 := s1.trans s2
      walk_at "x"
      refine x_tupM O3 (hfv.up s02 fun c hc => List.mem_cons_of_mem _ hc) (fun ft H4 F4 s4 O4 hft => ?_)
      walk_at "x"
      refine x_setF O4 L.cl L.n2 (by show 1 < 1000; decide) (fun H5 O5 => ?_)
      rw [pP_2] at O5
      have s04 := s02.trans s4
      walk_at "x"
      refine x_tupM O5 (hlv.up s04 fun c hc => List.mem_cons_of_mem _ hc) (fun lt H6 F6 s6 O6 hlt => ?_)
      walk_at "x"
      refine x_setF O6 L.cl L.n3 (by show 2 < 1000; decide) (fun H7 O7 => ?_)
      rw [pP_3] at O7
      have s06 := s04.trans s6
      walk_at "x"
      refine x_setF O7 L.cl L.n4 (by show 3 < 1000; decide) (fun H8 O8 => ?_)
      rw [pP_4] at O8
      walk_at "x"
      refine x_setF O8 L.cl L.n5 (by show 4 < 1000; decide) (fun H9 O9 => ?_)
      rw [pP_5] at O9
      walk_at "x"
      refine x_setF O9 L.cl L.n6 (by show 5 < 1000; decide) (fun H10 O10 => ?_)
      rw [pP_6] at O10
      walk_at "x"
      refine x_setF O10 L.cl L.n7 (by show 6 < 1000; decide) (fun H11 O11 => ?_)
      rw [pP_7] at O11
      have hS : rStrands F6 T'.strands sv := up (R := rStrands) (s4.trans s6) hsv2
      have hFl : rFloats F6 T'.floats (.ref ft) := ⟨ft, fvs, rfl, s6 _ _ hft, all2_up s06 hff⟩
      have hLi : rLines F6 T'.lines (.ref lt) := ⟨lt, lvs, rfl, hlt, all2_up s06 hll⟩
      have e3 : ([("strands", sv), ("floats", .ref ft), ("lines", .ref lt), ("height", .int T'.tall), ("floats_a_page", .int T'.fap), ("rule", .int T'.rule), ("float_gap", .int T'.fgap)] : List (Str × V)).lookup ("lines" : Str) = some (.ref lt) := (lk_ne (by decide +kernel)).trans ((lk_ne (by decide +kernel)).trans lk_eq)
      walk_at "x"
      refine x_fldO O11.at0 L.cl L.n3 e3 ?_
      refine x_docT (R := rPair rInt rBool) (S := rBool) O11 hLi (fun i F' m' ys => m' = (x, .ins C dx [("strands", sv), ("floats", .ref ft), ("lines", .ref lt), ("height", .int T'.tall), ("floats_a_page", .int T'.fap), ("rule", .int T'.rule), ("float_gap", .int T'.fgap)]) :: m ∧ ys = (T'.lines.take i).map (·.2)) ⟨rfl, by simp⟩ ?_ ?_
      · rintro D acc i q z H12 F12 m12 ys hi hz s12 O12 hacc hyl ⟨rfl, rfl⟩
        have il := (List.getElem?_eq_some_iff.mp hi).1
        have hfl := ok.fewL
        walk_at "x"
        refine ⟨rfl, ?_⟩
        walk_at "x"
        refine x_iteT rfl ?_
        walk_at "x"
        refine x_snd O12 hz (fun u hu => ?_)
        refine x_keep (S := rBool) O12 s12 hu hacc hyl (by omega) ⟨rfl, ?_⟩
        rw [List.take_add_one, hi, List.map_append]
        rfl
      · rintro bv2 H12 F12 m12 ys s12 O12 hbv2 ⟨rfl, rfl⟩
        rw [List.take_length] at hbv2
        walk_at "x"
        have hfl := ok.fewL
        refine ⟨bv2, _, F12, _, rfl, O12, hbv2, by rw [List.length_map]; omega, fun ov H13 F13 s13 O13 hov => ?_⟩
        walk_at "x"
        refine x_setF O13 L.cl L.n8 (by show 7 < 1000; decide) (fun H14 O14 => ?_)
        rw [pP_8] at O14
        walk_at "x"
        refine x_ownL (vs := [.int 0]) O14 (by show 1 ≤ _; decide) (fun c1 H15 hn15 O15 => ?_)
        walk_at "x"
        refine x_setF O15.swap L.cl L.n9 (by show 8 < 1000; decide) (fun H16 O16 => ?_)
        rw [pP_9] at O16
        walk_at "x"
        refine x_ownL (vs := [.int 0]) O16 (by show 1 ≤ _; decide) (fun c2 H17 hn17 O17 => ?_)
        walk_at "x"
        refine x_setF O17.swap L.cl L.n10 (by show 9 < 1000; decide) (fun H18 O18 => ?_)
        rw [pP_10] at O18
        have s613 := s12.trans s13
        have hS13 := up (R := rStrands) s613 hS
        walk_at "x"
        refine x_fldO O18.at0 L.cl L.n1 pF_1 ?_
        refine x_doT (R := rStrand) O18 hS13 (fun i σ F' m' => ∃ u, σ = [some (.ref x), some (.ref sa), some (.ref fa), some (.ref la), some (.int T'.tall), some (.int T'.fap), some (.int T'.rule), some (.int T'.fgap), u, none] ∧ m' = (x, .ins C dx (pF sv (.ref ft) (.ref lt) T'.tall T'.fap T'.rule T'.fgap ov (.ref c1) (.ref c2))) :: (c2, .lst ((upTo T' mostL i).map V.int)) :: (c1, .lst ((upTo T' aheadL i).map V.int)) :: m) ⟨_, rfl, rfl⟩ ?_ ?_
        · rintro i st z σ' H19 F19 m19 hi hz s19 O19 ⟨u, rfl, rfl⟩
          have il := (List.getElem?_eq_some_iff.mp hi).1
          have hst : strand T' i = st := by
            unfold strand
            rw [hi]
            rfl
          have S := ok.strands st (List.mem_of_getElem? hi)
          obtain ⟨v0, hv0⟩ : ∃ v0, st[0]? = some v0 := ⟨_, List.getElem?_eq_getElem (List.length_pos_iff.mpr S.ne)⟩
          obtain ⟨v1, hv1⟩ : ∃ v1, st[st.length - 1]? = some v1 := ⟨_, List.getElem?_eq_getElem (by have := List.length_pos_iff.mpr S.ne; omega)⟩
          have lenU : ∀ f : Told → Nat → Int, ((upTo T' f i).map V.int).length = i + 1 := fun f => by
            unfold upTo
            rw [List.length_map, List.length_map, List.length_range]
          have lastU : ∀ f : Told → Nat → Int, ((upTo T' f i).map V.int)[((upTo T' f i).map V.int).length - 1]? = some (.int (f T' i)) := fun f => by
            rw [lenU, List.getElem?_map, Nat.add_sub_cancel, upTo_get (Nat.le_refl _)]
            rfl
          walk_at "x"
          refine x_fldO O19.at0 L.cl L.n9 pF_9 ?_
          walk_at "x"
          have O20 : Own H19 F19 ((c1, .lst ((upTo T' aheadL i).map V.int)) :: (x, .ins C dx (pF sv (.ref ft) (.ref lt) T'.tall T'.fap T'.rule T'.fgap ov (.ref c1) (.ref c2))) :: (c2, .lst ((upTo T' mostL i).map V.int)) :: m) := O19.perm ((List.Perm.cons _ (List.Perm.swap _ _ _)).trans (List.Perm.swap _ _ _))
          refine ⟨ty_list O20.at0, ?_⟩
          walk_at "x"
          refine x_fldO O19.at0 L.cl L.n9 pF_9 ?_
          walk_at "x"
          refine x_lastO O20 (lastU aheadL) ?_
          walk_at "x"
          refine x_ixT (R := rVari) (j := 0) O20 hz rfl hv0 (fun w0 hw0 => ?_)
          walk_at "x"
          refine x_tri2 O20 hw0 (fun w2 hw2 => ?_)
          walk_at "x"
          refine x_sumTp O20 hw2 ?_
          walk_at "x"
          refine x_append O20 (by rw [lenU]; omega) (fun H21 O21 => ?_)
          walk_at "x"
          have O22 : Own H21 F19 ((c2, .lst ((upTo T' mostL i).map V.int)) :: (x, .ins C dx (pF sv (.ref ft) (.ref lt) T'.tall T'.fap T'.rule T'.fgap ov (.ref c1) (.ref c2))) :: (c1, .lst ((upTo T' aheadL i).map V.int ++ [.int (aheadL T' i + v0.2.2.sum)])) :: m) := O21.perm ((List.Perm.swap _ _ _).trans ((List.Perm.cons _ (List.Perm.swap _ _ _)).trans (List.Perm.swap _ _ _)))
          refine x_fldO O22.swap.at0 L.cl L.n10 pF_10 ?_
          walk_at "x"
          refine ⟨ty_list O22.at0, ?_⟩
          walk_at "x"
          refine x_fldO O22.swap.at0 L.cl L.n10 pF_10 ?_
          walk_at "x"
          refine x_lastO O22 (lastU mostL) ?_
          walk_at "x"
          refine x_lastT (R := rVari) O22 hz hv1 (fun w1 hw1 => ?_)
          walk_at "x"
          refine x_tri1 O22 hw1 (fun w2 hw2 => ?_)
          walk_at "x"
          refine x_lenT O22 hw2 ?_
          walk_at "x"
          refine x_append O22 (by rw [lenU]; omega) (fun H23 O23 => ?_)
          walk_at "x"
          refine LI.mk s19 O23.swap ⟨_, rfl, ?_⟩
          rw [upTo_succ, upTo_succ, mostL_succ il, aheadL_succ il, hst, mostOf_last hv1, notesOf_first hv0, List.map_append, List.map_append]
          rfl
        · rintro σ' H19 F19 m19 s19 O19 ⟨u, rfl, rfl⟩
          walk_at "x"
          have O20 := O19.swap
          have s20 := O20.freeze_same
          have O21 := O20.freeze.swap
          have hc2 : rList rInt (upd F19 c2 (.lst ((upTo T' mostL T'.strands.length).map V.int))) (upTo T' mostL T'.strands.length) (.ref c2) := ⟨c2, _, rfl, upd_same, All2.ofmap (f := V.int)⟩
          generalize upd F19 c2 (.lst ((upTo T' mostL T'.strands.length).map V.int)) = F20 at O21 s20 hc2
          have s21 := O21.freeze_same
          have O22 := O21.freeze
          have hc1 : rList rInt (upd F20 c1 (.lst ((upTo T' aheadL T'.strands.length).map V.int))) (upTo T' aheadL T'.strands.length) (.ref c1) := ⟨c1, _, rfl, upd_same, All2.ofmap (f := V.int)⟩
          have s1321 := s19.trans (s20.trans s21)
          have s621 := s613.trans s1321
          exact k H19 _ sv (.ref ft) (.ref lt) ov (.ref c1) (.ref c2) (s06.trans s621) O22 (up (R := rStrands) s621 hS) (up s621 hFl) (up s621 hLi) (up s1321 hov) hc1 (up s21 hc2)
end
end Tf
namespace Tf
open PySem PySem.Spec PyProof.Rows L2
theorem sum_rep : ∀ {n : Nat}, (List.replicate n (0 : Int)).sum = ((0 : Nat) : Int)
  | 0 => rfl
  | n + 1 => by
    rw [List.replicate_succ, List.sum_cons, sum_rep]
    rfl
section
variable {P : Program} {w : World} {K : PySem.W.Frag} {mg : Str → Option Value} {base : Heap}
abbrev sCu : Stmt := top 28
abbrev NCu : List Str := ["pool", "many", "parts", "row", "k", "at"]
theorem scCu : FnScope NCu ["pool", "many", "parts"] (defScope sCu) := ⟨rfl, rfl, rfl, by decide +kernel, rfl, by decide +kernel, by decide +kernel⟩
theorem ok_Cu {f f1 : Addr} {fd fd1 : FuncData} (F : Fun K "_law_cut" "_law_cut" sCu f fd) (T : Bi mg) (C__law_draw : Cal P w K mg base "_law_draw" 1 f1 fd1 ["pool", "many"] spDraw) : FnOk P w K mg base CX0 2 f fd ["pool", "many", "parts"] spCut := by
  refine F.ok scCu (fun vs H Q E h => ?_) (fun cdv A outer s H vs Q E hr h => ?_)
  · obtain ⟨p, o, many, parts, F, m, rfl, _⟩ := h
    rfl
  · obtain ⟨p, o, many, parts, F, m, rfl, O, hp, hp0, hp1, hm, k⟩ := h
    refine ⟨_, 
    (pss_cons (ps_set (i := 3) scCu.nd rfl (Or.inl rfl) (pe_op op_rep (pe_lst (pa_cons pe_int pa_nil)) (pv 2)))
    (pss_cons (ps_for PassesOwn.never rfl (pi_range1 (by rfl) T.b_range (pa_cons (pv 1) pa_nil)) (pg_name (i := 4) scCu.nd rfl (Or.inl rfl)) 
      (pss_cons (ps_set (i := 5) scCu.nd rfl (Or.inl rfl) (pe_call C__law_draw.ok (hr.mono (by first | decide | omega)) rfl C__law_draw.mg C__law_draw.kp C__law_draw.bi .nil pass0 (pa_cons (pv 0) (pa_cons (pv 2) pa_nil))))
      (pss_one (ps_asg (pe_op op_add (pe_ix (r := rIxL K) ix_list (pv 3) (pv 5) (fun _ _ => rfl)) pe_int) (pg_sub (pv 3) (pv 5) set_list)))))
    (pss_one (ps_ret (pe_callTy (T := "tuple") (r := rTupOf K) cr_tup (by rfl) T.b_tuple (by decide +kernel) (pa_cons (pv 3) pa_nil)))))), ?_⟩
    walk_at "x"
    refine x_newL (R := rInt) (xs := [0]) O (by show 1 ≤ _; decide) (.cons rfl .nil) (fun v1 H1 F1 s1 O1 hv1 => ?_)
    walk_at "x"
    refine x_rep1 (R := rInt) (n := parts) O1 hv1 rfl (by omega) (fun rw H2 F2 vs hn2 s2 O2 hvs => ?_)
    have e := ints_of hvs
    subst e
    walk_at "x"
    refine x_doR1 (n := many) O2 rfl (by omega) (by omega) (fun i σ F' m' => ∃ (ns : List Int) (o' : HO) (u4 u5 : Option V), σ = [some (.ref p), some (.int (many : Int)), some (.int (parts : Int)), some (.ref rw), u4, u5] ∧ m' = (rw, .lst (ns.map V.int)) :: (p, o') :: m ∧ PoolOk F' o' ∧ ns.length = parts ∧ (∀ x ∈ ns, 0 ≤ x) ∧ ns.sum = (i : Int))
      ⟨List.replicate parts 0, o, _, _, rfl, rfl, hp.up (s1.trans s2), by rw [List.length_replicate], fun x hx => by rw [(List.mem_replicate.mp hx).2]; exact Int.le_refl _, sum_rep⟩ ?_ ?_
    · rintro i σ' H3 F3 m3 hi s3 O3 ⟨ns, o3, u4, u5, rfl, rfl, hp3, hl, hn, hs⟩
      walk_at "x"
      refine ⟨p, o3, _, F3, _, rfl, O3.swap, hp3, by omega, by omega, fun r H4 o4 r0 r1 O4 hp4 => ?_⟩
      walk_at "x"
      obtain ⟨j, hj⟩ : ∃ j : Nat, r = (j : Int) := ⟨r.toNat, by omega⟩
      have hjl : j < ns.length := by omega
      obtain ⟨y, hy⟩ : ∃ y, ns[j]? = some y := ⟨_, List.getElem?_eq_getElem hjl⟩
      refine x_ixO (j := j) O4.swap hj (by rw [List.getElem?_map, hy]; rfl) ?_
      walk_at "x"
      refine x_setL (j := j) O4.swap hj (by rw [List.length_map]; exact hjl) (fun O5 => ?_)
      walk_at "x"
      refine LI.mk s3 O5 ⟨ns.set j (y + 1), o4, _, _, rfl, ?_, hp4, by rw [List.length_set]; exact hl, fun x hx => ?_, ?_⟩
      · rw [List.map_set]
      · rcases List.mem_or_eq_of_mem_set hx with hx | rfl
        · exact hn x hx
        · have := hn y (List.mem_of_getElem? hy)
          omega
      · rw [sum_set hy, hs]
        omega
    · rintro σ' H3 F3 m3 s3 O3 ⟨ns, o3, u4, u5, rfl, rfl, hp3, hl, hn, hs⟩
      walk_at "x"
      refine x_tupM (us := ns.map V.int) O3 (.inr (.inr List.mem_cons_self)) (fun t H4 F4 s4 O4 ht => ?_)
      exact k (.ref t) H4 F4 o3 ns (s1.trans (s2.trans (s3.trans s4))) O4.tail (hp3.up s4) ⟨t, _, rfl, ht, All2.ofmap (f := V.int)⟩ hl hn hs
abbrev sSt : Stmt := top 29
abbrev NSt : List Str := ["pool", "tall", "many", "alike", "first", "size", "found", "k", "units", "n", "natural", "gap", "cost", "row"]
theorem scSt : FnScope NSt ["pool", "tall", "many", "alike"] (defScope sSt) := ⟨rfl, rfl, rfl, by decide +kernel, rfl, by decide +kernel, by decide +kernel⟩
theorem ok_St {f f1 f2 f3 f4 : Addr} {fd fd1 fd2 fd3 fd4 : FuncData} (F : Fun K "_law_strand" "_law_strand" sSt f fd) (T : Bi mg) (C__law_draw : Cal P w K mg base "_law_draw" 1 f1 fd1 ["pool", "many"] spDraw) (C__law_pick : Cal P w K mg base "_law_pick" 2 f2 fd2 ["pool", "row"] spPick)
    (C__law_rare : Cal P w K mg base "_law_rare" 2 f3 fd3 ["pool", "many"] spRare) (C__law_cut : Cal P w K mg base "_law_cut" 2 f4 fd4 ["pool", "many", "parts"] spCut) : FnOk P w K mg base CX0 3 f fd ["pool", "tall", "many", "alike"] spStrand := by
  refine F.ok scSt (fun vs H Q E h => ?_) (fun cdv A outer s H vs Q E hr h => ?_)
  · obtain ⟨p, o, tall, many, av, al, F, m, rfl, _⟩ := h
    rfl
  · obtain ⟨p, o, tall, many, av, al, F, m, rfl, O, hp, ht0, ht1, hmany, hav, hal, k⟩ := h
    refine ⟨_, 
    (pss_cons (ps_set (i := 4) scSt.nd rfl (Or.inl rfl) (pe_call C__law_pick.ok (hr.mono (by first | decide | omega)) rfl C__law_pick.mg C__law_pick.kp C__law_pick.bi .nil pass0 (pa_cons (pv 0) (pa_cons (pe_lst (pa_cons pe_int (pa_cons pe_int (pa_cons pe_int (pa_cons pe_int (pa_cons pe_int (pa_cons (pe_un un_neg pe_int) pa_nil))))))) pa_nil))))
    (pss_cons (ps_set (i := 5) scSt.nd rfl (Or.inl rfl) (pe_op op_add pe_int (pe_call C__law_draw.ok (hr.mono (by first | decide | omega)) rfl C__law_draw.mg C__law_draw.kp C__law_draw.bi .nil pass0 (pa_cons (pv 0) (pa_cons pe_int pa_nil)))))
    (pss_cons (ps_set (i := 6) scSt.nd rfl (Or.inl rfl) (pe_lst pa_nil))
    (pss_cons (ps_for PassesOwn.never rfl (pi_range1 (by rfl) T.b_range (pa_cons (pe_call C__law_pick.ok (hr.mono (by first | decide | omega)) rfl C__law_pick.mg C__law_pick.kp C__law_pick.bi .nil pass0 (pa_cons (pv 0) (pa_cons (pe_lst (pa_cons pe_int (pa_cons pe_int (pa_cons pe_int (pa_cons pe_int pa_nil))))) pa_nil))) pa_nil)) (pg_name (i := 7) scSt.nd rfl (Or.inl rfl)) 
      (pss_cons (ps_set (i := 8) scSt.nd rfl (Or.inl rfl) (pe_lst pa_nil))
      (pss_cons (ps_for PassesOwn.never rfl (pi_range1 (by rfl) T.b_range (pa_cons (pv 5) pa_nil)) (pg_name (i := 9) scSt.nd rfl (Or.inl rfl)) 
        (pss_cons (ps_set (i := 10) scSt.nd rfl (Or.inl rfl) (pe_call C__law_draw.ok (hr.mono (by first | decide | omega)) rfl C__law_draw.mg C__law_draw.kp C__law_draw.bi .nil pass0 (pa_cons (pv 0) (pa_cons pe_int pa_nil))))
        (pss_cons (ps_set (i := 11) scSt.nd rfl (Or.inl rfl) (pe_tup (pa_cons (pv 10) (pa_cons (pe_call C__law_pick.ok (hr.mono (by first | decide | omega)) rfl C__law_pick.mg C__law_pick.kp C__law_pick.bi .nil pass0 (pa_cons (pv 0) (pa_cons (pe_lst (pa_cons pe_int (pa_cons pe_int (pa_cons pe_int (pa_cons pe_int pa_nil))))) pa_nil))) (pa_cons (pe_call C__law_draw.ok (hr.mono (by first | decide | omega)) rfl C__law_draw.mg C__law_draw.kp C__law_draw.bi .nil pass0 (pa_cons (pv 0) (pa_cons (pe_op op_add (pv 10) pe_int) pa_nil))) pa_nil)))))
        (pss_cons (ps_set (i := 12) scSt.nd rfl (Or.inl rfl) (pv 4))
        (Tf.pss_cut (ps_if (pt_cmpR op_gt (pv 9) pe_int (nomark _)) 
          (pss_one (ps_set (i := 12) scSt.nd rfl (Or.inl rfl) (pe_call C__law_pick.ok (hr.mono (by first | decide | omega)) rfl C__law_pick.mg C__law_pick.kp C__law_pick.bi .nil pass0 (pa_cons (pv 0) (pa_cons (pe_lst (pa_cons pe_int (pa_cons pe_int (pa_cons pe_int (pa_cons pe_int (pa_cons pe_int (pa_cons pe_int (pa_cons pe_int (pa_cons (pe_un un_neg pe_int) pa_nil))))))))) pa_nil))))) pss_nil)
        (pss_cons (ps_set (i := 13) scSt.nd rfl (Or.inl rfl) (pe_lst (pa_cons (pe_op op_add pe_int (pe_call C__law_draw.ok (hr.mono (by first | decide | omega)) rfl C__law_draw.mg C__law_draw.kp C__law_draw.bi .nil pass0 (pa_cons (pv 0) (pa_cons (pe_call C__law_pick.ok (hr.mono (by first | decide | omega)) rfl C__law_pick.mg C__law_pick.kp C__law_pick.bi .nil pass0 (pa_cons (pv 0) (pa_cons (pe_lst (pa_cons pe_int (pa_cons pe_int (pa_cons (pv 1) (pa_cons (pe_op op_add (pv 1) pe_int) pa_nil))))) pa_nil))) pa_nil)))) (pa_cons (pv 11) pa_nil))))
        (Tf.pss_cut (ps_if (pt_tru (pv 3) (by intro _; rfl)) 
          (pss_one (ps_set (i := 13) scSt.nd rfl (Or.inl rfl) (pv 3))) pss_nil)
        (pss_one (ps_expr (pe_bm PySem.F.plainAttrs_list PySem.F.slot_list_append PySem.F.type_list_append mt_append (pv 8) (pa_cons (pe_tup (pa_cons (pe_ix (r := rIxL K) ix_list (pv 13) pe_int (fun _ _ => rfl)) (pa_cons (pe_ix (r := rIxL K) ix_list (pv 13) pe_int (fun _ _ => rfl)) (pa_cons (pv 12) pa_nil)))) pa_nil)))))))))))
      (pss_cons (ps_expr (pe_bm PySem.F.plainAttrs_list PySem.F.slot_list_append PySem.F.type_list_append mt_append (pv 6) (pa_cons (pe_tup (pa_cons (pe_call C__law_pick.ok (hr.mono (by first | decide | omega)) rfl C__law_pick.mg C__law_pick.kp C__law_pick.bi .nil pass0 (pa_cons (pv 0) (pa_cons (pe_lst (pa_cons pe_int (pa_cons pe_int (pa_cons pe_int (pa_cons pe_int (pa_cons (pe_call C__law_draw.ok (hr.mono (by first | decide | omega)) rfl C__law_draw.mg C__law_draw.kp C__law_draw.bi .nil pass0 (pa_cons (pv 0) (pa_cons (pe_op op_pow pe_int pe_int) pa_nil))) pa_nil)))))) pa_nil))) (pa_cons (pe_callTy (T := "tuple") (r := rTupOf K) cr_tup (by rfl) T.b_tuple (by decide +kernel) (pa_cons (pv 8) pa_nil)) (pa_cons (pe_call C__law_cut.ok (hr.mono (by first | decide | omega)) rfl C__law_cut.mg C__law_cut.kp C__law_cut.bi .nil pass0 (pa_cons (pv 0) (pa_cons (pv 2) (pa_cons (pv 5) pa_nil)))) pa_nil)))) pa_nil)))
      (pss_one (ps_set (i := 5) scSt.nd rfl (Or.inl rfl) (pe_op op_add (pe_op op_add (pv 5) pe_int) (pe_callTy (T := "int") cr_int (by rfl) T.b_int (by decide +kernel) (pa_cons (pe_call C__law_rare.ok (hr.mono (by first | decide | omega)) rfl C__law_rare.mg C__law_rare.kp C__law_rare.bi .nil pass0 (pa_cons (pv 0) (pa_cons pe_int pa_nil))) pa_nil)))))))))
    (pss_one (ps_ret (pe_callTy (T := "tuple") (r := rTupOf K) cr_tup (by rfl) T.b_tuple (by decide +kernel) (pa_cons (pv 6) pa_nil)))))))), ?_⟩
    walk_at "x"
    refine x_newL (R := rInt) (xs := [0, 0, 0, 30000, 150, -1]) O (by show 6 ≤ _; decide) (All2.ofmap (f := V.int) (xs := [0, 0, 0, 30000, 150, -1])) (fun v1 H1 F1 s1 O1 hv1 => ?_)
    obtain ⟨a1, us1, rfl, ha1, hus1⟩ := hv1
    have eus1 := ints_of hus1
    subst eus1
    walk_at "x"
    refine ⟨p, o, a1, _, F1, _, rfl, O1, hp.up s1, ha1, by simp, by simp, fun w2 H2 o2 hw2 O2 hp2 => ?_⟩
    obtain ⟨c, hc, rfl⟩ := List.mem_map.mp hw2
    have hcb : -1 ≤ c ∧ c ≤ 30000 := by
      simp at hc
      omega
    walk_at "x"
    refine ⟨p, o2, _, F1, _, rfl, O2, hp2, by decide, by decide, fun r H3 o3 r0 r1 O3 hp3 => ?_⟩
    walk_at "x"
    refine x_ownL (vs := []) O3 (Nat.zero_le _) (fun fnd H4 hn4 O4 => ?_)
    walk_at "x"
    refine x_newL (R := rInt) (xs := [1, 2, 2, 3]) O4 (by show 4 ≤ _; decide) (All2.ofmap (f := V.int) (xs := [1, 2, 2, 3])) (fun v5 H5 F5 s5 O5 hv5 => ?_)
    obtain ⟨a5, us5, rfl, ha5, hus5⟩ := hv5
    have eus5 := ints_of hus5
    subst eus5
    walk_at "x"
    refine ⟨p, o3, a5, _, F5, _, rfl, O5.swap, hp3.up s5, ha5, by simp, by simp, fun w6 H6 o6 hw6 O6 hp6 => ?_⟩
    obtain ⟨nv, hnv, rfl⟩ := List.mem_map.mp hw6
    have hnvb : 1 ≤ nv ∧ nv ≤ 3 := by
      simp at hnv
      omega
    walk_at "x"
    have hav5 := up (s1.trans s5) hav
    obtain ⟨aa, rfl, haa⟩ := id hav5
    obtain ⟨sz0, hsz0⟩ : ∃ z : Nat, 1 + r = (z : Int) := ⟨(1 + r).toNat, by omega⟩
    rw [hsz0]
    refine x_doR1 (n := nv.toNat) O6 rfl (by omega) (by omega) (fun i σ F' m' => ∃ (sz : Nat) (vars : StrT) (us : List V) (o' : HO) (u7 u8 u9 u10 u11 u12 u13 : Option V), σ = [some (.ref p), some (.int tall), some (.int (many : Int)), some (.ref aa), some (.int c), some (.int (sz : Int)), some (.ref fnd), u7, u8, u9, u10, u11, u12, u13] ∧
      m' = (p, o') :: (fnd, .lst us) :: m ∧ PoolOk F' o' ∧ All2 (rVari F') vars us ∧ SI c many i sz vars)
      ⟨sz0, [], [], o6, _, _, _, _, _, _, _, rfl, rfl, hp6, .nil, SI.start (by omega) (by omega)⟩ ?_ ?_
    · rintro i σ' H7 F7 m7 hi s7 O7 ⟨sz, vars, us, o7, u7, u8, u9, u10, u11, u12, u13, rfl, rfl, hp7, hus, hsi⟩
      have hszl := hsi.lo
      have hszh := hsi.hi
      have hsz8 : sz ≤ 8 := by omega
      walk_at "x"
      refine x_ownL (vs := []) O7 (Nat.zero_le _) (fun ul H8 hn8 O8 => ?_)
      walk_at "x"
      refine x_doR1 (n := sz) O8.swap rfl (by omega) (by omega) (fun j σ F' m' => ∃ (un : List UnitT) (zs : List V) (o' : HO) (u9 u10 u11 u12 u13 : Option V), σ = [some (.ref p), some (.int tall), some (.int (many : Int)), some (.ref aa), some (.int c), some (.int (sz : Int)), some (.ref fnd), some (.int (i : Int)), some (.ref ul), u9, u10, u11, u12, u13] ∧
        m' = (p, o') :: (ul, .lst zs) :: (fnd, .lst us) :: m ∧ PoolOk F' o' ∧ All2 (rUnit F') un zs ∧ (∀ u ∈ un, UD u) ∧ un.length = j ∧ (0 < j → (un[0]?).map (·.2.2) = some c))
        ⟨[], [], o7, _, _, _, _, _, rfl, rfl, hp7, .nil, fun u hu => (nomatch hu), rfl, fun h => (nomatch h)⟩ ?_ ?_
      · rintro j σ' H9 F9 m9 hj s9 O9 ⟨un, zs, o9, u9, u10, u11, u12, u13, rfl, rfl, hp9, hzs, hud, hul, hfc⟩
        have hav9 := up (s7.trans s9) hav5
        walk_at "x"
        refine ⟨p, o9, _, F9, _, rfl, O9, hp9, by decide, by decide, fun nat H10 o10 n0 n1 O10 hp10 => ?_⟩
        walk_at "x"
        refine x_newL (R := rInt) (xs := [0, 1, 2, 3]) O10 (by show 4 ≤ _; decide) (All2.ofmap (f := V.int) (xs := [0, 1, 2, 3])) (fun v11 H11 F11 s11 O11 hv11 => ?_)
        obtain ⟨a11, us11, rfl, ha11, hus11⟩ := hv11
        have eus11 := ints_of hus11
        subst eus11
        walk_at "x"
        refine ⟨p, o10, a11, _, F11, _, rfl, O11, hp10.up s11, ha11, by simp, by simp, fun w12 H12 o12 hw12 O12 hp12 => ?_⟩
        obtain ⟨g1, hg1, rfl⟩ := List.mem_map.mp hw12
        have hg1b : 0 ≤ g1 ∧ g1 ≤ 3 := by
          simp at hg1
          omega
        walk_at "x"
        refine ⟨p, o12, _, F11, _, rfl, O12, hp12, by omega, by omega, fun g2 H13 o13 g20 g21 O13 hp13 => ?_⟩
        walk_at "x"
        refine x_newTri (R := rInt) (S := rInt) (T := rInt) (x := nat) (y := g1) (z := g2) O13 rfl rfl rfl (fun gv H14 F14 s14 O14 hgv => ?_)
        walk_at "x"
        have s914 := s11.trans s14
        refine x_cut (fun σ' H' => ∃ (d : Int) (F15 : Hp) (o15 : HO), σ' = [some (.ref p), some (.int tall), some (.int (many : Int)), some (.ref aa), some (.int c), some (.int (sz : Int)), some (.ref fnd), some (.int (i : Int)), some (.ref ul), some (.int (j : Int)), some (.int nat), some gv, some (.int d), u13] ∧ Same F14 F15 ∧
          Own H' F15 ((p, o15) :: (ul, .lst zs) :: (fnd, .lst us) :: m) ∧ PoolOk F15 o15 ∧ -1 ≤ d ∧ d ≤ 30000 ∧ (j = 0 → d = c)) ?_ ?_
        · walk_at "x"
          refine x_iteD (fun hgt => ?_) (fun hgt => ?_)
          · walk_at "x"
            refine x_newL (R := rInt) (xs := [0, 0, 50, 150, 150, 150, 30000, -1]) O14 (by show 8 ≤ _; decide) (All2.ofmap (f := V.int) (xs := [0, 0, 50, 150, 150, 150, 30000, -1])) (fun v15 H15 F15 s15 O15 hv15 => ?_)
            obtain ⟨a15, us15, rfl, ha15, hus15⟩ := hv15
            have eus15 := ints_of hus15
            subst eus15
            walk_at "x"
            refine ⟨p, o13, a15, _, F15, _, rfl, O15, hp13.up (s14.trans s15), ha15, by simp, by simp, fun w16 H16 o16 hw16 O16 hp16 => ?_⟩
            obtain ⟨d, hd, rfl⟩ := List.mem_map.mp hw16
            have hdb : -1 ≤ d ∧ d ≤ 30000 := by
              simp at hd
              omega
            walk_at "x"
            exact ⟨d, F15, o16, rfl, s15, O16, hp16, hdb.1, hdb.2, fun e => by omega⟩
          · walk_at "x"
            exact ⟨c, F14, o13, rfl, Same.refl _, O14, hp13.up s14, hcb.1, hcb.2, fun _ => rfl⟩
        · rintro σ' H15 ⟨d, F15, o15, rfl, s15, O15, hp15, hd0, hd1, hdc⟩
          walk_at "x"
          refine x_newL (R := rInt) (xs := [4, 4, tall, tall + 1]) O15 (by show 4 ≤ _; decide) (All2.ofmap (f := V.int) (xs := [4, 4, tall, tall + 1])) (fun v16 H16 F16 s16 O16 hv16 => ?_)
          obtain ⟨a16, us16, rfl, ha16, hus16⟩ := hv16
          have eus16 := ints_of hus16
          subst eus16
          walk_at "x"
          refine ⟨p, o15, a16, _, F16, _, rfl, O16, hp15.up s16, ha16, by simp, by simp, fun w17 H17 o17 hw17 O17 hp17 => ?_⟩
          obtain ⟨hh, hhm, rfl⟩ := List.mem_map.mp hw17
          have hhb : 4 ≤ hh ∧ hh ≤ 101 := by
            simp at hhm
            omega
          walk_at "x"
          refine ⟨p, o17, _, F16, _, rfl, O17, hp17, by omega, by omega, fun q H18 o18 q0 q1 O18 hp18 => ?_⟩
          walk_at "x"
          have s1416 := s15.trans s16
          have s916 := s914.trans s1416
          refine x_rawL O18 (by show 2 ≤ _; decide) (fun ra H19 F19 s19 hra O19 => ?_)
          walk_at "x"
          have s919 := s916.trans s19
          refine x_cut (fun σ' H' => ∃ (rb : Addr) (F20 : Hp) (h0 : Int) (g : Int × Int × Int) (gw : V), σ' = [some (.ref p), some (.int tall), some (.int (many : Int)), some (.ref aa), some (.int c), some (.int (sz : Int)), some (.ref fnd), some (.int (i : Int)), some (.ref ul), some (.int (j : Int)), some (.int nat), some gv, some (.int d), some (.ref rb)] ∧ Same F19 F20 ∧
            Own H' F20 ((p, o18) :: (ul, .lst zs) :: (fnd, .lst us) :: m) ∧ F20 rb = some (.lst [.int h0, gw]) ∧ rTri rInt rInt rInt F20 g gw ∧ UD (h0, g, d)) ?_ ?_
          · walk_at "x"
            cases al with
            | none =>
              refine tq_list (O19.frz (s919 _ _ ((s7.trans s9) _ _ haa))) ?_
              refine x_iteF rfl ?_
              walk_at "x"
              exact ⟨ra, F19, 1 + q, (nat, g1, g2), gv, rfl, Same.refl _, O19, hra, up (s1416.trans s19) hgv, ⟨by show 0 ≤ 1 + q; omega, by show 1 + q < 1000; omega, n0, by show nat < 1000; omega, hg1b.1, by show g1 < 1000; omega, g20, by show g2 ≤ nat; omega, hd0, hd1⟩⟩
            | some x =>
              obtain ⟨h0, g⟩ := x
              obtain ⟨gw, hga, hgw⟩ := haa
              refine tq_list (O19.frz (s919 _ _ ((s7.trans s9) _ _ hga))) ?_
              refine x_iteT rfl ?_
              walk_at "x"
              have U : UD (h0, g, 0) := hal
              exact ⟨aa, F19, h0, g, gw, rfl, Same.refl _, O19, s919 _ _ ((s7.trans s9) _ _ hga), up s919 (up (s7.trans s9) hgw), ⟨U.h0, U.h1, U.a0, U.a1, U.b0, U.b1, U.c0, U.c1, hd0, hd1⟩⟩
          · rintro σ' H20 ⟨rb, F20, h0, g, gw, rfl, s20, O20, hrb, hgw, hUD⟩
            walk_at "x"
            refine ⟨ty_list O20.swap.at0, ?_⟩
            walk_at "x"
            refine x_ixF (j := 0) O20 hrb rfl rfl ?_
            walk_at "x"
            refine x_ixF (j := 1) O20 hrb rfl rfl ?_
            walk_at "x"
            refine x_newTri (R := rInt) (S := rTri rInt rInt rInt) (T := rInt) (x := h0) (y := g) (z := d) O20 rfl hgw rfl (fun uv H21 F21 s21 O21 huv => ?_)
            walk_at "x"
            have hzl : zs.length = j := by rw [← hzs.length, hul]
            refine x_append O21.swap (by omega) (fun H22 O22 => ?_)
            walk_at "x"
            have s921 := s919.trans (s20.trans s21)
            refine LI.mk (s9.trans s921) O22.swap ⟨un ++ [(h0, g, d)], _, o18, _, _, _, _, _, rfl, rfl, hp18.up (s19.trans (s20.trans s21)), (all2_up s921 hzs).snoc huv, fun u hu => ?_, by rw [List.length_append, hul]; rfl, fun _ => ?_⟩
            · rcases List.mem_append.mp hu with hu | hu
              · exact hud u hu
              · rw [List.mem_singleton.mp hu]
                exact hUD
            · by_cases hj0 : j = 0
              · subst hj0
                rw [List.eq_nil_of_length_eq_zero hul, hdc rfl]
                rfl
              · rw [List.getElem?_append_left (by omega)]
                exact hfc (by omega)
      · rintro σ' H9 F9 m9 s9 O9 ⟨un, zs, o9, u9, u10, u11, u12, u13, rfl, rfl, hp9, hzs, hud, hul, hfc⟩
        walk_at "x"
        have O10 := O9.swap
        refine ⟨ty_list O10.tail.swap.at0, ?_⟩
        walk_at "x"
        refine ⟨p, o9, _, F9, _, rfl, O9, hp9, by decide, by decide, fun q H11 o11 q0 q1 O11 hp11 => ?_⟩
        walk_at "x"
        refine x_newL (R := rInt) (xs := [0, 100, 100, 325, q]) O11 (by show 5 ≤ _; decide) (All2.ofmap (f := V.int) (xs := [0, 100, 100, 325, q])) (fun v12 H12 F12 s12 O12 hv12 => ?_)
        obtain ⟨a12, us12, rfl, ha12, hus12⟩ := hv12
        have eus12 := ints_of hus12
        subst eus12
        walk_at "x"
        refine ⟨p, o11, a12, _, F12, _, rfl, O12, hp11.up s12, ha12, by simp, by simp, fun w13 H13 o13 hw13 O13 hp13 => ?_⟩
        obtain ⟨vc, hvc, rfl⟩ := List.mem_map.mp hw13
        walk_at "x"
        refine x_tupM (us := zs) O13 (.inr (.inr (List.mem_cons_of_mem _ List.mem_cons_self))) (fun ut H14 F14 s14 O14 hut => ?_)
        walk_at "x"
        refine ⟨p, o13, many, sz, F14, _, rfl, O14, hp13.up s14, by omega, by omega, by omega, fun nt H15 F15 o15 ns s15 O15 hp15 hnt hnl hn0 hns => ?_⟩
        walk_at "x"
        have s915 := s12.trans (s14.trans s15)
        refine x_newTri (R := rInt) (S := rTup rUnit) (T := rTup rInt) (x := vc) (y := un) (z := ns) O15 rfl ⟨ut, zs, rfl, s15 _ _ hut, all2_up s915 hzs⟩ hnt (fun vv H16 F16 s16 O16 hvv => ?_)
        walk_at "x"
        have hul2 : us.length = i := by rw [← hus.length, hsi.len]
        have O17 := O16.rot3
        refine x_append (O16.perm ((List.Perm.cons _ (List.Perm.swap _ _ _)).trans (List.Perm.swap _ _ _))) (by omega) (fun H17 O17 => ?_)
        walk_at "x"
        refine ⟨p, o15, _, F16, _, rfl, O17.swap, hp15.up s16, by decide, by decide, fun b H18 o18 O18 hp18 => ?_⟩
        walk_at "x"
        have s916 := s915.trans s16
        obtain ⟨sz', hsz'⟩ : ∃ sz' : Nat, (sz : Int) + 1 + (if b = true then 1 else 0) = (sz' : Int) := ⟨((sz : Int) + 1 + (if b = true then 1 else 0)).toNat, by split <;> omega⟩
        rw [hsz']
        have hszz : sz < sz' ∧ sz' ≤ sz + 2 := by
          split at hsz' <;> omega
        have hVD : VD (vc, un, ns) := ⟨by show ns.length = un.length; omega, by show 0 < un.length; omega, by show un.length ≤ 8; omega, hud, hn0⟩
        refine LI.mk (s7.trans (s9.trans s916)) (O18.less (List.Sublist.cons₂ _ (List.Sublist.cons₂ _ (List.sublist_cons_self _ _)))) ⟨sz', vars ++ [(vc, un, ns)], _, o18, _, _, _, _, _, _, _, rfl, rfl, hp18, (all2_up (s9.trans s916) hus).snoc hvv, hsi.next hVD hns (hfc (by omega)) hul hszz.1 hszz.2⟩
    · rintro σ' H7 F7 m7 s7 O7 ⟨sz, vars, us, o7, u7, u8, u9, u10, u11, u12, u13, rfl, rfl, hp7, hus, hsi⟩
      walk_at "x"
      refine x_tupM (us := us) O7 (.inr (.inr (List.mem_cons_of_mem _ List.mem_cons_self))) (fun t H8 F8 s8 O8 ht => ?_)
      exact k (.ref t) H8 F8 o7 vars (s1.trans (s5.trans (s7.trans s8))) (O8.less (List.Sublist.cons₂ _ (List.sublist_cons_self _ _))) (hp7.up s8) ⟨t, us, rfl, ht, all2_up s8 hus⟩ (hsi.done (by omega) (by omega))
end
end Tf
namespace Tf
open PySem PySem.Spec PyProof.Rows L2
theorem notes_app {T : Told} {ss : List StrT} : ((ss.map notesOf).sum : Int) = ((ss.take ss.length).map notesOf).sum := by rw [List.take_length]
section
variable {P : Program} {w : World} {K : PySem.W.Frag} {mg : Str → Option Value} {base : Heap}
abbrev sTp : Stmt := top 30
abbrev NTp : List Str := ["pool", "usual", "most", "tall", "alike", "notes", "strands", "k", "many", "floats", "place", "told", "n"]
theorem scTp : FnScope NTp ["pool", "usual", "most"] (defScope sTp) := ⟨rfl, rfl, rfl, by decide +kernel, rfl, by decide +kernel, by decide +kernel⟩
theorem ok_Tp {f f1 f2 f3 f4 : Addr} {fd fd1 fd2 fd3 fd4 : FuncData} (F : Fun K "_law_told_press" "_law_told_press" sTp f fd) (T : Bi mg) (C__law_draw : Cal P w K mg base "_law_draw" 1 f1 fd1 ["pool", "many"] spDraw) (C__law_pick : Cal P w K mg base "_law_pick" 2 f2 fd2 ["pool", "row"] spPick)
    (C__law_few : Cal P w K mg base "_law_few" 3 f3 fd3 ["pool", "usual", "most"] spFew) (C__law_strand : Cal P w K mg base "_law_strand" 3 f4 fd4 ["pool", "tall", "many", "alike"] spStrand) : FnOk P w K mg base CX0 4 f fd ["pool", "usual", "most"] spToldP := by
  refine F.ok scTp (fun vs H Q E h => ?_) (fun cdv A outer s H vs Q E hr h => ?_)
  · obtain ⟨p, o, a, b, F, m, rfl, _⟩ := h
    rfl
  · obtain ⟨p, o, a, b, F, m, rfl, O, hp, ha0, ha1, hb0, hb1, k⟩ := h
    refine ⟨_, 
    (pss_cons (ps_set (i := 3) scTp.nd rfl (Or.inl rfl) (pe_op op_add pe_int (pe_call C__law_draw.ok (hr.mono (by first | decide | omega)) rfl C__law_draw.mg C__law_draw.kp C__law_draw.bi .nil pass0 (pa_cons (pv 0) (pa_cons pe_int pa_nil)))))
    (pss_cons (ps_set (i := 4) scTp.nd rfl (Or.inl rfl) (pe_call C__law_pick.ok (hr.mono (by first | decide | omega)) rfl C__law_pick.mg C__law_pick.kp C__law_pick.bi .nil pass0 (pa_cons (pv 0) (pa_cons (pe_lst (pa_cons (pe_lst pa_nil) (pa_cons (pe_lst pa_nil) (pa_cons (pe_lst (pa_cons (pe_op op_add pe_int (pe_call C__law_draw.ok (hr.mono (by first | decide | omega)) rfl C__law_draw.mg C__law_draw.kp C__law_draw.bi .nil pass0 (pa_cons (pv 0) (pa_cons pe_int pa_nil)))) (pa_cons (pe_tup (pa_cons pe_int (pa_cons (pe_call C__law_draw.ok (hr.mono (by first | decide | omega)) rfl C__law_draw.mg C__law_draw.kp C__law_draw.bi .nil pass0 (pa_cons (pv 0) (pa_cons pe_int pa_nil))) (pa_cons pe_int pa_nil)))) pa_nil))) pa_nil)))) pa_nil))))
    (pss_cons (ps_set (i := 5) scTp.nd rfl (Or.inl rfl) (pe_lst pa_nil))
    (pss_cons (ps_set (i := 6) scTp.nd rfl (Or.inl rfl) (pe_lst pa_nil))
    (pss_cons (ps_for PassesOwn.never rfl (pi_range1 (by rfl) T.b_range (pa_cons (pe_call C__law_few.ok (hr.mono (by first | decide | omega)) rfl C__law_few.mg C__law_few.kp C__law_few.bi .nil pass0 (pa_cons (pv 0) (pa_cons (pv 1) (pa_cons (pv 2) pa_nil)))) pa_nil)) (pg_name (i := 7) scTp.nd rfl (Or.inl rfl)) 
      (pss_cons (ps_set (i := 8) scTp.nd rfl (Or.inl rfl) (pe_call C__law_pick.ok (hr.mono (by first | decide | omega)) rfl C__law_pick.mg C__law_pick.kp C__law_pick.bi .nil pass0 (pa_cons (pv 0) (pa_cons (pe_lst (pa_cons pe_int (pa_cons pe_int (pa_cons pe_int (pa_cons pe_int (pa_cons pe_int pa_nil)))))) pa_nil))))
      (pss_cons (ps_expr (pe_bm PySem.F.plainAttrs_list PySem.F.slot_list_append PySem.F.type_list_append mt_append (pv 6) (pa_cons (pe_call C__law_strand.ok (hr.mono (by first | decide | omega)) rfl C__law_strand.mg C__law_strand.kp C__law_strand.bi .nil pass0 (pa_cons (pv 0) (pa_cons (pv 3) (pa_cons (pv 8) (pa_cons (pv 4) pa_nil))))) pa_nil)))
      (pss_one (ps_set (i := 5) scTp.nd rfl (Or.inl rfl) (pe_op op_cat (pv 5) (pe_lc (own := [("n", 12)]) (g := (gName 12)) (tt := tYes) rfl scTp.nd (pi_range1 (by rfl) T.b_range (pa_cons (pv 8) pa_nil)) (blkOk_by (N := NTp) (sc := defScope sTp) (by decide +kernel)) (fun _ _ _ _ _ => (pg_name (i := 12) scTp.nd rfl (by first | exact Or.inl rfl | exact Or.inr rfl))) (fun _ _ _ _ _ => pts_nil) (fun _ _ _ _ _ => (pe_tup (pa_cons (pe_op op_add pe_int (pe_call C__law_draw.ok (hr.mono (by first | decide | omega)) rfl C__law_draw.mg C__law_draw.kp C__law_draw.bi .nil pass0 (pa_cons (pv 0) (pa_cons pe_int pa_nil)))) (pa_cons (pe_or (pe_cmpR op_eq (pv 12) pe_int (nomark _)) (pe_one (pe_cmpR op_eq (pe_call C__law_draw.ok (hr.mono (by first | decide | omega)) rfl C__law_draw.mg C__law_draw.kp C__law_draw.bi .nil pass0 (pa_cons (pv 0) (pa_cons pe_int pa_nil))) pe_int (nomark _)))) pa_nil)))))))))))
    (pss_cons (ps_set (i := 9) scTp.nd rfl (Or.inl rfl) (pe_lst pa_nil))
    (pss_cons (ps_set (i := 10) scTp.nd rfl (Or.inl rfl) pe_int)
    (pss_cons (ps_for PassesOwn.never rfl (pi_range1 (by rfl) T.b_range (pa_cons (pe_call C__law_pick.ok (hr.mono (by first | decide | omega)) rfl C__law_pick.mg C__law_pick.kp C__law_pick.bi .nil pass0 (pa_cons (pv 0) (pa_cons (pe_lst (pa_cons pe_int (pa_cons pe_int (pa_cons pe_int (pa_cons pe_int (pa_cons pe_int pa_nil)))))) pa_nil))) pa_nil)) (pg_name (i := 7) scTp.nd rfl (Or.inl rfl)) 
      (pss_cons (ps_set (i := 10) scTp.nd rfl (Or.inl rfl) (pe_op op_add (pv 10) (pe_call C__law_draw.ok (hr.mono (by first | decide | omega)) rfl C__law_draw.mg C__law_draw.kp C__law_draw.bi .nil pass0 (pa_cons (pv 0) (pa_cons (pe_op op_add (pe_op op_sub (pe_callB (id := "len") (r := rLen K) cr_len (by rfl) T.b_len (by decide +kernel) (pa_cons (pv 6) pa_nil)) (pv 10)) pe_int) pa_nil)))))
      (pss_one (ps_expr (pe_bm PySem.F.plainAttrs_list PySem.F.slot_list_append PySem.F.type_list_append mt_append (pv 9) (pa_cons (pe_tup (pa_cons (pe_op op_add pe_int (pe_call C__law_draw.ok (hr.mono (by first | decide | omega)) rfl C__law_draw.mg C__law_draw.kp C__law_draw.bi .nil pass0 (pa_cons (pv 0) (pa_cons (pe_op op_sub (pv 3) pe_int) pa_nil)))) (pa_cons (pv 10) pa_nil))) pa_nil))))))
    (pss_cons (ps_set (i := 11) scTp.nd rfl (Or.inl rfl) (pe_lst (pa_cons (pe_callTy (T := "tuple") (r := rTupOf K) cr_tup (by rfl) T.b_tuple (by decide +kernel) (pa_cons (pv 6) pa_nil)) (pa_cons (pe_callTy (T := "tuple") (r := rTupOf K) cr_tup (by rfl) T.b_tuple (by decide +kernel) (pa_cons (pv 9) pa_nil)) (pa_cons (pe_callTy (T := "tuple") (r := rTupOf K) cr_tup (by rfl) T.b_tuple (by decide +kernel) (pa_cons (pv 5) pa_nil)) (pa_cons (pv 3) pa_nil))))))
    (pss_one (ps_ret (pe_op op_cat (pv 11) (pe_lst (pa_cons (pe_op op_add pe_int (pe_call C__law_draw.ok (hr.mono (by first | decide | omega)) rfl C__law_draw.mg C__law_draw.kp C__law_draw.bi .nil pass0 (pa_cons (pv 0) (pa_cons pe_int pa_nil)))) (pa_cons (pe_call C__law_draw.ok (hr.mono (by first | decide | omega)) rfl C__law_draw.mg C__law_draw.kp C__law_draw.bi .nil pass0 (pa_cons (pv 0) (pa_cons pe_int pa_nil))) (pa_cons (pe_call C__law_draw.ok (hr.mono (by first | decide | omega)) rfl C__law_draw.mg C__law_draw.kp C__law_draw.bi .nil pass0 (pa_cons (pv 0) (pa_cons pe_int pa_nil))) pa_nil)))))))))))))))), ?_⟩
    walk_at "x"
    refine ⟨p, o, _, F, m, rfl, O, hp, by decide, by decide, fun t H1 o1 t0 t1 O1 hp1 => ?_⟩
    walk_at "x"
    refine x_rawL (vs := []) O1 (Nat.zero_le _) (fun e1 H2 F2 s2 he1 O2 => ?_)
    walk_at "x"
    refine x_rawL (vs := []) O2 (Nat.zero_le _) (fun e2 H3 F3 s3 he2 O3 => ?_)
    walk_at "x"
    have s23 := s2.trans s3
    refine ⟨p, o1, _, F3, _, rfl, O3, hp1.up s23, by decide, by decide, fun ah H4 o4 ah0 ah1 O4 hp4 => ?_⟩
    walk_at "x"
    refine ⟨p, o4, _, F3, _, rfl, O4, hp4, by decide, by decide, fun ag H5 o5 ag0 ag1 O5 hp5 => ?_⟩
    walk_at "x"
    refine x_newTri (R := rInt) (S := rInt) (T := rInt) (x := 0) (y := ag) (z := 0) O5 rfl rfl rfl (fun gv H6 F6 s6 O6 hgv => ?_)
    walk_at "x"
    refine x_rawL O6 (by show 2 ≤ _; decide) (fun e3 H7 F7 s7 he3 O7 => ?_)
    walk_at "x"
    refine x_rawL O7 (by show 3 ≤ _; decide) (fun ml H8 F8 s8 hml O8 => ?_)
    walk_at "x"
    have s38 := s6.trans (s7.trans s8)
    have s28 := s3.trans s38
    have s08 := s2.trans s28
    refine ⟨p, o5, ml, _, F8, _, rfl, O8, hp5.up s38, hml, by simp, by show 3 < _; decide, fun av H9 o9 hav O9 hp9 => ?_⟩
    obtain ⟨al, hal, hAl⟩ : ∃ al, rAl F8 al av ∧ AlOk al := by
      rcases List.mem_cons.mp hav with rfl | hav
      · exact ⟨none, ⟨e1, rfl, s28 _ _ he1⟩, True.intro⟩
      · rcases List.mem_cons.mp hav with rfl | hav
        · exact ⟨none, ⟨e2, rfl, s38 _ _ he2⟩, True.intro⟩
        · rw [List.mem_singleton.mp hav]
          exact ⟨some (1 + ah, 0, ag, 0), ⟨e3, rfl, gv, s8 _ _ he3, up (s7.trans s8) hgv⟩, ⟨by show 0 ≤ 1 + ah; omega, by show 1 + ah < 1000; omega, by show (0 : Int) ≤ 0; decide, by show (0 : Int) < 1000; decide, ag0, by show ag < 1000; omega, by show (0 : Int) ≤ 0; decide, by show (0 : Int) ≤ 0; decide, by show (-1 : Int) ≤ 0; decide, by show (0 : Int) ≤ 30000; decide⟩⟩
    walk_at "x"
    refine x_newL (R := rPair rInt rBool) (xs := []) O9 (Nat.zero_le _) .nil (fun nv H10 F10 s10 O10 hnv => ?_)
    walk_at "x"
    refine x_ownL (vs := []) O10 (Nat.zero_le _) (fun sl H11 hn11 O11 => ?_)
    walk_at "x"
    refine ⟨p, o9, a, b, F10, _, rfl, O11.swap, hp9.up s10, ha0, by omega, hb0, by omega, fun few H12 o12 fw0 fw1 O12 hp12 => ?_⟩
    walk_at "x"
    have hal10 := up s10 hal
    refine x_doR1 (n := few.toNat) O12 rfl (by omega) (by omega) (fun i σ F' m' => ∃ (nv : V) (ns : List (Int × Bool)) (ss : List StrT) (us : List V) (o' : HO) (u7 u8 u9 u10 u11 u12 : Option V), σ = [some (.ref p), some (.int a), some (.int b), some (.int (5 + t)), some av, some nv, some (.ref sl), u7, u8, u9, u10, u11, u12] ∧ m' = (p, o') :: (sl, .lst us) :: m ∧ PoolOk F' o' ∧
      rList (rPair rInt rBool) F' ns nv ∧ All2 (rStrand F') ss us ∧ ss.length = i ∧ (∀ s ∈ ss, ∃ many, SD many s) ∧ (ns.length : Int) = (ss.map notesOf).sum ∧ ns.length ≤ 2 * i ∧ ∀ l ∈ ns, 0 ≤ l.1 ∧ l.1 < 1000)
      ⟨nv, [], [], [], o12, _, _, _, _, _, _, rfl, rfl, hp12, hnv, .nil, rfl, fun s hs => (nomatch hs), rfl, Nat.le_refl _, fun l hl => (nomatch hl)⟩ ?_ ?_
    · rintro i σ' H13 F13 m13 hi s13 O13 ⟨nv, ns, ss, us, o13, u7, u8, u9, u10, u11, u12, rfl, rfl, hp13, hnv, hus, hsl, hsd, hnl, hn2, hnb⟩
      walk_at "x"
      refine x_newL (R := rInt) (xs := [0, 0, 0, 1, 2]) O13 (by show 5 ≤ _; decide) (All2.ofmap (f := V.int) (xs := [0, 0, 0, 1, 2])) (fun v14 H14 F14 s14 O14 hv14 => ?_)
      obtain ⟨a14, us14, rfl, ha14, hus14⟩ := hv14
      have eus14 := ints_of hus14
      subst eus14
      walk_at "x"
      refine ⟨p, o13, a14, _, F14, _, rfl, O14, hp13.up s14, ha14, by simp, by simp, fun w15 H15 o15 hw15 O15 hp15 => ?_⟩
      obtain ⟨mz, hmz, rfl⟩ := List.mem_map.mp hw15
      obtain ⟨many, hmany⟩ : ∃ n : Nat, mz = (n : Int) := ⟨mz.toNat, by
        simp at hmz
        omega⟩
      have hm2 : many ≤ 2 := by
        simp at hmz
        omega
      subst hmany
      walk_at "x"
      refine ⟨ty_list O15.swap.at0, ?_⟩
      walk_at "x"
      refine ⟨p, o15, 5 + t, many, av, al, F14, _, rfl, O15, hp15, by omega, by omega, hm2, up (s13.trans s14) hal10, hAl, fun sv H16 F16 o16 st s16 O16 hp16 hsv hst => ?_⟩
      walk_at "x"
      have hul : us.length = i := by rw [← hus.length, hsl]
      refine x_append O16.swap (by omega) (fun H17 O17 => ?_)
      walk_at "x"
      have s1316 := s14.trans s16
      refine x_docR1 (S := rPair rInt rBool) (n := many) O17 rfl (by omega) (by omega) (fun j F5 m5 ys => ∃ o5, m5 = (sl, .lst (us ++ [sv])) :: (p, o5) :: m ∧ PoolOk F5 o5 ∧ ys.length = j ∧ ∀ l ∈ ys, 0 ≤ l.1 ∧ l.1 < 1000) ⟨o16, rfl, hp16, rfl, fun l hl => (nomatch hl)⟩ ?_ ?_ ?_
      · rintro D acc j H18 F18 m18 ys hj s18 O18 hacc hyl ⟨o18, rfl, hp18, hyj, hyb⟩
        walk_at "x"
        refine ⟨rfl, ?_⟩
        walk_at "x"
        refine x_iteT rfl ?_
        walk_at "x"
        refine ⟨p, o18, _, F18, _, rfl, O18.rot3, hp18, by decide, by decide, fun q H19 o19 q0 q1 O19 hp19 => ?_⟩
        walk_at "x"
        have fin : ∀ (b : Bool) (H20 : Hp) (o20 : HO), Own H20 F18 ((p, o20) :: (D, .lst acc) :: (sl, .lst (us ++ [sv])) :: m) → PoolOk F18 o20 → NewT [.int (1 + q), .bl b] (fun y H4 => ∃ acc, H4 D = some (.lst acc) ∧ acc.length < sizeLine ∧ LcP (rPair rInt rBool) (fun j F5 m5 ys => ∃ o5, m5 = (sl, .lst (us ++ [sv])) :: (p, o5) :: m ∧ PoolOk F5 o5 ∧ ys.length = j ∧ ∀ l ∈ ys, 0 ≤ l.1 ∧ l.1 < 1000) F16 D (j + 1) (upd H4 D (.lst (acc ++ [y])))) H20 := fun b H20 o20 O20 hp20 => by
          refine x_newPair (R := rInt) (S := rBool) (x := 1 + q) (y := b) O20 rfl rfl (fun r H21 F21 s21 O21 hr21 => ?_)
          refine x_keep (S := rPair rInt rBool) (O21.perm ((List.Perm.swap _ _ _).trans (List.Perm.cons _ (List.Perm.swap _ _ _)))) (s18.trans s21) hr21 (all2_up s21 hacc) hyl (by omega) ⟨o20, rfl, hp20.up s21, by rw [List.length_append, hyj]; rfl, fun l hl => ?_⟩
          rcases List.mem_append.mp hl with hl | hl
          · exact hyb l hl
          · rw [List.mem_singleton.mp hl]
            exact ⟨by show 0 ≤ 1 + q; omega, by show 1 + q < 1000; omega⟩
        refine x_iteD (fun hz => ?_) (fun hz => ?_)
        · walk_at "x"
          exact fin true H19 o19 O19 hp19
        · walk_at "x"
          refine ⟨p, o19, _, F18, _, rfl, O19, hp19, by decide, by decide, fun q2 H20 o20 q20 q21 O20 hp20 => ?_⟩
          walk_at "x"
          exact fin _ H20 o20 O20 hp20
      · rintro v18 H18 F18 m18 ys s18 O18 hv18 ⟨o18, rfl, hp18, hyj, hyb⟩
        walk_at "x"
        have s1318 := s1316.trans s18
        refine x_cat (R := rPair rInt rBool) O18 (up s1318 hnv) hv18 (by omega) (fun w19 H19 F19 s19 O19 hw19 => ?_)
        walk_at "x"
        refine LI.mk (s13.trans (s1318.trans s19)) O19.swap ⟨w19, ns ++ ys, ss ++ [st], _, o18, _, _, _, _, _, _, rfl, rfl, hp18.up s19, hw19, (all2_up (s1318.trans s19) hus).snoc (up (s18.trans s19) hsv), by rw [List.length_append, hsl]; rfl, fun s hs => ?_, ?_, by rw [List.length_append]; omega, fun l hl => ?_⟩
        · rcases List.mem_append.mp hs with hs | hs
          · exact hsd s hs
          · rw [List.mem_singleton.mp hs]
            exact ⟨_, hst⟩
        · rw [List.length_append, List.map_append, sum_app, hyj]
          show _ = _ + [notesOf st].sum
          rw [hst.notesOf, List.sum_singleton]
          omega
        · rcases List.mem_append.mp hl with hl | hl
          · exact hnb l hl
          · exact hyb l hl
      · rintro F6 F7 m6 ys j s6 ⟨o6, e6, h6, h7⟩
        exact ⟨o6, e6, h6.up s6, h7⟩
    · rintro σ' H13 F13 m13 s13 O13 ⟨nv, ns, ss, us, o13, u7, u8, u9, u10, u11, u12, rfl, rfl, hp13, hnv, hus, hsl, hsd, hnl, hn2, hnb⟩
      walk_at "x"
      refine x_ownL (vs := []) O13 (Nat.zero_le _) (fun fl H14 hn14 O14 => ?_)
      walk_at "x"
      refine x_newL (R := rInt) (xs := [0, 0, 1, 1, 2]) O14 (by show 5 ≤ _; decide) (All2.ofmap (f := V.int) (xs := [0, 0, 1, 1, 2])) (fun v15 H15 F15 s15 O15 hv15 => ?_)
      obtain ⟨a15, us15, rfl, ha15, hus15⟩ := hv15
      have eus15 := ints_of hus15
      subst eus15
      walk_at "x"
      refine ⟨p, o13, a15, _, F15, _, rfl, O15.swap, hp13.up s15, ha15, by simp, by simp, fun w16 H16 o16 hw16 O16 hp16 => ?_⟩
      obtain ⟨nf, hnf, rfl⟩ := List.mem_map.mp hw16
      have hnfb : 0 ≤ nf ∧ nf ≤ 2 := by
        simp at hnf
        omega
      have hul : us.length ≤ 3 := by
        rw [← hus.length, hsl]
        omega
      walk_at "x"
      refine x_doR1 (n := nf.toNat) O16 rfl (by omega) (by omega) (fun i σ F' m' => ∃ (pl : Int) (fs : List (Int × Int)) (zs : List V) (o' : HO) (u7 u8 u12 : Option V) (u9 : Option V), σ = [some (.ref p), some (.int a), some (.int b), some (.int (5 + t)), some av, some nv, some (.ref sl), u7, u8, some (.ref fl), some (.int pl), u12, u9] ∧
        m' = (p, o') :: (fl, .lst zs) :: (sl, .lst us) :: m ∧ PoolOk F' o' ∧ All2 (rPair rInt rInt F') fs zs ∧ fs.length = i ∧ 0 ≤ pl ∧ pl ≤ us.length ∧ ∀ f ∈ fs, 0 ≤ f.1 ∧ f.1 < 1000)
        ⟨0, [], [], o16, _, _, _, _, rfl, rfl, hp16, .nil, rfl, Int.le_refl _, by omega, fun f hf => (nomatch hf)⟩ ?_ ?_
      · rintro i σ' H17 F17 m17 hi s17 O17 ⟨pl, fs, zs, o17, u7, u8, u12, u9, rfl, rfl, hp17, hzs, hfl, hpl0, hpl1, hfb⟩
        walk_at "x"
        refine x_lenM O17 (List.mem_cons_of_mem _ (List.mem_cons_of_mem _ List.mem_cons_self)) ?_
        walk_at "x"
        refine ⟨p, o17, _, F17, _, rfl, O17, hp17, by omega, by omega, fun d H18 o18 d0 d1 O18 hp18 => ?_⟩
        walk_at "x"
        refine ⟨ty_list O18.swap.at0, ?_⟩
        walk_at "x"
        refine ⟨p, o18, _, F17, _, rfl, O18, hp18, by omega, by omega, fun q H19 o19 q0 q1 O19 hp19 => ?_⟩
        walk_at "x"
        refine x_newPair (R := rInt) (S := rInt) (x := 1 + q) (y := pl + d) O19 rfl rfl (fun r H20 F20 s20 O20 hr20 => ?_)
        walk_at "x"
        have hzl : zs.length = i := by rw [← hzs.length, hfl]
        refine x_append O20.swap (by omega) (fun H21 O21 => ?_)
        walk_at "x"
        refine LI.mk (s17.trans s20) O21.swap ⟨pl + d, fs ++ [(1 + q, pl + d)], _, o19, _, _, _, _, rfl, rfl, hp19.up s20, (all2_up s20 hzs).snoc hr20, by rw [List.length_append, hfl]; rfl, by omega, by omega, fun f hf => ?_⟩
        rcases List.mem_append.mp hf with hf | hf
        · exact hfb f hf
        · rw [List.mem_singleton.mp hf]
          exact ⟨by show 0 ≤ 1 + q; omega, by show 1 + q < 1000; omega⟩
      · rintro σ' H17 F17 m17 s17 O17 ⟨pl, fs, zs, o17, u7, u8, u12, u9, rfl, rfl, hp17, hzs, hfl, hpl0, hpl1, hfb⟩
        walk_at "x"
        refine x_tupM (us := us) O17 (.inr (.inr (List.mem_cons_of_mem _ (List.mem_cons_of_mem _ List.mem_cons_self)))) (fun t1 H18 F18 s18 O18 ht1 => ?_)
        walk_at "x"
        refine x_tupM (us := zs) O18 (.inr (.inr (List.mem_cons_of_mem _ List.mem_cons_self))) (fun t2 H19 F19 s19 O19 ht2 => ?_)
        walk_at "x"
        have s1319 := s15.trans (s17.trans (s18.trans s19))
        refine x_tupL O19 (up s1319 hnv) (fun t3 H20 F20 s20 O20 ht3 => ?_)
        walk_at "x"
        refine x_newL (R := rRaw) (xs := [.ref t1, .ref t2, t3, .int (5 + t)]) O20 (by show 4 ≤ _; decide) (.cons rfl (.cons rfl (.cons rfl (.cons rfl .nil)))) (fun w21 H21 F21 s21 O21 hw21 => ?_)
        walk_at "x"
        have s1721 := s18.trans (s19.trans (s20.trans s21))
        refine ⟨p, o17, _, F21, _, rfl, O21, hp17.up s1721, by decide, by decide, fun z1 H22 o22 z10 z11 O22 hp22 => ?_⟩
        walk_at "x"
        refine ⟨p, o22, _, F21, _, rfl, O22, hp22, by decide, by decide, fun z2 H23 o23 z20 z21 O23 hp23 => ?_⟩
        walk_at "x"
        refine ⟨p, o23, _, F21, _, rfl, O23, hp23, by decide, by decide, fun z3 H24 o24 z30 z31 O24 hp24 => ?_⟩
        walk_at "x"
        refine x_newL (R := rRaw) (xs := [.int (1 + z1), .int z2, .int z3]) O24 (by show 3 ≤ _; decide) (.cons rfl (.cons rfl (.cons rfl .nil))) (fun w25 H25 F25 s25 O25 hw25 => ?_)
        walk_at "x"
        refine x_cat (R := rRaw) O25 (up s25 hw21) hw25 (by show 4 + 3 ≤ _; decide) (fun w26 H26 F26 s26 O26 hw26 => ?_)
        obtain ⟨wa, wus, rfl, hwa, hwus⟩ := hw26
        have ewus := raw_of hwus
        subst ewus
        have s2126 := s25.trans s26
        have s1826 := s19.trans (s20.trans (s21.trans s2126))
        have s1726 := s18.trans s1826
        refine k (.ref wa) H26 F26 o24 ⟨ss, fs, ns, 5 + t, 1 + z1, z2, z3⟩ (s08.trans (s10.trans (s13.trans (s1319.trans (s20.trans (s21.trans s2126)))))) (O26.less (List.Sublist.cons₂ _ ((List.sublist_cons_self _ _).trans (List.sublist_cons_self _ _)))) (hp24.up s2126)
          ⟨wa, .ref t1, .ref t2, t3, rfl, hwa, ⟨t1, us, rfl, s1826 _ _ ht1, all2_up (s15.trans (s17.trans s1726)) hus⟩, ⟨t2, zs, rfl, (s20.trans (s21.trans s2126)) _ _ ht2, all2_up s1726 hzs⟩, up (s21.trans s2126) ht3⟩ ?_
        have hfew : ss.length ≤ 3 := by omega
        refine ⟨hsd, by show ss.length ≤ 126; omega, ?_, ?_, by show ns.length ≤ 10; omega, by show fs.length ≤ 4; omega, hfb, hnb, ⟨by show 0 ≤ 5 + t; omega, by show 5 + t < 1000; omega⟩, ⟨by show 0 ≤ 1 + z1; omega, by show 1 + z1 ≤ 2; omega⟩, ⟨z20, by show z2 < 1000; omega⟩, ⟨z30, by show z3 < 1000; omega⟩⟩
        · have := manyF_three (ss := ss) fun s hs => (hsd s hs).choose_spec.few
          refine Nat.le_trans this (Nat.le_trans (Nat.pow_le_pow_right (by decide) hfew) (by decide))
        · show ((ss.take ss.length).map notesOf).sum = (ns.length : Int)
          rw [List.take_length, hnl]
end
end Tf
namespace Tf
open PySem PySem.Spec PyProof.Rows L2
theorem sum_le {c : Int} : ∀ {l : List Int}, (∀ x ∈ l, 0 ≤ x ∧ x ≤ c) → 0 ≤ l.sum ∧ l.sum ≤ c * l.length
  | [], _ => by simp
  | x :: l, h => by
    have h1 := h x List.mem_cons_self
    have h2 := sum_le (l := l) fun y hy => h y (List.mem_cons_of_mem _ hy)
    rw [List.sum_cons, List.length_cons]
    have : c * ((l.length + 1 : Nat) : Int) = c * l.length + c := by
      rw [Int.natCast_add, Int.mul_add]
      omega
    omega
def manyAt (i : Nat) : Nat := if i ≤ 3 then 1 else if i ≤ 40 then 2 else 4
structure MS (i : Nat) (ss : List StrT) : Prop where
  len : ss.length = i
  sd : ∀ s ∈ ss, SD 0 s ∧ ∀ v ∈ s, ∀ u ∈ v.2.1, 0 ≤ u.1 ∧ u.1 ≤ 2
  many : manyF ss = manyAt i
  notes : (ss.map notesOf).sum = 0
theorem MS.next {i : Nat} {ss : List StrT} {s : StrT} (h : MS i ss) (hs : SD 0 s) (hu : ∀ v ∈ s, ∀ u ∈ v.2.1, 0 ≤ u.1 ∧ u.1 ≤ 2) (hl : s.length = if i = 3 ∨ i = 40 then 2 else 1) : MS (i + 1) (ss ++ [s]) where
  len := by
    rw [List.length_append, h.len]
    rfl
  sd := fun x hx => by
    rcases List.mem_append.mp hx with hx | hx
    · exact h.sd x hx
    · rw [List.mem_singleton.mp hx]
      exact ⟨hs, hu⟩
  many := by
    rw [manyF_snoc, h.many, hl]
    unfold manyAt
    repeat' split
    all_goals omega
  notes := by
    rw [List.map_append, sum_app, h.notes]
    show (0 : Int) + [notesOf s].sum = 0
    rw [hs.notesOf]
    rfl
theorem msV1 {c h d : Int} (h0 : 0 ≤ h) (h1 : h ≤ 2) (d0 : 0 ≤ d) (d1 : d ≤ 30) : SD 0 [(c, [(h, (0, 1, 0), d)], [0])] ∧ ∀ v ∈ ([(c, [(h, (0, 1, 0), d)], [0])] : StrT), ∀ u ∈ v.2.1, 0 ≤ u.1 ∧ u.1 ≤ 2 := by
  have U : UD (h, (0, 1, 0), d) := ⟨h0, by show h < 1000; omega, by show (0 : Int) ≤ 0; decide, by show (0 : Int) < 1000; decide, by show (0 : Int) ≤ 1; decide, by show (1 : Int) < 1000; decide, by show (0 : Int) ≤ 0; decide, by show (0 : Int) ≤ 0; decide, by show -1 ≤ d; omega, by show d ≤ 30000; omega⟩
  refine ⟨⟨by simp, by show 1 ≤ 3; decide, fun v hv => ?_, List.pairwise_singleton .., fun v hv => ?_, d, fun v hv => ?_⟩, fun v hv u hu => ?_⟩
  · rw [List.mem_singleton.mp hv]
    exact ⟨rfl, by show 0 < 1; decide, by show 1 ≤ 8; decide, fun u hu => by rw [List.mem_singleton.mp hu]; exact U, fun x hx => by rw [List.mem_singleton.mp hx]; exact Int.le_refl _⟩
  · rw [List.mem_singleton.mp hv]
    rfl
  · rw [List.mem_singleton.mp hv]
    rfl
  · rw [List.mem_singleton.mp hv] at hu
    rw [List.mem_singleton.mp hu]
    exact ⟨h0, h1⟩
theorem msV2 {c c2 h d : Int} (h0 : 0 ≤ h) (h1 : h ≤ 2) (d0 : 0 ≤ d) (d1 : d ≤ 30) : SD 0 [(c, [(h, (0, 1, 0), d)], [0]), (c2, [(h, (0, 1, 0), d), (h, (0, 1, 0), d)], [0, 0])] ∧
    ∀ v ∈ ([(c, [(h, (0, 1, 0), d)], [0]), (c2, [(h, (0, 1, 0), d), (h, (0, 1, 0), d)], [0, 0])] : StrT), ∀ u ∈ v.2.1, 0 ≤ u.1 ∧ u.1 ≤ 2 := by
  have U : UD (h, (0, 1, 0), d) := ⟨h0, by show h < 1000; omega, by show (0 : Int) ≤ 0; decide, by show (0 : Int) < 1000; decide, by show (0 : Int) ≤ 1; decide, by show (1 : Int) < 1000; decide, by show (0 : Int) ≤ 0; decide, by show (0 : Int) ≤ 0; decide, by show -1 ≤ d; omega, by show d ≤ 30000; omega⟩
  have A := msV1 (c := c) h0 h1 d0 d1
  have two : ∀ {u : UnitT}, u ∈ [(h, ((0 : Int), (1 : Int), (0 : Int)), d), (h, (0, 1, 0), d)] → u = (h, (0, 1, 0), d) := fun hu => by
    rcases List.mem_cons.mp hu with rfl | hu
    · rfl
    · exact List.mem_singleton.mp hu
  refine ⟨⟨by simp, by show 2 ≤ 3; decide, fun v hv => ?_, ?_, fun v hv => ?_, d, fun v hv => ?_⟩, fun v hv u hu => ?_⟩
  · rcases List.mem_cons.mp hv with rfl | hv
    · exact A.1.vars _ List.mem_cons_self
    · rw [List.mem_singleton.mp hv]
      exact ⟨rfl, by show 0 < 2; decide, by show 2 ≤ 8; decide, fun u hu => by rw [two hu]; exact U, fun x hx => by
        rcases List.mem_cons.mp hx with rfl | hx
        · exact Int.le_refl _
        · rw [List.mem_singleton.mp hx]
          exact Int.le_refl _⟩
  · refine .cons (fun x hx => ?_) (List.pairwise_singleton ..)
    have hx : x ∈ [2] := hx
    rw [List.mem_singleton.mp hx]
    show (1 : Nat) < 2
    decide
  · rcases List.mem_cons.mp hv with rfl | hv
    · rfl
    · rw [List.mem_singleton.mp hv]
      rfl
  · rcases List.mem_cons.mp hv with rfl | hv
    · rfl
    · rw [List.mem_singleton.mp hv]
      rfl
  · rcases List.mem_cons.mp hv with rfl | hv
    · exact A.2 _ List.mem_cons_self u hu
    · rw [List.mem_singleton.mp hv] at hu
      rw [two hu]
      exact ⟨h0, h1⟩
section
variable {P : Program} {w : World} {K : PySem.W.Frag} {mg : Str → Option Value} {base : Heap}
abbrev sMs : Stmt := top 31
abbrev NMs : List Str := ["pool", "strands", "k", "unit", "strand", "tall"]
theorem scMs : FnScope NMs ["pool"] (defScope sMs) := ⟨rfl, rfl, rfl, by decide +kernel, rfl, by decide +kernel, by decide +kernel⟩
theorem ok_Ms {f f1 f2 : Addr} {fd fd1 fd2 : FuncData} (F : Fun K "_law_many_strands" "_law_many_strands" sMs f fd) (T : Bi mg) (C__law_draw : Cal P w K mg base "_law_draw" 1 f1 fd1 ["pool", "many"] spDraw) (C__law_pick : Cal P w K mg base "_law_pick" 2 f2 fd2 ["pool", "row"] spPick) :
    FnOk P w K mg base CX0 3 f fd ["pool"] spManyS := by
  refine F.ok scMs (fun vs H Q E h => ?_) (fun cdv A outer s H vs Q E hr h => ?_)
  · obtain ⟨p, o, F, m, rfl, _⟩ := h
    rfl
  · obtain ⟨p, o, F, m, rfl, O, hp, k⟩ := h
    refine ⟨_, 
    (pss_cons (ps_set (i := 1) scMs.nd rfl (Or.inl rfl) (pe_lst pa_nil))
    (pss_cons (ps_for PassesOwn.never rfl (pi_range1 (by rfl) T.b_range (pa_cons (pe_op op_add pe_int (pe_call C__law_draw.ok (hr.mono (by first | decide | omega)) rfl C__law_draw.mg C__law_draw.kp C__law_draw.bi .nil pass0 (pa_cons (pv 0) (pa_cons pe_int pa_nil)))) pa_nil)) (pg_name (i := 2) scMs.nd rfl (Or.inl rfl)) 
      (pss_cons (ps_set (i := 3) scMs.nd rfl (Or.inl rfl) (pe_tup (pa_cons (pe_call C__law_draw.ok (hr.mono (by first | decide | omega)) rfl C__law_draw.mg C__law_draw.kp C__law_draw.bi .nil pass0 (pa_cons (pv 0) (pa_cons pe_int pa_nil))) (pa_cons (pe_tup (pa_cons pe_int (pa_cons pe_int (pa_cons pe_int pa_nil)))) (pa_cons (pe_call C__law_pick.ok (hr.mono (by first | decide | omega)) rfl C__law_pick.mg C__law_pick.kp C__law_pick.bi .nil pass0 (pa_cons (pv 0) (pa_cons (pe_lst (pa_cons pe_int (pa_cons pe_int (pa_cons pe_int pa_nil)))) pa_nil))) pa_nil)))))
      (pss_cons (ps_set (i := 4) scMs.nd rfl (Or.inl rfl) (pe_tup (pa_cons (pe_tup (pa_cons (pe_call C__law_draw.ok (hr.mono (by first | decide | omega)) rfl C__law_draw.mg C__law_draw.kp C__law_draw.bi .nil pass0 (pa_cons (pv 0) (pa_cons pe_int pa_nil))) (pa_cons (pe_tup (pa_cons (pv 3) pa_nil)) (pa_cons (pe_tup (pa_cons pe_int pa_nil)) pa_nil)))) pa_nil)))
      (Tf.pss_cut (ps_if (pt_cmpR op_in_seq (pv 2) (pe_tup (pa_cons pe_int (pa_cons pe_int pa_nil))) rfl) 
        (pss_one (ps_set (i := 4) scMs.nd rfl (Or.inl rfl) (pe_op (r := rCatA K) op_catA (pv 4) (pe_tup (pa_cons (pe_tup (pa_cons (pe_call C__law_draw.ok (hr.mono (by first | decide | omega)) rfl C__law_draw.mg C__law_draw.kp C__law_draw.bi .nil pass0 (pa_cons (pv 0) (pa_cons pe_int pa_nil))) (pa_cons (pe_tup (pa_cons (pv 3) (pa_cons (pv 3) pa_nil))) (pa_cons (pe_tup (pa_cons pe_int (pa_cons pe_int pa_nil))) pa_nil)))) pa_nil))))) pss_nil)
      (pss_one (ps_expr (pe_bm PySem.F.plainAttrs_list PySem.F.slot_list_append PySem.F.type_list_append mt_append (pv 1) (pa_cons (pv 4) pa_nil))))))))
    (pss_cons (ps_set (i := 5) scMs.nd rfl (Or.inl rfl) (pe_op op_add (pe_callB (Tf.cr_sumT rfl) (by rfl) T.b_sum (by decide +kernel) (pa_cons (pe_lc (own := [("strand", 4)]) (g := (gName 4)) (tt := tYes) rfl scMs.nd (pi_list (pv 1)) (blkOk_by (N := NMs) (sc := defScope sMs) (by decide +kernel)) (fun _ _ _ _ _ => (pg_name (i := 4) scMs.nd rfl (by first | exact Or.inl rfl | exact Or.inr rfl))) (fun _ _ _ _ _ => pts_nil) (fun _ _ _ _ _ => (pe_op op_mul (pe_ix (r := rIxT K) ix_tup (pe_ix (r := rIxT K) ix_tup (pe_ix (r := rIxT K) ix_tup (pe_ix (r := rIxT K) ix_tup (pv 4) (pe_un un_neg pe_int) (fun _ _ => rfl)) pe_int (fun _ _ => rfl)) pe_int (fun _ _ => rfl)) pe_int (fun _ _ => rfl)) pe_int))) pa_nil)) (pe_call C__law_draw.ok (hr.mono (by first | decide | omega)) rfl C__law_draw.mg C__law_draw.kp C__law_draw.bi .nil pass0 (pa_cons (pv 0) (pa_cons pe_int pa_nil)))))
    (pss_one (ps_ret (pe_lst (pa_cons (pe_callTy (T := "tuple") (r := rTupOf K) cr_tup (by rfl) T.b_tuple (by decide +kernel) (pa_cons (pv 1) pa_nil)) (pa_cons (pe_tup (pa_cons (pe_tup (pa_cons pe_int (pa_cons pe_int pa_nil))) pa_nil)) (pa_cons (pe_tup pa_nil) (pa_cons (pv 5) (pa_cons pe_int (pa_cons pe_int (pa_cons pe_int pa_nil))))))))))))), ?_⟩
    walk_at "x"
    refine x_ownL (vs := []) O (Nat.zero_le _) (fun sl H1 hn1 O1 => ?_)
    walk_at "x"
    refine ⟨p, o, _, F, _, rfl, O1.swap, hp, by decide, by decide, fun r H2 o2 r0 r1 O2 hp2 => ?_⟩
    walk_at "x"
    refine x_doR1 (n := (66 + r).toNat) O2 rfl (by omega) (by omega) (fun i σ F' m' => ∃ (ss : List StrT) (us : List V) (o' : HO) (u2 u3 u4 u5 : Option V), σ = [some (.ref p), some (.ref sl), u2, u3, u4, u5] ∧ m' = (p, o') :: (sl, .lst us) :: m ∧ PoolOk F' o' ∧ All2 (rStrand F') ss us ∧ MS i ss)
      ⟨[], [], o2, _, _, _, _, rfl, rfl, hp2, .nil, ⟨rfl, fun s hs => (nomatch hs), rfl, rfl⟩⟩ ?_ ?_
    · rintro i σ' H3 F3 m3 hi s3 O3 ⟨ss, us, o3, u2, u3, u4, u5, rfl, rfl, hp3, hus, hms⟩
      walk_at "x"
      refine ⟨p, o3, _, F3, _, rfl, O3, hp3, by decide, by decide, fun h H4 o4 h0 h1 O4 hp4 => ?_⟩
      walk_at "x"
      refine x_newTri (R := rInt) (S := rInt) (T := rInt) (x := 0) (y := 1) (z := 0) O4 rfl rfl rfl (fun gv H5 F5 s5 O5 hgv => ?_)
      walk_at "x"
      refine x_newL (R := rInt) (xs := [0, 0, 30]) O5 (by show 3 ≤ _; decide) (All2.ofmap (f := V.int) (xs := [0, 0, 30])) (fun v6 H6 F6 s6 O6 hv6 => ?_)
      obtain ⟨a6, us6, rfl, ha6, hus6⟩ := hv6
      have eus6 := ints_of hus6
      subst eus6
      walk_at "x"
      refine ⟨p, o4, a6, _, F6, _, rfl, O6, hp4.up (s5.trans s6), ha6, by simp, by simp, fun w7 H7 o7 hw7 O7 hp7 => ?_⟩
      obtain ⟨d, hd, rfl⟩ := List.mem_map.mp hw7
      have hdb : 0 ≤ d ∧ d ≤ 30 := by
        simp at hd
        omega
      walk_at "x"
      refine x_newTri (R := rInt) (S := rTri rInt rInt rInt) (T := rInt) (x := h) (y := (0, 1, 0)) (z := d) O7 rfl (up s6 hgv) rfl (fun uv H8 F8 s8 O8 huv => ?_)
      walk_at "x"
      have s38 := s5.trans (s6.trans s8)
      refine ⟨p, o7, _, F8, _, rfl, O8, hp7.up s8, by decide, by decide, fun c H9 o9 c0 c1 O9 hp9 => ?_⟩
      walk_at "x"
      refine x_newT (R := rUnit) (xs := [(h, (0, 1, 0), d)]) O9 (by show 1 ≤ _; decide) (.cons huv .nil) (fun t10 H10 F10 s10 O10 ht10 => ?_)
      walk_at "x"
      refine x_newT (R := rInt) (xs := [0]) O10 (by show 1 ≤ _; decide) (.cons rfl .nil) (fun t11 H11 F11 s11 O11 ht11 => ?_)
      walk_at "x"
      refine x_newTri (R := rInt) (S := rTup rUnit) (T := rTup rInt) (x := c) (y := [(h, (0, 1, 0), d)]) (z := [0]) O11 rfl (up s11 ht10) ht11 (fun t12 H12 F12 s12 O12 ht12 => ?_)
      walk_at "x"
      refine x_newT (R := rVari) (xs := [(c, [(h, (0, 1, 0), d)], [0])]) O12 (by show 1 ≤ _; decide) (.cons ht12 .nil) (fun t13 H13 F13 s13 O13 ht13 => ?_)
      walk_at "x"
      have s813 := s10.trans (s11.trans (s12.trans s13))
      have s313 := s38.trans s813
      have hp13 := hp9.up s813
      refine x_cut (fun σ' H' => ∃ (st : StrT) (sv : V) (F14 : Hp) (o14 : HO) (u3 u5 : Option V), σ' = [some (.ref p), some (.ref sl), u3, some uv, some sv, u5] ∧ Same F13 F14 ∧ Own H' F14 ((p, o14) :: (sl, .lst us) :: m) ∧ PoolOk F14 o14 ∧ rStrand F14 st sv ∧ SD 0 st ∧ (∀ v ∈ st, ∀ u ∈ v.2.1, 0 ≤ u.1 ∧ u.1 ≤ 2) ∧ st.length = if i = 3 ∨ i = 40 then 2 else 1) ?_ ?_
      · walk_at "x"
        refine x_newT (R := rInt) (xs := [3, 40]) O13 (by show 2 ≤ _; decide) (All2.ofmap (f := V.int) (xs := [3, 40])) (fun t14 H14 F14 s14 O14 ht14 => ?_)
        walk_at "x"
        refine x_inT O14 ht14 ?_
        walk_at "x"
        refine x_iteD (fun hin => ?_) (fun hin => ?_)
        · have hin2 : i = 3 ∨ i = 40 := by
            simp at hin
            omega
          walk_at "x"
          refine ⟨p, o9, _, F14, _, rfl, O14, hp13.up s14, by decide, by decide, fun c2 H15 o15 c20 c21 O15 hp15 => ?_⟩
          walk_at "x"
          have huv15 := up (s813.trans s14) huv
          refine x_newT (R := rUnit) (xs := [(h, (0, 1, 0), d), (h, (0, 1, 0), d)]) O15 (by show 2 ≤ _; decide) (.cons huv15 (.cons huv15 .nil)) (fun t16 H16 F16 s16 O16 ht16 => ?_)
          walk_at "x"
          refine x_newT (R := rInt) (xs := [0, 0]) O16 (by show 2 ≤ _; decide) (.cons rfl (.cons rfl .nil)) (fun t17 H17 F17 s17 O17 ht17 => ?_)
          walk_at "x"
          refine x_newTri (R := rInt) (S := rTup rUnit) (T := rTup rInt) (x := c2) (y := [(h, (0, 1, 0), d), (h, (0, 1, 0), d)]) (z := [0, 0]) O17 rfl (up s17 ht16) ht17 (fun t18 H18 F18 s18 O18 ht18 => ?_)
          walk_at "x"
          refine x_newT (R := rVari) (xs := [(c2, [(h, (0, 1, 0), d), (h, (0, 1, 0), d)], [0, 0])]) O18 (by show 1 ≤ _; decide) (.cons ht18 .nil) (fun t19 H19 F19 s19 O19 ht19 => ?_)
          walk_at "x"
          have s1519 := s16.trans (s17.trans (s18.trans s19))
          refine x_catTA (R := rVari) O19 (up (s14.trans s1519) ht13) ht19 (by show 1 + 1 ≤ _; decide) (fun t20 H20 F20 s20 O20 ht20 => ?_)
          walk_at "x"
          have V := msV2 (c := c) (c2 := c2) h0 (by omega) hdb.1 hdb.2
          exact ⟨[(c, [(h, (0, 1, 0), d)], [0]), (c2, [(h, (0, 1, 0), d), (h, (0, 1, 0), d)], [0, 0])], t20, F20, o15, _, _, rfl, s14.trans (s1519.trans s20), O20, hp15.up (s1519.trans s20), ht20, V.1, V.2, by rw [if_pos hin2]; rfl⟩
        · have hin2 : ¬ (i = 3 ∨ i = 40) := by
            simp at hin
            omega
          walk_at "x"
          have V := msV1 (c := c) h0 (by omega) hdb.1 hdb.2
          exact ⟨[(c, [(h, (0, 1, 0), d)], [0])], t13, F14, o9, _, _, rfl, s14, O14, hp13.up s14, up s14 ht13, V.1, V.2, by rw [if_neg hin2]; rfl⟩
      · rintro σ' H14 ⟨st, sv, F14, o14, u3, u5, rfl, s14, O14, hp14, hsv, hsd, hsu, hsl⟩
        walk_at "x"
        refine ⟨ty_list O14.swap.at0, ?_⟩
        walk_at "x"
        have hul : us.length = i := by rw [← hus.length, hms.len]
        refine x_append O14.swap (by omega) (fun H15 O15 => ?_)
        walk_at "x"
        exact LI.mk (s3.trans (s313.trans s14)) O15.swap ⟨ss ++ [st], _, o14, _, _, _, _, rfl, rfl, hp14, (all2_up (s313.trans s14) hus).snoc hsv, hms.next hsd hsu hsl⟩
    · rintro σ' H3 F3 m3 s3 O3 ⟨ss, us, o3, u2, u3, u4, u5, rfl, rfl, hp3, hus, hms⟩
      have s4 := O3.swap.freeze_same
      have O4 := O3.swap.freeze
      have hsl : rList rStrand (upd F3 sl (.lst us)) ss (.ref sl) := ⟨sl, us, rfl, upd_same, all2_up s4 hus⟩
      have hp4 := hp3.up s4
      generalize upd F3 sl (.lst us) = F4 at O4 s4 hsl hp4
      have hlen := hms.len
      walk_at "x"
      refine x_docL (R := rStrand) (S := rInt) O4 hsl (fun i F5 m5 ys => ∃ o5, m5 = (p, o5) :: m ∧ PoolOk F5 o5 ∧ ys.length = i ∧ ∀ y ∈ ys, 0 ≤ y ∧ y ≤ 4) ⟨o3, rfl, hp4, rfl, fun y hy => (nomatch hy)⟩ ?_ ?_ ?_
      · rintro D acc i st z H5 F5 m5 ys hi hz s5 O5 hacc hyl ⟨o5, rfl, hp5, hyi, hyb⟩
        have il := (List.getElem?_eq_some_iff.mp hi).1
        obtain ⟨hsd, hsu⟩ := hms.sd st (List.mem_of_getElem? hi)
        obtain ⟨v1, hv1⟩ : ∃ v1, st[st.length - 1]? = some v1 := ⟨_, List.getElem?_eq_getElem (by have := List.length_pos_iff.mpr hsd.ne; omega)⟩
        have hvm := List.mem_of_getElem? hv1
        obtain ⟨un, hun⟩ : ∃ un, v1.2.1[0]? = some un := ⟨_, List.getElem?_eq_getElem (hsd.vars v1 hvm).pos⟩
        have hub := hsu v1 hvm un (List.mem_of_getElem? hun)
        walk_at "x"
        refine ⟨rfl, ?_⟩
        walk_at "x"
        refine x_iteT rfl ?_
        walk_at "x"
        refine x_lastT (R := rVari) O5 hz hv1 (fun w1 hw1 => ?_)
        walk_at "x"
        refine x_tri1 O5 hw1 (fun w2 hw2 => ?_)
        walk_at "x"
        refine x_ixT (R := rUnit) (j := 0) O5 hw2 rfl hun (fun w3 hw3 => ?_)
        walk_at "x"
        refine x_tri0 O5 hw3 (fun w4 hw4 => ?_)
        have hw4 : w4 = .int un.1 := hw4
        subst hw4
        walk_at "x"
        refine x_keep (S := rInt) (z := un.1 * 2) O5 s5 rfl hacc hyl (by omega) ⟨o5, rfl, hp5, by rw [List.length_append, hyi]; rfl, fun y hy => ?_⟩
        rcases List.mem_append.mp hy with hy | hy
        · exact hyb y hy
        · rw [List.mem_singleton.mp hy]
          omega
      · rintro v5 H5 F5 m5 ys s5 O5 hv5 ⟨o5, rfl, hp5, hyi, hyb⟩
        walk_at "x"
        refine x_sumL O5 hv5 ?_
        walk_at "x"
        have hsum := sum_le hyb
        refine ⟨p, o5, _, F5, _, rfl, O5, hp5, by decide, by decide, fun q H6 o6 q0 q1 O6 hp6 => ?_⟩
        walk_at "x"
        refine x_tupL O6 (up s5 hsl) (fun t7 H7 F7 s7 O7 ht7 => ?_)
        walk_at "x"
        refine x_newPair (R := rInt) (S := rInt) (x := 2) (y := 65) O7 rfl rfl (fun t8 H8 F8 s8 O8 ht8 => ?_)
        walk_at "x"
        refine x_newT (R := rPair rInt rInt) (xs := [(2, 65)]) O8 (by show 1 ≤ _; decide) (.cons ht8 .nil) (fun t9 H9 F9 s9 O9 ht9 => ?_)
        walk_at "x"
        refine x_newT (R := rPair rInt rBool) (xs := []) O9 (Nat.zero_le _) .nil (fun t10 H10 F10 s10 O10 ht10 => ?_)
        walk_at "x"
        refine x_rawL O10 (by show 7 ≤ _; decide) (fun ra H11 F11 s11 hra O11 => ?_)
        walk_at "x"
        have s711 := s8.trans (s9.trans (s10.trans s11))
        refine k (.ref ra) H11 F11 o6 ⟨ss, [(2, 65)], [], ys.sum + q, 1, 1, 1⟩ (s3.trans (s4.trans (s5.trans (s7.trans s711)))) O11 (hp6.up (s7.trans s711)) ⟨ra, t7, t9, t10, rfl, hra, up (R := rStrands) s711 ht7, up (s10.trans s11) ht9, up s11 ht10⟩ ?_
        refine ⟨fun s hs => ⟨0, (hms.sd s hs).1⟩, by show ss.length ≤ 126; omega, ?_, ?_, by show 0 ≤ 10; decide, by show 1 ≤ 4; decide, fun f hf => ?_, fun f hf => (nomatch hf), ⟨by show 0 ≤ ys.sum + q; omega, by show ys.sum + q < 1000; omega⟩, ⟨by show (0 : Int) ≤ 1; decide, by show (1 : Int) ≤ 2; decide⟩, ⟨by show (0 : Int) ≤ 1; decide, by show (1 : Int) < 1000; decide⟩, ⟨by show (0 : Int) ≤ 1; decide, by show (1 : Int) < 1000; decide⟩⟩
        · show manyF ss ≤ 30
          rw [hms.many]
          unfold manyAt
          repeat' split
          all_goals decide
        · show ((ss.take ss.length).map notesOf).sum = 0
          rw [List.take_length, hms.notes]
        · rw [List.mem_singleton.mp hf]
          decide
      · rintro F6 F7 m6 ys j s6 ⟨o6, e6, h6, h7⟩
        exact ⟨o6, e6, h6.up s6, h7⟩
abbrev sGr : Stmt := top 32
abbrev NGr : List Str := ["told", "by", "strands", "strand", "row", "variant", "units", "unit", "gap", "floats", "lines"]
theorem scGr : FnScope NGr ["told", "by"] (defScope sGr) := ⟨rfl, rfl, rfl, by decide +kernel, rfl, by decide +kernel, by decide +kernel⟩
theorem ok_Gr {f : Addr} {fd : FuncData} (F : Fun K "_law_greater" "_law_greater" sGr f fd) (T : Bi mg) : FnOk P w K mg base CX0 1 f fd ["told", "by"] spGreat := by
  refine F.ok scGr (fun vs H Q E h => ?_) (fun cdv A outer s H vs Q E hr h => ?_)
  · obtain ⟨v, b, T, F, m, rfl, _⟩ := h
    rfl
  · obtain ⟨v, b, T', F, m, rfl, rfl, O, hv, td, k⟩ := h
    have hmany := td.many
    have hfF := td.fewF
    have hfL := td.fewL
    refine ⟨_, 
    (pss_cons (ps_set (i := 2) scGr.nd rfl (Or.inl rfl) (pe_lst pa_nil))
    (pss_cons (ps_for PassesOwn.never rfl (pi_tup (pe_ix (r := rIxL K) ix_list (pv 0) pe_int (fun _ _ => rfl))) (pg_name (i := 3) scGr.nd rfl (Or.inl rfl)) 
      (pss_cons (ps_set (i := 4) scGr.nd rfl (Or.inl rfl) (pe_lst pa_nil))
      (pss_cons (ps_for PassesOwn.never rfl (pi_tup (pv 3)) (pg_name (i := 5) scGr.nd rfl (Or.inl rfl)) 
        (pss_cons (ps_set (i := 6) scGr.nd rfl (Or.inl rfl) (pe_lst pa_nil))
        (pss_cons (ps_for PassesOwn.never rfl (pi_tup (pe_ix (r := rIxT K) ix_tup (pv 5) pe_int (fun _ _ => rfl))) (pg_name (i := 7) scGr.nd rfl (Or.inl rfl)) 
          (pss_cons (ps_set (i := 8) scGr.nd rfl (Or.inl rfl) (pe_tup (pa_cons (pe_op op_mul (pe_ix (r := rIxT K) ix_tup (pe_ix (r := rIxT K) ix_tup (pv 7) pe_int (fun _ _ => rfl)) pe_int (fun _ _ => rfl)) (pv 1)) (pa_cons (pe_op op_mul (pe_ix (r := rIxT K) ix_tup (pe_ix (r := rIxT K) ix_tup (pv 7) pe_int (fun _ _ => rfl)) pe_int (fun _ _ => rfl)) (pv 1)) (pa_cons (pe_op op_mul (pe_ix (r := rIxT K) ix_tup (pe_ix (r := rIxT K) ix_tup (pv 7) pe_int (fun _ _ => rfl)) pe_int (fun _ _ => rfl)) (pv 1)) pa_nil)))))
          (pss_one (ps_expr (pe_bm PySem.F.plainAttrs_list PySem.F.slot_list_append PySem.F.type_list_append mt_append (pv 6) (pa_cons (pe_tup (pa_cons (pe_op op_mul (pe_ix (r := rIxT K) ix_tup (pv 7) pe_int (fun _ _ => rfl)) (pv 1)) (pa_cons (pv 8) (pa_cons (pe_ix (r := rIxL K) ix_list (pe_lst (pa_cons (pe_op op_mul (pe_ix (r := rIxT K) ix_tup (pv 7) pe_int (fun _ _ => rfl)) (pv 1)) (pa_cons (pe_un un_neg pe_int) pa_nil))) (pe_callTy (T := "int") cr_int (by rfl) T.b_int (by decide +kernel) (pa_cons (pe_cmpR op_eq (pe_ix (r := rIxT K) ix_tup (pv 7) pe_int (fun _ _ => rfl)) (pe_un un_neg pe_int) (nomark _)) pa_nil)) (fun _ _ => rfl)) pa_nil)))) pa_nil))))))
        (pss_one (ps_expr (pe_bm PySem.F.plainAttrs_list PySem.F.slot_list_append PySem.F.type_list_append mt_append (pv 4) (pa_cons (pe_tup (pa_cons (pe_op op_mul (pe_ix (r := rIxT K) ix_tup (pv 5) pe_int (fun _ _ => rfl)) (pv 1)) (pa_cons (pe_callTy (T := "tuple") (r := rTupOf K) cr_tup (by rfl) T.b_tuple (by decide +kernel) (pa_cons (pv 6) pa_nil)) (pa_cons (pe_ix (r := rIxT K) ix_tup (pv 5) pe_int (fun _ _ => rfl)) pa_nil)))) pa_nil)))))))
      (pss_one (ps_expr (pe_bm PySem.F.plainAttrs_list PySem.F.slot_list_append PySem.F.type_list_append mt_append (pv 2) (pa_cons (pe_callTy (T := "tuple") (r := rTupOf K) cr_tup (by rfl) T.b_tuple (by decide +kernel) (pa_cons (pv 4) pa_nil)) pa_nil)))))))
    (pss_cons (ps_set (i := 9) scGr.nd rfl (Or.inl rfl) (pe_callTy (T := "tuple") (r := rTupOf K) cr_tup (by rfl) T.b_tuple (by decide +kernel) (pa_cons (pe_lc (own := [("row", 4)]) (g := (gName 4)) (tt := tYes) rfl scGr.nd (pi_tup (pe_ix (r := rIxL K) ix_list (pv 0) pe_int (fun _ _ => rfl))) (blkOk_by (N := NGr) (sc := defScope sGr) (by decide +kernel)) (fun _ _ _ _ _ => (pg_name (i := 4) scGr.nd rfl (by first | exact Or.inl rfl | exact Or.inr rfl))) (fun _ _ _ _ _ => pts_nil) (fun _ _ _ _ _ => (pe_tup (pa_cons (pe_op op_mul (pe_ix (r := rIxT K) ix_tup (pv 4) pe_int (fun _ _ => rfl)) (pv 1)) (pa_cons (pe_ix (r := rIxT K) ix_tup (pv 4) pe_int (fun _ _ => rfl)) pa_nil))))) pa_nil)))
    (pss_cons (ps_set (i := 10) scGr.nd rfl (Or.inl rfl) (pe_callTy (T := "tuple") (r := rTupOf K) cr_tup (by rfl) T.b_tuple (by decide +kernel) (pa_cons (pe_lc (own := [("row", 4)]) (g := (gName 4)) (tt := tYes) rfl scGr.nd (pi_tup (pe_ix (r := rIxL K) ix_list (pv 0) pe_int (fun _ _ => rfl))) (blkOk_by (N := NGr) (sc := defScope sGr) (by decide +kernel)) (fun _ _ _ _ _ => (pg_name (i := 4) scGr.nd rfl (by first | exact Or.inl rfl | exact Or.inr rfl))) (fun _ _ _ _ _ => pts_nil) (fun _ _ _ _ _ => (pe_tup (pa_cons (pe_op op_mul (pe_ix (r := rIxT K) ix_tup (pv 4) pe_int (fun _ _ => rfl)) (pv 1)) (pa_cons (pe_ix (r := rIxT K) ix_tup (pv 4) pe_int (fun _ _ => rfl)) pa_nil))))) pa_nil)))
    (pss_one (ps_ret (pe_lst (pa_cons (pe_callTy (T := "tuple") (r := rTupOf K) cr_tup (by rfl) T.b_tuple (by decide +kernel) (pa_cons (pv 2) pa_nil)) (pa_cons (pv 9) (pa_cons (pv 10) (pa_cons (pe_op op_mul (pe_ix (r := rIxL K) ix_list (pv 0) pe_int (fun _ _ => rfl)) (pv 1)) (pa_cons (pe_ix (r := rIxL K) ix_list (pv 0) pe_int (fun _ _ => rfl)) (pa_cons (pe_op op_mul (pe_ix (r := rIxL K) ix_list (pv 0) pe_int (fun _ _ => rfl)) (pv 1)) (pa_cons (pe_op op_mul (pe_ix (r := rIxL K) ix_list (pv 0) pe_int (fun _ _ => rfl)) (pv 1)) pa_nil)))))))))))))), ?_⟩
    walk_at "x"
    refine x_ownL (vs := []) O (Nat.zero_le _) (fun sl H1 hn1 O1 => ?_)
    walk_at "x"
    refine x_lt0 O1 hv (fun sv hsv => ?_)
    refine x_doT (R := rStrand) O1 hsv (fun i σ F' m' => ∃ (us : List V) (u3 u4 u5 u6 u7 u8 u9 u10 : Option V), σ = [some v, some (.int 1000000000000), some (.ref sl), u3, u4, u5, u6, u7, u8, u9, u10] ∧ m' = (sl, .lst us) :: m ∧ All2 (rStrand F') ((T'.strands.take i).map (grS 1000000000000)) us)
      ⟨[], _, _, _, _, _, _, _, _, rfl, rfl, .nil⟩ ?_ ?_
    · rintro i st z σ' H2 F2 m2 hi hz s2 O2 ⟨us, u3, u4, u5, u6, u7, u8, u9, u10, rfl, rfl, hus⟩
      have il := (List.getElem?_eq_some_iff.mp hi).1
      obtain ⟨mn, hsd⟩ := td.strands st (List.mem_of_getElem? hi)
      have hfew := hsd.few
      walk_at "x"
      refine x_ownL (vs := []) O2 (Nat.zero_le _) (fun rl H3 hn3 O3 => ?_)
      walk_at "x"
      refine x_doT (R := rVari) O3 hz (fun j σ F' m' => ∃ (zs : List V) (u5 u6 u7 u8 u9 u10 : Option V), σ = [some v, some (.int 1000000000000), some (.ref sl), some z, some (.ref rl), u5, u6, u7, u8, u9, u10] ∧ m' = (rl, .lst zs) :: (sl, .lst us) :: m ∧ All2 (rVari F') ((st.take j).map (grV 1000000000000)) zs)
        ⟨[], _, _, _, _, _, _, rfl, rfl, .nil⟩ ?_ ?_
      · rintro j va y σ' H4 F4 m4 hj hy s4 O4 ⟨zs, u5, u6, u7, u8, u9, u10, rfl, rfl, hzs⟩
        have jl := (List.getElem?_eq_some_iff.mp hj).1
        have hvd := hsd.vars va (List.mem_of_getElem? hj)
        have hv8 := hvd.few
        walk_at "x"
        refine x_ownL (vs := []) O4 (Nat.zero_le _) (fun ul H5 hn5 O5 => ?_)
        walk_at "x"
        refine x_tri1 O5 hy (fun y1 hy1 => ?_)
        refine x_doT (R := rUnit) O5 hy1 (fun l σ F' m' => ∃ (ws : List V) (u7 u8 u9 u10 : Option V), σ = [some v, some (.int 1000000000000), some (.ref sl), some z, some (.ref rl), some y, some (.ref ul), u7, u8, u9, u10] ∧ m' = (ul, .lst ws) :: (rl, .lst zs) :: (sl, .lst us) :: m ∧ All2 (rUnit F') ((va.2.1.take l).map (grU 1000000000000)) ws)
          ⟨[], _, _, _, _, rfl, rfl, .nil⟩ ?_ ?_
        · rintro l un x σ' H6 F6 m6 hl hx s6 O6 ⟨ws, u7, u8, u9, u10, rfl, rfl, hws⟩
          have ll := (List.getElem?_eq_some_iff.mp hl).1
          walk_at "x"
          refine x_tri1 O6 hx (fun g hg => ?_)
          walk_at "x"
          refine x_tri0 O6 hg (fun g0 hg0 => ?_)
          have hg0 : g0 = .int un.2.1.1 := hg0
          subst hg0
          walk_at "x"
          refine x_tri1 O6 hx (fun g' hg' => ?_)
          walk_at "x"
          refine x_tri1 O6 hg' (fun g1 hg1 => ?_)
          have hg1 : g1 = .int un.2.1.2.1 := hg1
          subst hg1
          walk_at "x"
          refine x_tri1 O6 hx (fun g'' hg'' => ?_)
          walk_at "x"
          refine x_tri2 O6 hg'' (fun g2 hg2 => ?_)
          have hg2 : g2 = .int un.2.1.2.2 := hg2
          subst hg2
          walk_at "x"
          refine x_newTri (R := rInt) (S := rInt) (T := rInt) (x := un.2.1.1 * 1000000000000) (y := un.2.1.2.1 * 1000000000000) (z := un.2.1.2.2 * 1000000000000) O6 rfl rfl rfl (fun gv H7 F7 s7 O7 hgv => ?_)
          walk_at "x"
          refine ⟨ty_list O7.at0, ?_⟩
          walk_at "x"
          refine x_tri0 O7 (up s7 hx) (fun h0 hh0 => ?_)
          have hh0 : h0 = .int un.1 := hh0
          subst hh0
          walk_at "x"
          refine x_tri2 O7 (up s7 hx) (fun c0 hc0 => ?_)
          have hc0 : c0 = .int un.2.2 := hc0
          subst hc0
          walk_at "x"
          refine x_newL (R := rInt) (xs := [un.2.2 * 1000000000000, -1]) O7 (by show 2 ≤ _; decide) (All2.ofmap (f := V.int) (xs := [un.2.2 * 1000000000000, -1])) (fun lv H8 F8 s8 O8 hlv => ?_)
          walk_at "x"
          refine x_tri2 O8 (up (s7.trans s8) hx) (fun c1 hc1 => ?_)
          have hc1 : c1 = .int un.2.2 := hc1
          subst hc1
          walk_at "x"
          have hidx : ([un.2.2 * 1000000000000, -1] : List Int)[if decide (un.2.2 = -1) = true then 1 else 0]? = some (if un.2.2 = -1 then -1 else un.2.2 * 1000000000000) := by
            by_cases e : un.2.2 = -1
            · rw [if_pos (decide_eq_true e), if_pos e]
              rfl
            · rw [if_neg (by simpa using e), if_neg e]
              rfl
          refine x_ixL (R := rInt) (j := if decide (un.2.2 = -1) = true then 1 else 0) O8 hlv (by split <;> rfl) hidx (fun c2 hc2 => ?_)
          have hc2 : c2 = .int (if un.2.2 = -1 then -1 else un.2.2 * 1000000000000) := hc2
          subst hc2
          walk_at "x"
          refine x_newTri (R := rInt) (S := rTri rInt rInt rInt) (T := rInt) (x := un.1 * 1000000000000) (y := (un.2.1.1 * 1000000000000, un.2.1.2.1 * 1000000000000, un.2.1.2.2 * 1000000000000)) (z := if un.2.2 = -1 then -1 else un.2.2 * 1000000000000) O8 rfl (up s8 hgv) rfl (fun uv H9 F9 s9 O9 huv => ?_)
          walk_at "x"
          have hwl : ws.length ≤ 8 := by
            rw [← hws.length, List.length_map, List.length_take]
            omega
          refine x_append O9 (by omega) (fun H10 O10 => ?_)
          walk_at "x"
          have s69 := s7.trans (s8.trans s9)
          refine LI.mk (s6.trans s69) O10 ⟨_, _, _, _, _, rfl, rfl, ?_⟩
          rw [List.take_add_one, hl, List.map_append]
          exact (all2_up s69 hws).snoc huv
        · rintro σ' H6 F6 m6 s6 O6 ⟨ws, u7, u8, u9, u10, rfl, rfl, hws⟩
          rw [List.take_length] at hws
          walk_at "x"
          refine ⟨ty_list O6.swap.at0, ?_⟩
          walk_at "x"
          refine x_tri0 O6 (up s6 hy) (fun c0 hc0 => ?_)
          have hc0 : c0 = .int va.1 := hc0
          subst hc0
          walk_at "x"
          refine x_tupM (us := ws) O6 (.inr (.inr List.mem_cons_self)) (fun t7 H7 F7 s7 O7 ht7 => ?_)
          walk_at "x"
          refine x_tri2 O7 (up (s6.trans s7) hy) (fun n0 hn0 => ?_)
          walk_at "x"
          refine x_newTri (R := rInt) (S := rTup rUnit) (T := rTup rInt) (x := va.1 * 1000000000000) (y := va.2.1.map (grU 1000000000000)) (z := va.2.2) O7 rfl ⟨t7, ws, rfl, ht7, all2_up s7 hws⟩ hn0 (fun vv H8 F8 s8 O8 hvv => ?_)
          walk_at "x"
          have hzl : zs.length ≤ 3 := by
            rw [← hzs.length, List.length_map, List.length_take]
            omega
          refine x_append O8.swap (by omega) (fun H9 O9 => ?_)
          walk_at "x"
          have s48 := s6.trans (s7.trans s8)
          refine LI.mk (s4.trans s48) (O9.less (List.Sublist.cons₂ _ (List.sublist_cons_self _ _))) ⟨_, _, _, _, _, _, _, rfl, rfl, ?_⟩
          rw [List.take_add_one, hj, List.map_append]
          exact (all2_up s48 hzs).snoc hvv
      · rintro σ' H4 F4 m4 s4 O4 ⟨zs, u5, u6, u7, u8, u9, u10, rfl, rfl, hzs⟩
        rw [List.take_length] at hzs
        walk_at "x"
        refine ⟨ty_list O4.swap.at0, ?_⟩
        walk_at "x"
        refine x_tupM (us := zs) O4 (.inr (.inr List.mem_cons_self)) (fun t5 H5 F5 s5 O5 ht5 => ?_)
        walk_at "x"
        have hul : us.length ≤ 126 := by
          rw [← hus.length, List.length_map, List.length_take]
          omega
        refine x_append O5.swap (by omega) (fun H6 O6 => ?_)
        walk_at "x"
        refine LI.mk (s2.trans (s4.trans s5)) (O6.less (List.Sublist.cons₂ _ (List.sublist_cons_self _ _))) ⟨_, _, _, _, _, _, _, _, _, rfl, rfl, ?_⟩
        rw [List.take_add_one, hi, List.map_append]
        exact (all2_up (s4.trans s5) hus).snoc ⟨t5, zs, rfl, ht5, all2_up s5 hzs⟩
    · rintro σ' H2 F2 m2 s2 O2 ⟨us, u3, u4, u5, u6, u7, u8, u9, u10, rfl, rfl, hus⟩
      rw [List.take_length] at hus
      have hv2 := up s2 hv
      walk_at "x"
      refine x_lt1 O2 hv2 (fun fv hfv => ?_)
      refine x_docT (R := rPair rInt rInt) (S := rPair rInt rInt) O2 hfv (fun i F5 m5 ys => m5 = (sl, .lst us) :: m ∧ ys = (T'.floats.take i).map fun f => (f.1 * 1000000000000, f.2)) ⟨rfl, by simp⟩ ?_ ?_
      · rintro D acc i q z H3 F3 m3 ys hi hz s3 O3 hacc hyl ⟨rfl, rfl⟩
        have il := (List.getElem?_eq_some_iff.mp hi).1
        walk_at "x"
        refine ⟨rfl, ?_⟩
        walk_at "x"
        refine x_iteT rfl ?_
        walk_at "x"
        refine x_fst O3 hz (fun c0 hc0 => ?_)
        have hc0 : c0 = .int q.1 := hc0
        subst hc0
        walk_at "x"
        refine x_snd O3 hz (fun c1 hc1 => ?_)
        walk_at "x"
        refine x_newPair (R := rInt) (S := rInt) (x := q.1 * 1000000000000) (y := q.2) O3 rfl hc1 (fun r4 H4 F4 s4 O4 hr4 => ?_)
        refine x_keep (S := rPair rInt rInt) O4 (s3.trans s4) hr4 (all2_up s4 hacc) hyl (by omega) ⟨rfl, ?_⟩
        rw [List.take_add_one, hi, List.map_append]
        rfl
      · rintro fv2 H3 F3 m3 ys s3 O3 hfv2 ⟨rfl, rfl⟩
        rw [List.take_length] at hfv2
        walk_at "x"
        refine x_tupL O3 hfv2 (fun t4 H4 F4 s4 O4 ht4 => ?_)
        walk_at "x"
        have s34 := s3.trans s4
        refine x_lt2 O4 (up s34 hv2) (fun lv hlv => ?_)
        refine x_docT (R := rPair rInt rBool) (S := rPair rInt rBool) O4 hlv (fun i F5 m5 ys => m5 = (sl, .lst us) :: m ∧ ys = (T'.lines.take i).map fun f => (f.1 * 1000000000000, f.2)) ⟨rfl, by simp⟩ ?_ ?_
        · rintro D acc i q z H5 F5 m5 ys hi hz s5 O5 hacc hyl ⟨rfl, rfl⟩
          have il := (List.getElem?_eq_some_iff.mp hi).1
          walk_at "x"
          refine ⟨rfl, ?_⟩
          walk_at "x"
          refine x_iteT rfl ?_
          walk_at "x"
          refine x_fst O5 hz (fun c0 hc0 => ?_)
          have hc0 : c0 = .int q.1 := hc0
          subst hc0
          walk_at "x"
          refine x_snd O5 hz (fun c1 hc1 => ?_)
          walk_at "x"
          refine x_newPair (R := rInt) (S := rBool) (x := q.1 * 1000000000000) (y := q.2) O5 rfl hc1 (fun r6 H6 F6 s6 O6 hr6 => ?_)
          refine x_keep (S := rPair rInt rBool) O6 (s5.trans s6) hr6 (all2_up s6 hacc) hyl (by omega) ⟨rfl, ?_⟩
          rw [List.take_add_one, hi, List.map_append]
          rfl
        · rintro lv2 H5 F5 m5 ys s5 O5 hlv2 ⟨rfl, rfl⟩
          rw [List.take_length] at hlv2
          walk_at "x"
          refine x_tupL O5 hlv2 (fun t6 H6 F6 s6 O6 ht6 => ?_)
          walk_at "x"
          refine x_tupM (us := us) O6 (.inr (.inr List.mem_cons_self)) (fun t7 H7 F7 s7 O7 ht7 => ?_)
          walk_at "x"
          have s57 := s5.trans (s6.trans s7)
          have hv7 := up (s34.trans s57) hv2
          refine x_lt3 O7 hv7 ?_
          walk_at "x"
          refine x_lt4 O7 hv7 ?_
          walk_at "x"
          refine x_lt5 O7 hv7 ?_
          walk_at "x"
          refine x_lt6 O7 hv7 ?_
          walk_at "x"
          refine x_rawL O7 (by show 7 ≤ _; decide) (fun ra H8 F8 s8 hra O8 => ?_)
          walk_at "x"
          have s58 := s57.trans s8
          exact k (.ref ra) H8 F8 (s2.trans (s34.trans s58)) O8.tail ⟨ra, .ref t7, t4, t6, rfl, hra, ⟨t7, us, rfl, s8 _ _ ht7, all2_up (s34.trans s58) hus⟩, up s58 ht4, up (s7.trans s8) ht6⟩
end
end Tf
namespace Tf
open PySem PySem.Spec PyProof.Rows L2
section
variable {P : Program} {w : World} {K : PySem.W.Frag} {mg : Str → Option Value} {base : Heap}
abbrev sLv : Stmt := top 33
abbrev NLv : List Str := ["told", "k", "m", "variant"]
theorem scLv : FnScope NLv ["told", "k", "m"] (defScope sLv) := ⟨rfl, rfl, rfl, by decide +kernel, rfl, by decide +kernel, by decide +kernel⟩
theorem ok_Lv {f : Addr} {fd : FuncData} (F : Fun K "_law_variant" "_law_variant" sLv f fd) (T : Bi mg) : FnOk P w K mg base CX0 1 f fd ["told", "k", "m"] spLVar := by
  refine F.ok scLv (fun vs H Q E h => ?_) (fun cdv A outer s H vs Q E hr h => ?_)
  · obtain ⟨v, T, k, j, x, F, m, rfl, _⟩ := h
    rfl
  · obtain ⟨v, T', k0, j, x, F, m, rfl, O, hv, ok, hk, hx, k⟩ := h
    refine ⟨_, 
    (pss_one (ps_ret (pe_ix (r := rIxL K) ix_list (pe_lc (own := [("variant", 3)]) (g := (gName 3)) rfl scLv.nd (pi_tup (pe_ix (r := rIxT K) ix_tup (pe_ix (r := rIxL K) ix_list (pv 0) pe_int (fun _ _ => rfl)) (pv 1) (fun _ _ => rfl))) (blkOk_by (N := NLv) (sc := defScope sLv) (by decide +kernel)) (fun _ _ _ _ _ => (pg_name (i := 3) scLv.nd rfl (by first | exact Or.inl rfl | exact Or.inr rfl))) (fun _ _ _ _ _ => (pts_one (pt_cmpR op_eq (pe_callB (id := "len") (r := rLen K) cr_len (by rfl) T.b_len (by decide +kernel) (pa_cons (pe_ix (r := rIxT K) ix_tup (pv 3) pe_int (fun _ _ => rfl)) pa_nil)) (pv 2) (nomark _)))) (fun _ _ _ _ _ => (pv 3))) pe_int (fun _ _ => rfl)))), ?_⟩
    walk_at "x"
    refine x_lt0 O hv (fun sv hsv => ?_)
    walk_at "x"
    refine x_ixT (R := rStrand) (j := k0) O hsv rfl (strand_get hk) (fun st hst => ?_)
    have hfew := strand_few ok k0
    refine x_docT (R := rVari) (S := rVari) O hst (fun i F' m' ys => m' = m ∧ ys = ((strand T' k0).take i).filter fun v => decide (v.2.1.length = j)) ⟨rfl, by simp⟩ ?_ ?_
    · rintro D acc i q z H1 F1 m1 ys hi hz s1 O1 hacc hyl ⟨rfl, rfl⟩
      have il := (List.getElem?_eq_some_iff.mp hi).1
      walk_at "x"
      refine ⟨rfl, ?_⟩
      walk_at "x"
      refine x_tri1 O1 hz (fun u hu => ?_)
      walk_at "x"
      refine x_lenT O1 hu ?_
      walk_at "x"
      refine x_iteD (fun h => ?_) (fun h => ?_)
      · walk_at "x"
        refine x_keep (S := rVari) O1 s1 hz hacc hyl (by omega) ⟨rfl, ?_⟩
        rw [filt_take_yes hi (decide_eq_true (by omega))]
      · refine x_skip O1 s1 hacc hyl ⟨rfl, ?_⟩
        rw [filt_take_no hi (decide_eq_false (by omega))]
    · rintro bv H1 F1 m1 ys s1 O1 hbv ⟨rfl, rfl⟩
      rw [List.take_length] at hbv
      walk_at "x"
      refine x_ixL (R := rVari) (j := 0) O1 hbv rfl (find_first hx) (fun r hr => ?_)
      exact k r H1 F1 s1 O1 hr
abbrev sLp : Stmt := top 34
abbrev NLp : List Str := ["told", "found", "k", "variant", "i"]
theorem scLp : FnScope NLp ["told"] (defScope sLp) := ⟨rfl, rfl, rfl, by decide +kernel, rfl, by decide +kernel, by decide +kernel⟩
theorem ok_Lp {f : Addr} {fd : FuncData} (F : Fun K "_law_places" "_law_places" sLp f fd) (T : Bi mg) : FnOk P w K mg base CX0 1 f fd ["told"] spLPlaces := by
  refine F.ok scLp (fun vs H Q E h => ?_) (fun cdv A outer s H vs Q E hr h => ?_)
  · obtain ⟨v, T, F, m, rfl, _⟩ := h
    rfl
  · obtain ⟨v, T', F, m, rfl, O, hv, ok, k⟩ := h
    have hmany := ok.many
    refine ⟨_, 
    (pss_cons (ps_set (i := 1) scLp.nd rfl (Or.inl rfl) (pe_lst pa_nil))
    (pss_cons (ps_for PassesOwn.never rfl (pi_range1 (by rfl) T.b_range (pa_cons (pe_callB (id := "len") (r := rLen K) cr_len (by rfl) T.b_len (by decide +kernel) (pa_cons (pe_ix (r := rIxL K) ix_list (pv 0) pe_int (fun _ _ => rfl)) pa_nil)) pa_nil)) (pg_name (i := 2) scLp.nd rfl (Or.inr rfl)) 
      (pss_cons (ps_expr (pe_bm PySem.F.plainAttrs_list PySem.F.slot_list_append PySem.F.type_list_append mt_append (pv 1) (pa_cons (pe_tup (pa_cons (pv 2) (pa_cons pe_int (pa_cons pe_int pa_nil)))) pa_nil)))
      (pss_one (ps_for PassesOwn.never rfl (pi_tup (pe_ix (r := rIxT K) ix_tup (pe_ix (r := rIxL K) ix_list (pv 0) pe_int (fun _ _ => rfl)) (pv 2) (fun _ _ => rfl))) (pg_name (i := 3) scLp.nd rfl (Or.inr rfl)) 
        (pss_one (ps_set (i := 1) scLp.nd rfl (Or.inl rfl) (pe_op op_cat (pv 1) (pe_lc (own := [("i", 4)]) (g := (gName 4)) (tt := tYes) rfl scLp.nd (pi_range2 (by rfl) T.b_range (pa_cons pe_int (pa_cons (pe_callB (id := "len") (r := rLen K) cr_len (by rfl) T.b_len (by decide +kernel) (pa_cons (pe_ix (r := rIxT K) ix_tup (pv 3) pe_int (fun _ _ => rfl)) pa_nil)) pa_nil))) (blkOk_by (N := NLp) (sc := defScope sLp) (by decide +kernel)) (fun _ _ _ _ _ => (pg_name (i := 4) scLp.nd rfl (by first | exact Or.inl rfl | exact Or.inr rfl))) (fun _ _ _ _ _ => pts_nil) (fun _ _ _ _ _ => (pe_tup (pa_cons (pv 2) (pa_cons (pe_callB (id := "len") (r := rLen K) cr_len (by rfl) T.b_len (by decide +kernel) (pa_cons (pe_ix (r := rIxT K) ix_tup (pv 3) pe_int (fun _ _ => rfl)) pa_nil)) (pa_cons (pv 4) pa_nil)))))))))))))
    (pss_one (ps_ret (pe_op op_cat (pv 1) (pe_lst (pa_cons (pe_tup (pa_cons (pe_callB (id := "len") (r := rLen K) cr_len (by rfl) T.b_len (by decide +kernel) (pa_cons (pe_ix (r := rIxL K) ix_list (pv 0) pe_int (fun _ _ => rfl)) pa_nil)) (pa_cons pe_int (pa_cons pe_int pa_nil)))) pa_nil))))))), ?_⟩
    walk_at "x"
    refine x_ownL (vs := []) O (Nat.zero_le _) (fun f0 H1 hn1 O1 => ?_)
    walk_at "x"
    refine x_lt0 O1 hv (fun sv hsv => ?_)
    walk_at "x"
    refine x_lenT O1 hsv ?_
    walk_at "x"
    refine x_doR1 (n := T'.strands.length) O1 rfl (by omega) (by omega) (fun i σ F' m' => ∃ (fl : Addr) (us : List V) (u2 u3 u4 : Option V), σ = [some v, some (.ref fl), u2, u3, u4] ∧ m' = (fl, .lst us) :: m ∧ All2 (rPl F') (placesUpTo T' i) us)
      ⟨f0, [], _, _, _, rfl, rfl, .nil⟩ ?_ ?_
    · rintro i σ' H2 F2 m2 hi s2 O2 ⟨fl, us, u2, u3, u4, rfl, rfl, hus⟩
      have hpl := placesUpTo_len ok (k := i) (by omega)
      have hul : us.length ≤ 25 * i := by
        rw [← hus.length]
        exact hpl
      walk_at "x"
      refine ⟨ty_list O2.at0, ?_⟩
      walk_at "x"
      refine x_newT (R := rInt) (xs := plL (i, 0, 0)) O2 (by show 3 ≤ _; decide) (All2.ofmap (f := V.int)) (fun pv H3 F3 s3 O3 hpv => ?_)
      have hpv : rPl F3 (i, 0, 0) pv := hpv
      walk_at "x"
      refine x_append O3 (by omega) (fun H4 O4 => ?_)
      walk_at "x"
      have hv4 := up (s2.trans s3) hv
      refine x_lt0 O4 hv4 (fun sv4 hsv4 => ?_)
      walk_at "x"
      refine x_ixT (R := rStrand) (j := i) O4 hsv4 rfl (strand_get hi) (fun st hst => ?_)
      have S := ok.strands _ (strand_mem hi)
      have hfew := S.few
      refine x_doT (R := rVari) O4 hst (fun j σ F' m' => ∃ (fl : Addr) (zs : List V) (u3 u4 : Option V), σ = [some v, some (.ref fl), some (.int (i : Int)), u3, u4] ∧ m' = (fl, .lst zs) :: m ∧ All2 (rPl F') (placesUpTo T' i ++ ((i, 0, 0) :: ((strand T' i).take j).flatMap fun v => (List.range (v.2.1.length - 1)).map fun d => ((i, v.2.1.length, d + 1) : Pl))) zs ∧ zs.length ≤ 25 * i + 1 + 8 * j)
        ⟨fl, _, _, _, rfl, rfl, (all2_up s3 hus).snoc hpv, by rw [List.length_append]; show _ + 1 ≤ _; omega⟩ ?_ ?_
      · rintro j va z σ' H5 F5 m5 hj hz s5 O5 ⟨fl, zs, u3, u4, rfl, rfl, hzs, hzl⟩
        have jl := (List.getElem?_eq_some_iff.mp hj).1
        have Vk := S.vars va (List.mem_of_getElem? hj)
        have hv8 := Vk.few
        have hvp := Vk.pos
        walk_at "x"
        refine x_lcR2 ?_
        walk_at "x"
        refine x_tri1 O5 hz (fun us1 hus1 => ?_)
        walk_at "x"
        refine x_lenT O5 hus1 ?_
        walk_at "x"
        refine x_docR2 (S := rPl) (n := va.2.1.length - 1) O5 (by omega) (by omega) (fun d F6 m6 ys => m6 = (fl, .lst zs) :: m ∧ ys = (List.range d).map fun d => ((i, va.2.1.length, d + 1) : Pl)) ⟨rfl, rfl⟩ ?_ ?_
        · rintro D acc d H6 F6 m6 ys hd s6 O6 hacc hyl ⟨rfl, rfl⟩
          walk_at "x"
          refine ⟨rfl, ?_⟩
          walk_at "x"
          refine x_iteT rfl ?_
          walk_at "x"
          refine x_tri1 O6 (up s6 hz) (fun us2 hus2 => ?_)
          walk_at "x"
          refine x_lenT O6 hus2 ?_
          walk_at "x"
          have ed : (1 : Int) + (d : Int) = ((d + 1 : Nat) : Int) := by omega
          rw [ed]
          refine x_newT (R := rInt) (xs := plL (i, va.2.1.length, d + 1)) O6 (by show 3 ≤ _; decide) (All2.ofmap (f := V.int)) (fun qv H7 F7 s7 O7 hqv => ?_)
          have hqv : rPl F7 (i, va.2.1.length, d + 1) qv := hqv
          refine x_keep (S := rPl) O7 (s6.trans s7) hqv (all2_up s7 hacc) hyl (by omega) ⟨rfl, ?_⟩
          rw [List.range_succ, List.map_append]
          rfl
        · rintro bv H6 F6 m6 ys s6 O6 hbv ⟨rfl, rfl⟩
          walk_at "x"
          refine x_catO (R := rPl) O6 hbv (by rw [List.length_map, List.length_range]; omega) (fun f7 H7 ws O7 hws => ?_)
          walk_at "x"
          refine LI.mk (s5.trans s6) O7 ⟨f7, _, _, _, rfl, rfl, ?_, ?_⟩
          · rw [take_flat_succ hj, ← List.cons_append, ← List.append_assoc]
            exact (all2_up s6 hzs).app hws
          · rw [List.length_append, ← hws.length, List.length_map, List.length_range]
            omega
      · rintro σ' H5 F5 m5 s5 O5 ⟨fl, zs, u3, u4, rfl, rfl, hzs, hzl⟩
        rw [List.take_length] at hzs
        walk_at "x"
        refine LI.mk (s2.trans (s3.trans s5)) O5 ⟨fl, zs, _, _, _, rfl, rfl, ?_⟩
        rw [placesUpTo_succ]
        exact hzs
    · rintro σ' H2 F2 m2 s2 O2 ⟨fl, us, u2, u3, u4, rfl, rfl, hus⟩
      walk_at "x"
      have hpl := placesUpTo_len ok (Nat.le_refl T'.strands.length)
      have hul := hus.length
      have hv2 := up s2 hv
      refine x_lt0 O2 hv2 (fun sv2 hsv2 => ?_)
      walk_at "x"
      refine x_lenT O2 hsv2 ?_
      walk_at "x"
      refine x_newT (R := rInt) (xs := plL (T'.strands.length, 0, 0)) O2 (by show 3 ≤ _; decide) (All2.ofmap (f := V.int)) (fun pv H3 F3 s3 O3 hpv => ?_)
      have hpv : rPl F3 (T'.strands.length, 0, 0) pv := hpv
      walk_at "x"
      refine x_newL (R := rPl) (xs := [(T'.strands.length, 0, 0)]) O3 (by show 1 ≤ _; decide) (.cons hpv .nil) (fun lv H4 F4 s4 O4 hlv => ?_)
      refine x_catO (R := rPl) O4 hlv (by show _ + 1 ≤ _; omega) (fun f5 H5 ws O5 hws => ?_)
      have s6 := O5.freeze_same
      exact k (.ref f5) H5 _ (s2.trans (s3.trans (s4.trans s6))) O5.freeze ⟨f5, _, rfl, upd_same, all2_up s6 ((all2_up (s3.trans s4) hus).app hws)⟩
abbrev sLs : Stmt := top 35
abbrev NLs : List Str := ["told", "found", "place", "f", "s"]
theorem scLs : FnScope NLs ["told"] (defScope sLs) := ⟨rfl, rfl, rfl, by decide +kernel, rfl, by decide +kernel, by decide +kernel⟩
theorem ok_Ls {f f1 : Addr} {fd fd1 : FuncData} (F : Fun K "_law_states" "_law_states" sLs f fd) (T : Bi mg) (C__law_places : Cal P w K mg base "_law_places" 1 f1 fd1 ["told"] spLPlaces) : FnOk P w K mg base CX0 2 f fd ["told"] spLStates := by
  refine F.ok scLs (fun vs H Q E h => ?_) (fun cdv A outer s H vs Q E hr h => ?_)
  · obtain ⟨v, T, F, m, rfl, _⟩ := h
    rfl
  · obtain ⟨v, T', F, m, rfl, O, hv, ok, k⟩ := h
    have hfF := ok.fewF
    have hfL := ok.fewL
    have hpN := places_len ok
    refine ⟨_, 
    (pss_cons (ps_set (i := 1) scLs.nd rfl (Or.inl rfl) (pe_lst pa_nil))
    (pss_cons (ps_for PassesOwn.never rfl (pi_list (pe_call C__law_places.ok (hr.mono (by first | decide | omega)) rfl C__law_places.mg C__law_places.kp C__law_places.bi .nil pass0 (pa_cons (pv 0) pa_nil))) (pg_name (i := 2) scLs.nd rfl (Or.inr rfl)) 
      (pss_one (ps_for PassesOwn.never rfl (pi_range1 (by rfl) T.b_range (pa_cons (pe_op op_add (pe_callB (id := "len") (r := rLen K) cr_len (by rfl) T.b_len (by decide +kernel) (pa_cons (pe_ix (r := rIxL K) ix_list (pv 0) pe_int (fun _ _ => rfl)) pa_nil)) pe_int) pa_nil)) (pg_name (i := 3) scLs.nd rfl (Or.inr rfl)) 
        (pss_one (ps_set (i := 1) scLs.nd rfl (Or.inl rfl) (pe_op op_cat (pv 1) (pe_lc (own := [("s", 4)]) (g := (gName 4)) (tt := tYes) rfl scLs.nd (pi_range1 (by rfl) T.b_range (pa_cons (pe_op op_add (pe_callB (id := "len") (r := rLen K) cr_len (by rfl) T.b_len (by decide +kernel) (pa_cons (pe_ix (r := rIxL K) ix_list (pv 0) pe_int (fun _ _ => rfl)) pa_nil)) pe_int) pa_nil)) (blkOk_by (N := NLs) (sc := defScope sLs) (by decide +kernel)) (fun _ _ _ _ _ => (pg_name (i := 4) scLs.nd rfl (by first | exact Or.inl rfl | exact Or.inr rfl))) (fun _ _ _ _ _ => pts_nil) (fun _ _ _ _ _ => (pe_op (r := rCatA K) op_catA (pv 2) (pe_tup (pa_cons (pv 3) (pa_cons (pv 4) pa_nil))))))))))))
    (pss_one (ps_ret (pv 1))))), ?_⟩
    walk_at "x"
    refine x_newL (R := rSt) (xs := []) O (Nat.zero_le _) .nil (fun f0 H1 F1 s1 O1 hf0 => ?_)
    walk_at "x"
    refine ⟨v, T', F1, _, rfl, O1, up s1 hv, ok, fun pv H2 F2 s2 O2 hpv => ?_⟩
    have hpv2 := hpv
    refine x_doL (R := rPl) O2 hpv (fun i σ F' m' => ∃ (fv : V) (u2 u3 u4 : Option V), σ = [some v, some fv, u2, u3, u4] ∧ m' = m ∧ rList rSt F' (((places T').take i).flatMap fun p => (List.range (T'.floats.length + 1)).flatMap fun f => (List.range (T'.lines.length + 1)).map fun s => ((p.1, p.2.1, p.2.2, f, s) : Sx)) fv)
      ⟨f0, _, _, _, rfl, rfl, up s2 hf0⟩ ?_ ?_
    · rintro i p z σ' H3 F3 m3 hi hz s3 O3 ⟨fv, u2, u3, u4, rfl, rfl, hfv⟩
      have il := (List.getElem?_eq_some_iff.mp hi).1
      walk_at "x"
      have hv3 := up (s1.trans (s2.trans s3)) hv
      refine x_lt1 O3 hv3 (fun fl hfl => ?_)
      walk_at "x"
      refine x_lenT O3 hfl ?_
      walk_at "x"
      refine x_doR1 (n := T'.floats.length + 1) O3 (by omega) (by omega) (by omega) (fun f σ F' m' => ∃ (fv : V) (u3 u4 : Option V), σ = [some v, some fv, some z, u3, u4] ∧ m' = m3 ∧ rList rSt F' ((((places T').take i).flatMap fun p => (List.range (T'.floats.length + 1)).flatMap fun f => (List.range (T'.lines.length + 1)).map fun s => ((p.1, p.2.1, p.2.2, f, s) : Sx)) ++ (List.range f).flatMap fun f => (List.range (T'.lines.length + 1)).map fun s => ((p.1, p.2.1, p.2.2, f, s) : Sx)) fv)
        ⟨fv, _, _, rfl, rfl, by rw [List.range_zero, List.flatMap_nil, List.append_nil]; exact hfv⟩ ?_ ?_
      · rintro f σ' H4 F4 m4 hf s4 O4 ⟨fv, u3, u4, rfl, rfl, hfv⟩
        walk_at "x"
        have hv4 := up s4 hv3
        refine x_lt2 O4 hv4 (fun ll hll => ?_)
        walk_at "x"
        refine x_lenT O4 hll ?_
        walk_at "x"
        refine x_docR1 (S := rSt) (n := T'.lines.length + 1) O4 (by omega) (by omega) (by omega) (fun s F5 m5 ys => m5 = m4 ∧ ys = (List.range s).map fun s => ((p.1, p.2.1, p.2.2, f, s) : Sx)) ⟨rfl, rfl⟩ ?_ ?_
        · rintro D acc s H5 F5 m5 ys hs s5 O5 hacc hyl ⟨rfl, rfl⟩
          walk_at "x"
          refine ⟨rfl, ?_⟩
          walk_at "x"
          refine x_iteT rfl ?_
          walk_at "x"
          refine x_newT (R := rInt) (xs := [(f : Int), (s : Int)]) O5 (by show 2 ≤ _; decide) (All2.ofmap (f := V.int)) (fun tv H6 F6 s6 O6 htv => ?_)
          refine x_catTA O6 (up (R := rTup rInt) (s4.trans (s5.trans s6)) hz) htv (by show 3 + 2 ≤ _; decide) (fun bv H7 F7 s7 O7 hbv => ?_)
          have hbv : rSt F7 (p.1, p.2.1, p.2.2, f, s) bv := hbv
          refine x_keep (S := rSt) O7 (s5.trans (s6.trans s7)) hbv (all2_up (s6.trans s7) hacc) hyl (by omega) ⟨rfl, ?_⟩
          rw [List.range_succ, List.map_append]
          rfl
        · rintro bv H5 F5 m5 ys s5 O5 hbv ⟨rfl, rfl⟩
          walk_at "x"
          have hl1 := flat_len (c := 55) (f := fun p : Pl => (List.range (T'.floats.length + 1)).flatMap fun f => (List.range (T'.lines.length + 1)).map fun s => ((p.1, p.2.1, p.2.2, f, s) : Sx)) ((places T').take i) fun p _ => by
            refine Nat.le_trans (flat_len (c := 11) _ fun f _ => ?_) ?_
            · rw [List.length_map, List.length_range]
              omega
            · rw [List.length_range]
              omega
          have hl2 := flat_len (c := 11) (f := fun f => (List.range (T'.lines.length + 1)).map fun s => ((p.1, p.2.1, p.2.2, f, s) : Sx)) (List.range f) fun f _ => by
            rw [List.length_map, List.length_range]
            omega
          rw [List.length_take] at hl1
          rw [List.length_range] at hl2
          refine x_cat (R := rSt) O5 (up s5 hfv) hbv (by rw [List.length_append, List.length_map, List.length_range]; omega) (fun w6 H6 F6 s6 O6 hw6 => ?_)
          walk_at "x"
          refine LI.mk (s4.trans (s5.trans s6)) O6 ⟨w6, _, _, rfl, rfl, ?_⟩
          rw [range_flat_succ, ← List.append_assoc]
          exact hw6
      · rintro σ' H4 F4 m4 s4 O4 ⟨fv, u3, u4, rfl, rfl, hfv⟩
        walk_at "x"
        refine LI.mk (s3.trans s4) O4 ⟨fv, _, _, _, rfl, rfl, ?_⟩
        rw [take_flat_succ hi]
        exact hfv
    · rintro σ' H3 F3 m3 s3 O3 ⟨fv, u2, u3, u4, rfl, rfl, hfv⟩
      rw [List.take_length] at hfv
      walk_at "x"
      exact k fv H3 F3 (s1.trans (s2.trans s3)) O3 hfv
abbrev sLd : Stmt := top 36
abbrev NLd : List Str := ["told", "state", "lines", "strand", "row"]
theorem scLd : FnScope NLd ["told", "state"] (defScope sLd) := ⟨rfl, rfl, rfl, by decide +kernel, rfl, by decide +kernel, by decide +kernel⟩
theorem ok_Ld {f f1 : Addr} {fd fd1 : FuncData} (F : Fun K "_law_due" "_law_due" sLd f fd) (T : Bi mg) (C__law_variant : Cal P w K mg base "_law_variant" 1 f1 fd1 ["told", "k", "m"] spLVar) : FnOk P w K mg base CX0 2 f fd ["told", "state"] spLDue := by
  refine F.ok scLd (fun vs H Q E h => ?_) (fun cdv A outer s H vs Q E hr h => ?_)
  · obtain ⟨v, w, T, a, F, m, rfl, _⟩ := h
    rfl
  · obtain ⟨v, av, T', a, F, m, rfl, O, hv, ha, ok, hpl, k⟩ := h
    have hfF := ok.fewF
    have hmany := ok.many
    refine ⟨_, 
    (pss_cons (ps_set (i := 2) scLd.nd rfl (Or.inl rfl) (pe_callB (id := "sum") (r := Tf.rSumT K) (Tf.cr_sumT rfl) (by rfl) T.b_sum (by decide +kernel) (pa_cons (pe_lc (own := [("strand", 3)]) (g := (gName 3)) (tt := tYes) rfl scLd.nd (pi_tup (pe_slice sl_tupA (pe_ix (r := rIxL K) ix_list (pv 0) pe_int (fun _ _ => rfl)) po_none (po_some (pe_ix (r := rIxT K) ix_tup (pv 1) pe_int (fun _ _ => rfl))))) (blkOk_by (N := NLd) (sc := defScope sLd) (by decide +kernel)) (fun _ _ _ _ _ => (pg_name (i := 3) scLd.nd rfl (by first | exact Or.inl rfl | exact Or.inr rfl))) (fun _ _ _ _ _ => pts_nil) (fun _ _ _ _ _ => (pe_callB (id := "sum") (r := Tf.rSumT K) (Tf.cr_sumT rfl) (by rfl) T.b_sum (by decide +kernel) (pa_cons (pe_ix (r := rIxT K) ix_tup (pe_ix (r := rIxT K) ix_tup (pv 3) pe_int (fun _ _ => rfl)) pe_int (fun _ _ => rfl)) pa_nil)))) pa_nil)))
    (Tf.pss_cut (ps_if (pt_cmpR op_gt (pe_ix (r := rIxT K) ix_tup (pv 1) pe_int (fun _ _ => rfl)) pe_int (nomark _)) 
      (pss_one (ps_set (i := 2) scLd.nd rfl (Or.inl rfl) (pe_op op_add (pv 2) (pe_callB (id := "sum") (r := Tf.rSumT K) (Tf.cr_sumT rfl) (by rfl) T.b_sum (by decide +kernel) (pa_cons (pe_slice sl_tupA (pe_ix (r := rIxT K) ix_tup (pe_call C__law_variant.ok (hr.mono (by first | decide | omega)) rfl C__law_variant.mg C__law_variant.kp C__law_variant.bi .nil pass0 (pa_cons (pv 0) (pa_cons (pe_ix (r := rIxT K) ix_tup (pv 1) pe_int (fun _ _ => rfl)) (pa_cons (pe_ix (r := rIxT K) ix_tup (pv 1) pe_int (fun _ _ => rfl)) pa_nil)))) pe_int (fun _ _ => rfl)) po_none (po_some (pe_ix (r := rIxT K) ix_tup (pv 1) pe_int (fun _ _ => rfl)))) pa_nil))))) pss_nil)
    (pss_one (ps_ret (pe_lst (pa_cons (pe_callB (id := "len") (r := rLen K) cr_len (by rfl) T.b_len (by decide +kernel) (pa_cons (pe_lc (own := [("row", 4)]) (g := (gName 4)) rfl scLd.nd (pi_tup (pe_ix (r := rIxL K) ix_list (pv 0) pe_int (fun _ _ => rfl))) (blkOk_by (N := NLd) (sc := defScope sLd) (by decide +kernel)) (fun _ _ _ _ _ => (pg_name (i := 4) scLd.nd rfl (by first | exact Or.inl rfl | exact Or.inr rfl))) (fun _ _ _ _ _ => (pts_one (pt_cmpR op_le (pe_ix (r := rIxT K) ix_tup (pv 4) pe_int (fun _ _ => rfl)) (pe_ix (r := rIxT K) ix_tup (pv 1) pe_int (fun _ _ => rfl)) (nomark _)))) (fun _ _ _ _ _ => (pv 4))) pa_nil)) (pa_cons (pv 2) pa_nil))))))), ?_⟩
    walk_at "x"
    refine x_lt0 O hv (fun sv hsv => ?_)
    walk_at "x"
    refine x_ixTI (j := 0) O ha rfl rfl ?_
    refine ⟨_, rfl, ?_⟩
    refine x_slTA O hsv (fun r1 H1 F1 s1 O1 hr1 => ?_)
    rw [cutL_to] at hr1
    have hle := hpl.le
    refine x_docT (R := rStrand) (S := rInt) O1 hr1 (fun i F' m' ys => m' = m ∧ ys = ((T'.strands.take a.1).take i).map notesOf) ⟨rfl, by simp⟩ ?_ ?_
    · rintro D acc i st z H2 F2 m2 ys hi hz s2 O2 hacc hyl ⟨rfl, rfl⟩
      have il := (List.getElem?_eq_some_iff.mp hi).1
      rw [List.length_take] at il
      have S := ok.strands st (List.mem_of_mem_take (List.mem_of_getElem? hi))
      obtain ⟨v0, hv0⟩ : ∃ v0, st[0]? = some v0 := ⟨_, List.getElem?_eq_getElem (List.length_pos_iff.mpr S.ne)⟩
      walk_at "x"
      refine ⟨rfl, ?_⟩
      walk_at "x"
      refine x_iteT rfl ?_
      walk_at "x"
      refine x_ixT (R := rVari) (j := 0) O2 hz rfl hv0 (fun w0 hw0 => ?_)
      walk_at "x"
      refine x_tri2 O2 hw0 (fun w2 hw2 => ?_)
      walk_at "x"
      refine x_sumTp O2 hw2 ?_
      refine x_keep (S := rInt) (z := v0.2.2.sum) O2 s2 rfl hacc hyl (by omega) ⟨rfl, ?_⟩
      rw [List.take_add_one, hi, List.map_append, ← notesOf_first hv0]
      rfl
    · rintro bv H2 F2 m2 ys s2 O2 hbv ⟨rfl, rfl⟩
      rw [List.take_length] at hbv
      walk_at "x"
      refine x_sumL O2 hbv ?_
      have eA : ((T'.strands.take a.1).map notesOf).sum = aheadL T' a.1 := rfl
      rw [eA]
      walk_at "x"
      have s12 := s1.trans s2
      have ha2 := up (R := rTup rInt) s12 ha
      refine x_cut (fun σ' H' => ∃ (F3 : Hp) (u3 u4 : Option V), σ' = [some v, some av, some (.int (dueL T' a.pl)), u3, u4] ∧ Same F2 F3 ∧ Own H' F3 m2) ?_ ?_
      · walk_at "x"
        refine x_ixTI (j := 2) O2 ha2 rfl rfl ?_
        walk_at "x"
        refine x_iteD (fun h => ?_) (fun h => ?_)
        · have h0 : 0 < a.pl.2.2 := by
            have e : a.pl.2.2 = a.2.2.1 := rfl
            omega
          obtain ⟨vv, hvv, hm, V, hl, hlt, hkk⟩ := hpl.var ok h0
          walk_at "x"
          refine x_ixTI (j := 0) O2 ha2 rfl rfl ?_
          walk_at "x"
          refine x_ixTI (j := 1) O2 ha2 rfl rfl ?_
          walk_at "x"
          refine ⟨v, T', a.1, a.2.1, vv, F2, _, rfl, O2, up s12 hv, ok, hkk, hvv, fun r3 H3 F3 s3 O3 hr3 => ?_⟩
          walk_at "x"
          refine x_tri2 O3 hr3 (fun a2 ha2' => ?_)
          walk_at "x"
          refine x_ixTI (j := 2) O3 (up (R := rTup rInt) s3 ha2) rfl rfl ?_
          refine ⟨_, rfl, ?_⟩
          refine x_slTA O3 ha2' (fun r4 H4 F4 s4 O4 hr4 => ?_)
          rw [cutL_to] at hr4
          walk_at "x"
          refine x_sumTp O4 hr4 ?_
          walk_at "x"
          have e : dueL T' a.pl = aheadL T' a.1 + (vv.2.2.take a.2.2.1).sum := by
            unfold dueL
            rw [if_neg (by omega), hvv]
            rfl
          exact ⟨F4, _, _, by rw [e]; rfl, s3.trans s4, O4⟩
        · walk_at "x"
          have e : dueL T' a.pl = aheadL T' a.1 := by
            unfold dueL
            rw [if_pos (by
              have e : a.pl.2.2 = a.2.2.1 := rfl
              omega)]
          exact ⟨F2, _, _, by rw [e]; rfl, Same.refl _, O2⟩
      · rintro σ' H3 ⟨F3, u3, u4, rfl, s3, O3⟩
        have s13 := s12.trans s3
        walk_at "x"
        refine x_lt1 O3 (up s13 hv) (fun fv hfv => ?_)
        refine x_docT (R := rPair rInt rInt) (S := rPair rInt rInt) O3 hfv (fun i F' m' ys => m' = m2 ∧ ys = (T'.floats.take i).filter fun f => decide (f.2 ≤ (a.1 : Int))) ⟨rfl, by simp⟩ ?_ ?_
        · rintro D acc i q z H4 F4 m4 ys hi hz s4 O4 hacc hyl ⟨rfl, rfl⟩
          have il := (List.getElem?_eq_some_iff.mp hi).1
          walk_at "x"
          refine ⟨rfl, ?_⟩
          walk_at "x"
          refine x_snd O4 hz (fun c1 hc1 => ?_)
          have hc1 : c1 = .int q.2 := hc1
          subst hc1
          walk_at "x"
          refine x_ixTI (j := 0) O4 (up (R := rTup rInt) (s3.trans s4) ha2) rfl rfl ?_
          walk_at "x"
          refine x_iteD (fun h => ?_) (fun h => ?_)
          · walk_at "x"
            refine x_keep (S := rPair rInt rInt) O4 s4 hz hacc hyl (by omega) ⟨rfl, ?_⟩
            rw [filt_take_yes hi (decide_eq_true h)]
          · refine x_skip O4 s4 hacc hyl ⟨rfl, ?_⟩
            rw [filt_take_no hi (decide_eq_false h)]
        · rintro bv4 H4 F4 m4 ys s4 O4 hbv4 ⟨rfl, rfl⟩
          rw [List.take_length] at hbv4
          walk_at "x"
          refine x_lenL O4 hbv4 ?_
          walk_at "x"
          refine x_newL (R := rInt) (xs := [(dueF T' a.1 : Int), dueL T' a.pl]) O4 (by show 2 ≤ _; decide) (All2.ofmap (f := V.int) (xs := [(dueF T' a.1 : Int), dueL T' a.pl])) (fun r5 H5 F5 s5 O5 hr5 => ?_)
          exact k r5 H5 F5 (s13.trans (s4.trans s5)) O5 hr5
abbrev sLn : Stmt := top 37
abbrev NLn : List Str := ["told", "state"]
theorem scLn : FnScope NLn ["told", "state"] (defScope sLn) := ⟨rfl, rfl, rfl, by decide +kernel, rfl, by decide +kernel, by decide +kernel⟩
theorem ok_Ln {f f1 : Addr} {fd fd1 : FuncData} (F : Fun K "_law_next" "_law_next" sLn f fd) (T : Bi mg) (C__law_variant : Cal P w K mg base "_law_variant" 1 f1 fd1 ["told", "k", "m"] spLVar) : FnOk P w K mg base CX0 2 f fd ["told", "state"] spLNext := by
  refine F.ok scLn (fun vs H Q E h => ?_) (fun cdv A outer s H vs Q E hr h => ?_)
  · obtain ⟨v, w, T, a, F, m, rfl, _⟩ := h
    rfl
  · obtain ⟨v, av, T', a, F, m, rfl, O, hv, ha, ok, hpl, k⟩ := h
    have hle := hpl.le
    have ea : a.pl.1 = a.1 := rfl
    have eb : a.pl.2.2 = a.2.2.1 := rfl
    refine ⟨_, 
    (pss_cons (ps_if (pt_cmpR op_eq (pe_ix (r := rIxT K) ix_tup (pv 1) pe_int (fun _ _ => rfl)) (pe_callB (id := "len") (r := rLen K) cr_len (by rfl) T.b_len (by decide +kernel) (pa_cons (pe_ix (r := rIxL K) ix_list (pv 0) pe_int (fun _ _ => rfl)) pa_nil)) (nomark _)) 
      (pss_one (ps_ret pe_non)) pss_nil)
    (pss_cons (ps_if (pt_cmpR op_eq (pe_ix (r := rIxT K) ix_tup (pv 1) pe_int (fun _ _ => rfl)) pe_int (nomark _)) 
      (pss_one (ps_ret (pe_ix (r := rIxT K) ix_tup (pe_ix (r := rIxT K) ix_tup (pe_ix (r := rIxT K) ix_tup (pe_ix (r := rIxT K) ix_tup (pe_ix (r := rIxT K) ix_tup (pe_ix (r := rIxL K) ix_list (pv 0) pe_int (fun _ _ => rfl)) (pe_ix (r := rIxT K) ix_tup (pv 1) pe_int (fun _ _ => rfl)) (fun _ _ => rfl)) pe_int (fun _ _ => rfl)) pe_int (fun _ _ => rfl)) pe_int (fun _ _ => rfl)) pe_int (fun _ _ => rfl)))) pss_nil)
    (pss_one (ps_ret (pe_ix (r := rIxT K) ix_tup (pe_ix (r := rIxT K) ix_tup (pe_ix (r := rIxT K) ix_tup (pe_call C__law_variant.ok (hr.mono (by first | decide | omega)) rfl C__law_variant.mg C__law_variant.kp C__law_variant.bi .nil pass0 (pa_cons (pv 0) (pa_cons (pe_ix (r := rIxT K) ix_tup (pv 1) pe_int (fun _ _ => rfl)) (pa_cons (pe_ix (r := rIxT K) ix_tup (pv 1) pe_int (fun _ _ => rfl)) pa_nil)))) pe_int (fun _ _ => rfl)) (pe_ix (r := rIxT K) ix_tup (pv 1) pe_int (fun _ _ => rfl)) (fun _ _ => rfl)) pe_int (fun _ _ => rfl)))))), ?_⟩
    walk_at "x"
    refine x_ixTI (j := 0) O ha rfl rfl ?_
    walk_at "x"
    refine x_lt0 O hv (fun sv hsv => ?_)
    walk_at "x"
    refine x_lenT O hsv ?_
    walk_at "x"
    unfold nextC at k
    refine x_iteD (fun h => ?_) (fun h => ?_)
    · rw [if_pos (by omega)] at k
      walk_at "x"
      exact k H F (Same.refl F) O
    rw [if_neg (by omega)] at k
    have hk : a.1 < T'.strands.length := by
      have e : a.pl.1 = a.1 := rfl
      omega
    walk_at "x"
    refine x_ixTI (j := 2) O ha rfl rfl ?_
    walk_at "x"
    refine x_iteD (fun hi => ?_) (fun hi => ?_)
    · rw [if_pos (by omega)] at k
      have S := ok.strands _ (strand_mem hk)
      obtain ⟨v0, hv0⟩ : ∃ v0, (strand T' a.1)[0]? = some v0 := ⟨_, List.getElem?_eq_getElem (List.length_pos_iff.mpr S.ne)⟩
      obtain ⟨u0, hu0⟩ : ∃ u0, v0.2.1[0]? = some u0 := ⟨_, List.getElem?_eq_getElem (S.vars v0 (List.mem_of_getElem? hv0)).pos⟩
      walk_at "x"
      refine x_lt0 O hv (fun sv2 hsv2 => ?_)
      walk_at "x"
      refine x_ixTI (j := 0) O ha rfl rfl ?_
      refine x_ixT (R := rStrand) (j := a.1) O hsv2 rfl (strand_get hk) (fun st hst => ?_)
      walk_at "x"
      refine x_ixT (R := rVari) (j := 0) O hst rfl hv0 (fun vv hvv => ?_)
      walk_at "x"
      refine x_tri1 O hvv (fun us hus => ?_)
      walk_at "x"
      refine x_ixT (R := rUnit) (j := 0) O hus rfl hu0 (fun uu huu => ?_)
      walk_at "x"
      refine x_tri2 O huu (fun c hc => ?_)
      have hc : c = .int u0.2.2 := hc
      subst hc
      have e : ((strand T' a.pl.1)[0]?).bind (fun v => (v.2.1[0]?).map (·.2.2)) = some u0.2.2 := by
        have e : a.pl.1 = a.1 := rfl
        rw [e, hv0]
        show (v0.2.1[0]?).map _ = _
        rw [hu0]
        rfl
      rw [e] at k
      exact k H F (Same.refl F) O
    · rw [if_neg (by omega)] at k
      have h0 : 0 < a.pl.2.2 := by
        have : ¬ ((a.2.2.1 : Int) = 0) := hi
        have e : a.pl.2.2 = a.2.2.1 := rfl
        omega
      obtain ⟨vv, hvv, hm, V, hl, hlt, hkk⟩ := hpl.var ok h0
      walk_at "x"
      refine x_ixTI (j := 0) O ha rfl rfl ?_
      walk_at "x"
      refine x_ixTI (j := 1) O ha rfl rfl ?_
      walk_at "x"
      refine ⟨v, T', a.1, a.2.1, vv, F, m, rfl, O, hv, ok, hkk, hvv, fun r2 H2 F2 s2 O2 hr2 => ?_⟩
      obtain ⟨uu, huu⟩ : ∃ u, vv.2.1[a.2.2.1]? = some u := ⟨_, List.getElem?_eq_getElem (by rw [hl]; exact hlt)⟩
      walk_at "x"
      refine x_tri1 O2 hr2 (fun us hus => ?_)
      walk_at "x"
      refine x_ixTI (j := 2) O2 (up (R := rTup rInt) s2 ha) rfl rfl ?_
      refine x_ixT (R := rUnit) (j := a.2.2.1) O2 hus rfl huu (fun uv huv => ?_)
      walk_at "x"
      refine x_tri2 O2 huv (fun c hc => ?_)
      have hc : c = .int uu.2.2 := hc
      subst hc
      have e : (vari T' a.pl.1 a.pl.2.1).bind (fun v => (v.2.1[a.pl.2.2]?).map (·.2.2)) = some uu.2.2 := by
        rw [hvv]
        show (vv.2.1[a.2.2.1]?).map _ = _
        rw [huu]
        rfl
      rw [e] at k
      exact k H2 F2 s2 O2
end
end Tf
namespace Tf
open PySem PySem.Spec PyProof.Rows L2
theorem varsAt_len {T : Told} (ok : TOk T) (b : Pl) (k : Nat) : (varsAt T b k).length ≤ 3 := by
  unfold varsAt
  split
  · cases vari T b.1 b.2.1 <;> simp
  · exact strand_few ok k
theorem rep_app {x : Int} {c : Prop} [Decidable c] : List.replicate (if c then 1 else 0) x = if c then [x] else [] := by
  split <;> rfl
section
variable {P : Program} {w : World} {K : PySem.W.Frag} {mg : Str → Option Value} {base : Heap}
abbrev sLb : Stmt := top 38
abbrev NLb : List Str := ["a", "b", "k"]
theorem scLb : FnScope NLb ["a", "b"] (defScope sLb) := ⟨rfl, rfl, rfl, by decide +kernel, rfl, by decide +kernel, by decide +kernel⟩
theorem ok_Lb {f : Addr} {fd : FuncData} (F : Fun K "_law_begins" "_law_begins" sLb f fd) (T : Bi mg) : FnOk P w K mg base CX0 1 f fd ["a", "b"] spLBegins := by
  refine F.ok scLb (fun vs H Q E h => ?_) (fun cdv A outer s H vs Q E hr h => ?_)
  · obtain ⟨v, w, T, a, b, F, m, rfl, _⟩ := h
    rfl
  · obtain ⟨av, bv, T', a, b, F, m, rfl, O, ha, hb, ok, hpa, hpb, k⟩ := h
    have hu64 := hr.units
    have hla := hpa.le
    have hlb := hpb.le
    have hmany := ok.many
    have hiff := begins_iff hpa hpb
    have ea1 : a.pl.1 = a.1 := rfl
    have ea2 : a.pl.2.1 = a.2.1 := rfl
    have ea3 : a.pl.2.2 = a.2.2.1 := rfl
    have eb1 : b.pl.1 = b.1 := rfl
    have eb2 : b.pl.2.1 = b.2.1 := rfl
    have eb3 : b.pl.2.2 = b.2.2.1 := rfl
    have e3 : ∀ y : Sx, cutL (stL y) none (some 3) = plL y.pl := fun y => by
      have e := cutL_to (stL y) 3
      have e2 : ((3 : Nat) : Int) = 3 := rfl
      rw [e2] at e
      exact e
    refine ⟨_, 
    (Tf.pss_cut (ps_if (PW.pt (pw_or (pt_cmpR (op_ltD hu64) (pe_slice sl_tupA (pv 1) po_none (po_some pe_int)) (pe_slice sl_tupA (pv 0) po_none (po_some pe_int)) (nomark _)) (pw_or1 (PW.pt (pw_and (pt_cmpR op_eq (pe_ix (r := rIxT K) ix_tup (pv 1) pe_int (fun _ _ => rfl)) (pe_ix (r := rIxT K) ix_tup (pv 0) pe_int (fun _ _ => rfl)) (nomark _)) (pw_and (pt_cmpR op_gt (pe_ix (r := rIxT K) ix_tup (pv 0) pe_int (fun _ _ => rfl)) pe_int (nomark _)) (pw_and1 (PW.pt (pw_or (pt_cmpR op_ne (pe_ix (r := rIxT K) ix_tup (pv 1) pe_int (fun _ _ => rfl)) (pe_ix (r := rIxT K) ix_tup (pv 0) pe_int (fun _ _ => rfl)) (nomark _)) (pw_or1 (pt_cmpR op_lt (pe_ix (r := rIxT K) ix_tup (pv 1) pe_int (fun _ _ => rfl)) (pe_ix (r := rIxT K) ix_tup (pv 0) pe_int (fun _ _ => rfl)) (nomark _)))))))))))) 
      (pss_one (ps_ret pe_non)) pss_nil)
    (pss_one (ps_ret (pe_op op_cat (pe_lc (own := [("k", 2)]) (g := (gName 2)) (tt := tYes) rfl scLb.nd (pi_range2 (by rfl) T.b_range (pa_cons (pe_op op_add (pe_ix (r := rIxT K) ix_tup (pv 0) pe_int (fun _ _ => rfl)) (pe_callTy (T := "int") cr_int (by rfl) T.b_int (by decide +kernel) (pa_cons (pe_cmpR op_gt (pe_ix (r := rIxT K) ix_tup (pv 0) pe_int (fun _ _ => rfl)) pe_int (nomark _)) pa_nil))) (pa_cons (pe_ix (r := rIxT K) ix_tup (pv 1) pe_int (fun _ _ => rfl)) pa_nil))) (blkOk_by (N := NLb) (sc := defScope sLb) (by decide +kernel)) (fun _ _ _ _ _ => (pg_name (i := 2) scLb.nd rfl (by first | exact Or.inl rfl | exact Or.inr rfl))) (fun _ _ _ _ _ => pts_nil) (fun _ _ _ _ _ => (pv 2))) (pe_op op_rep (pe_lst (pa_cons (pe_ix (r := rIxT K) ix_tup (pv 1) pe_int (fun _ _ => rfl)) pa_nil)) (pe_callTy (T := "int") cr_int (by rfl) T.b_int (by decide +kernel) (pa_cons (pe_and (pe_cmpR op_gt (pe_ix (r := rIxT K) ix_tup (pv 1) pe_int (fun _ _ => rfl)) pe_int (nomark _)) (pe_one (pe_not (pe_and (pe_cmpR op_eq (pe_ix (r := rIxT K) ix_tup (pv 1) pe_int (fun _ _ => rfl)) (pe_ix (r := rIxT K) ix_tup (pv 0) pe_int (fun _ _ => rfl)) (nomark _)) (pe_one (pe_cmpR op_gt (pe_ix (r := rIxT K) ix_tup (pv 0) pe_int (fun _ _ => rfl)) pe_int (nomark _))))))) pa_nil))))))), ?_⟩
    walk_at "x"
    refine x_cut (fun σ' H' => ∃ (F1 : Hp) (u2 : Option V), σ' = [some av, some bv, u2] ∧ Same F F1 ∧ Own H' F1 m ∧ follows a.pl b.pl) ?_ ?_
    · walk_at "x"
      refine x_slTA O hb (fun bv1 H1 F1 s1 O1 hbv1 => ?_)
      rw [e3] at hbv1
      walk_at "x"
      refine x_slTA O1 (up (R := rTup rInt) s1 ha) (fun av1 H2 F2 s2 O2 hav1 => ?_)
      rw [e3] at hav1
      have s12 := s1.trans s2
      refine x_ltD (R := rTup rInt) O2 (up (R := rTup rInt) s2 hbv1) hav1 ?_
      have hno : ¬ follows a.pl b.pl → ∀ H' F', Same F F' → Own H' F' m → Q .non H' := fun h H' F' s' O' => by
        rw [if_neg h] at k
        exact k .non H' F' s' O' rfl
      have ha2 := up (R := rTup rInt) s12 ha
      have hb2 := up (R := rTup rInt) s12 hb
      walk_at "x"
      cases hlt : ltL (plL b.pl) (plL a.pl) with
      | true =>
        rw [hlt] at hiff
        refine x_iteT rfl ?_
        refine x_iteT rfl ?_
        walk_at "x"
        exact hno (fun z => by have := (hiff.mpr z).1; cases this) H2 F2 s12 O2
      | false =>
        rw [hlt] at hiff
        refine x_iteF rfl ?_
        walk_at "x"
        refine x_ixTI (j := 0) O2 hb2 rfl rfl ?_
        walk_at "x"
        refine x_ixTI (j := 0) O2 ha2 rfl rfl ?_
        walk_at "x"
        refine x_iteD (fun he => ?_) (fun he => ?_)
        · walk_at "x"
          refine x_ixTI (j := 2) O2 ha2 rfl rfl ?_
          walk_at "x"
          refine x_iteD (fun hi => ?_) (fun hi => ?_)
          · walk_at "x"
            refine x_ixTI (j := 1) O2 hb2 rfl rfl ?_
            walk_at "x"
            refine x_ixTI (j := 1) O2 ha2 rfl rfl ?_
            walk_at "x"
            refine x_iteDn (fun hm => ?_) (fun hm => ?_)
            · refine x_iteT rfl ?_
              walk_at "x"
              exact hno (fun z => (hiff.mpr z).2 ⟨by omega, by omega, .inl (by omega)⟩) H2 F2 s12 O2
            · walk_at "x"
              refine x_ixTI (j := 2) O2 hb2 rfl rfl ?_
              walk_at "x"
              refine x_ixTI (j := 2) O2 ha2 rfl rfl ?_
              walk_at "x"
              refine x_iteD (fun hl => ?_) (fun hl => ?_)
              · walk_at "x"
                exact hno (fun z => (hiff.mpr z).2 ⟨by omega, by omega, .inr (by omega)⟩) H2 F2 s12 O2
              · walk_at "x"
                exact ⟨F2, _, rfl, s12, O2, hiff.mp ⟨rfl, fun z => by omega⟩⟩
          · refine x_iteF rfl ?_
            walk_at "x"
            exact ⟨F2, _, rfl, s12, O2, hiff.mp ⟨rfl, fun z => by omega⟩⟩
        · refine x_iteF rfl ?_
          walk_at "x"
          exact ⟨F2, _, rfl, s12, O2, hiff.mp ⟨rfl, fun z => by omega⟩⟩
    · rintro σ' H1 ⟨F1, u2, rfl, s1, O1, hf⟩
      rw [if_pos hf] at k
      have ha1 := up (R := rTup rInt) s1 ha
      have hb1 := up (R := rTup rInt) s1 hb
      have hnk : (a.1 : Int) + (if decide ((a.2.2.1 : Int) > 0) = true then 1 else 0) = (nextK a.pl : Int) := by
        unfold nextK
        by_cases hi : a.2.2.1 = 0
        · rw [if_neg (by simp; omega), if_pos (by omega)]
          omega
        · rw [if_pos (decide_eq_true (by omega)), if_neg (by omega)]
          omega
      walk_at "x"
      refine x_lcR2 ?_
      walk_at "x"
      refine x_ixTI (j := 0) O1 ha1 rfl rfl ?_
      walk_at "x"
      refine x_ixTI (j := 2) O1 ha1 rfl rfl ?_
      walk_at "x"
      refine x_ixTI (j := 0) O1 hb1 rfl rfl ?_
      walk_at "x"
      rw [hnk]
      have hnl : nextK a.pl ≤ a.1 + 1 := by
        unfold nextK
        split <;> omega
      refine x_docR2 (S := rInt) (n := b.1 - nextK a.pl) O1 (by omega) (by omega) (fun d F6 m6 ys => m6 = m ∧ ys = (List.range d).map fun d => ((nextK a.pl + d : Nat) : Int)) ⟨rfl, rfl⟩ ?_ ?_
      · rintro D acc d H6 F6 m6 ys hd s6 O6 hacc hyl ⟨rfl, rfl⟩
        walk_at "x"
        refine ⟨rfl, ?_⟩
        walk_at "x"
        refine x_iteT rfl ?_
        walk_at "x"
        refine x_keep (S := rInt) (z := ((nextK a.pl + d : Nat) : Int)) O6 s6 (by show V.int _ = V.int _; congr 1) hacc hyl (by omega) ⟨rfl, ?_⟩
        rw [List.range_succ, List.map_append]
        rfl
      · rintro cv H6 F6 m6 ys s6 O6 hcv ⟨rfl, rfl⟩
        have hb6 := up (R := rTup rInt) s6 hb1
        have ha6 := up (R := rTup rInt) s6 ha1
        walk_at "x"
        refine x_ixTI (j := 0) O6 hb6 rfl rfl ?_
        walk_at "x"
        refine x_newL (R := rInt) (xs := [(b.1 : Int)]) O6 (by show 1 ≤ _; decide) (.cons rfl .nil) (fun lv H7 F7 s7 O7 hlv => ?_)
        have hb7 := up (R := rTup rInt) s7 hb6
        have ha7 := up (R := rTup rInt) s7 ha6
        have fin : ∀ c : Bool, c = decide (0 < b.pl.2.2 ∧ ¬ (b.pl.1 = a.pl.1 ∧ 0 < a.pl.2.2)) → rRep lv (.int (if c = true then 1 else 0)) H7 (fun y H2 => rCat cv y H2 Q) := fun c hc => by
          refine x_rep1 (R := rInt) (n := if 0 < b.pl.2.2 ∧ ¬ (b.pl.1 = a.pl.1 ∧ 0 < a.pl.2.2) then 1 else 0) O7 hlv (by
            rw [hc]
            by_cases h : 0 < b.pl.2.2 ∧ ¬ (b.pl.1 = a.pl.1 ∧ 0 < a.pl.2.2)
            · rw [if_pos h, if_pos (decide_eq_true h)]
              rfl
            · rw [if_neg h, if_neg (by simpa using h)]
              rfl) (by split <;> decide) (fun rw_ H8 F8 us hn8 s8 O8 hus => ?_)
          have s9 := O8.freeze_same
          have O9 := O8.freeze
          rw [rep_app] at hus
          refine x_cat (R := rInt) O9 (up (s7.trans (s8.trans s9)) hcv) ⟨rw_, us, rfl, upd_same, all2_up s9 hus⟩ (by rw [List.length_map, List.length_range]; split <;> (first | (show _ + 1 ≤ _; omega) | (show _ + 0 ≤ _; omega))) (fun r H10 F10 s10 O10 hr10 => ?_)
          refine k r H10 F10 (s1.trans (s6.trans (s7.trans (s8.trans (s9.trans s10))))) O10 ?_
          show rList rInt F10 ((beginsL a.pl b.pl).map fun k : Nat => (k : Int)) r
          unfold beginsL
          rw [List.map_append, List.map_map]
          have e : (List.map (fun k : Nat => (k : Int)) (if 0 < b.pl.2.2 ∧ ¬ (b.pl.1 = a.pl.1 ∧ 0 < a.pl.2.2) then [b.pl.1] else [])) = if 0 < b.pl.2.2 ∧ ¬ (b.pl.1 = a.pl.1 ∧ 0 < a.pl.2.2) then [(b.1 : Int)] else [] := by
            split <;> rfl
          rw [e]
          exact hr10
        walk_at "x"
        refine x_ixTI (j := 2) O7 hb7 rfl rfl ?_
        walk_at "x"
        refine x_iteD (fun hi => ?_) (fun hi => ?_)
        · walk_at "x"
          refine x_ixTI (j := 0) O7 hb7 rfl rfl ?_
          walk_at "x"
          refine x_ixTI (j := 0) O7 ha7 rfl rfl ?_
          walk_at "x"
          refine x_iteD (fun he => ?_) (fun he => ?_)
          · walk_at "x"
            refine x_ixTI (j := 2) O7 ha7 rfl rfl ?_
            walk_at "x"
            refine fin _ ?_
            by_cases h : a.2.2.1 = 0
            · rw [decide_eq_false (by omega), decide_eq_true ⟨by omega, fun z => by omega⟩]
              rfl
            · rw [decide_eq_true (by omega), decide_eq_false (fun z => z.2 ⟨by omega, by omega⟩)]
              rfl
          · walk_at "x"
            refine fin _ ?_
            rw [decide_eq_true ⟨by omega, fun z => by omega⟩]
            rfl
        · walk_at "x"
          refine fin _ ?_
          rw [decide_eq_false (fun z => by omega)]
abbrev sLf : Stmt := top 39
abbrev NLf : List Str := ["told", "b", "begins", "found", "k", "sizes", "more", "filling", "variant", "m"]
theorem scLf : FnScope NLf ["told", "b", "begins"] (defScope sLf) := ⟨rfl, rfl, rfl, by decide +kernel, rfl, by decide +kernel, by decide +kernel⟩
theorem ok_Lf {f : Addr} {fd : FuncData} (F : Fun K "_law_fillings" "_law_fillings" sLf f fd) (T : Bi mg) : FnOk P w K mg base CX0 1 f fd ["told", "b", "begins"] spLFills := by
  refine F.ok scLf (fun vs H Q E h => ?_) (fun cdv A outer s H vs Q E hr h => ?_)
  · obtain ⟨v, w, z, T, a, b, F, m, rfl, _⟩ := h
    rfl
  · obtain ⟨v, bv, kv, T', a, b, F, m, rfl, O, hv, hb, hk, ok, hpa, hpb, hf, k⟩ := h
    have hkl := begins_len ok (a := a) hpb
    refine ⟨_, 
    (pss_cons (ps_set (i := 3) scLf.nd rfl (Or.inl rfl) (pe_lst (pa_cons (pe_tup pa_nil) pa_nil)))
    (pss_cons (ps_for PassesOwn.never rfl (pi_list (pv 2)) (pg_name (i := 4) scLf.nd rfl (Or.inl rfl)) 
      (pss_cons (ps_setLc (i := 5) (own := [("variant", 8)]) (g := (gName 8)) (tt := tYes) rfl scLf.nd rfl rfl (sw_true rfl rfl rfl (by decide +kernel)) (pi_tup (pe_ix (r := rIxT K) ix_tup (pe_ix (r := rIxL K) ix_list (pv 0) pe_int (fun _ _ => rfl)) (pv 4) (fun _ _ => rfl))) (blkOk_by (N := NLf) (sc := defScope sLf) (by decide +kernel)) (fun _ _ _ _ _ => (pg_name (i := 8) scLf.nd rfl (by first | exact Or.inl rfl | exact Or.inr rfl))) (fun _ _ _ _ _ => pts_nil) (fun _ _ _ _ _ => (pe_callB (id := "len") (r := rLen K) cr_len (by rfl) T.b_len (by decide +kernel) (pa_cons (pe_ix (r := rIxT K) ix_tup (pv 8) pe_int (fun _ _ => rfl)) pa_nil))))
      (Tf.pss_cut (ps_if (pt_cmpR op_eq (pv 4) (pe_ix (r := rIxT K) ix_tup (pv 1) pe_int (fun _ _ => rfl)) (nomark _)) 
        (pss_one (ps_set (i := 5) scLf.nd rfl (Or.inl rfl) (pe_lst (pa_cons (pe_ix (r := rIxT K) ix_tup (pv 1) pe_int (fun _ _ => rfl)) pa_nil)))) pss_nil)
      (pss_cons (ps_set (i := 6) scLf.nd rfl (Or.inl rfl) (pe_lst pa_nil))
      (pss_cons (ps_for PassesOwn.never rfl (pi_list (pv 3)) (pg_name (i := 7) scLf.nd rfl (Or.inr rfl)) 
        (pss_one (ps_set (i := 6) scLf.nd rfl (Or.inl rfl) (pe_op op_cat (pv 6) (pe_lc (own := [("m", 9)]) (g := (gName 9)) (tt := tYes) rfl scLf.nd (pi_list (pv 5)) (blkOk_by (N := NLf) (sc := defScope sLf) (by decide +kernel)) (fun _ _ _ _ _ => (pg_name (i := 9) scLf.nd rfl (by first | exact Or.inl rfl | exact Or.inr rfl))) (fun _ _ _ _ _ => pts_nil) (fun _ _ _ _ _ => (pe_op (r := rCatA K) op_catA (pv 7) (pe_tup (pa_cons (pv 9) pa_nil)))))))))
      (pss_one (ps_set (i := 3) scLf.nd rfl (Or.inl rfl) (pv 6))))))))
    (pss_one (ps_ret (pv 3))))), ?_⟩
    walk_at "x"
    refine x_newT (R := rInt) (xs := []) O (Nat.zero_le _) .nil (fun e0 H1 F1 s1 O1 he0 => ?_)
    walk_at "x"
    refine x_newL (R := rTup rInt) (xs := [[]]) O1 (by show 1 ≤ _; decide) (.cons he0 .nil) (fun f0 H2 F2 s2 O2 hf0 => ?_)
    walk_at "x"
    have s02 := s1.trans s2
    refine x_doL (R := rInt) O2 (up (R := rKs) s02 hk) (fun i σ F' m' => ∃ (fv : V) (u4 u5 u6 u7 u8 u9 : Option V), σ = [some v, some bv, some kv, some fv, u4, u5, u6, u7, u8, u9] ∧ m' = m ∧ rList (rTup rInt) F' ((combos T' b.pl ((beginsL a b.pl).take i)).map fillV) fv)
      ⟨f0, _, _, _, _, _, _, rfl, rfl, hf0⟩ ?_ ?_
    · rintro i xk z σ' H3 F3 m3 hi hz s3 O3 ⟨fv, u4, u5, u6, u7, u8, u9, rfl, rfl, hfv⟩
      have hz : z = .int xk := hz
      subst hz
      rw [List.getElem?_map] at hi
      obtain ⟨kk, hkk, rfl⟩ := Option.map_eq_some_iff.mp hi
      have hkm := List.mem_of_getElem? hkk
      have hkt := begins_lt hpb kk hkm
      have hc1 := begins_few ok hpa hpb hf i
      have il := (List.getElem?_eq_some_iff.mp hkk).1
      have hv3 := up (s02.trans s3) hv
      have hsf := strand_few ok kk
      walk_at "x"
      refine x_lt0 O3 hv3 (fun sv hsv => ?_)
      walk_at "x"
      refine x_ixT (R := rStrand) (j := kk) O3 hsv rfl (strand_get hkt) (fun st hst => ?_)
      refine x_docT (R := rVari) (S := rInt) O3 hst (fun j F5 m5 ys => m5 = m3 ∧ ys = ((strand T' kk).take j).map fun v => (v.2.1.length : Int)) ⟨rfl, by simp⟩ ?_ ?_
      · rintro D acc j va x H4 F4 m4 ys hj hx s4 O4 hacc hyl ⟨rfl, rfl⟩
        have jl := (List.getElem?_eq_some_iff.mp hj).1
        walk_at "x"
        refine ⟨rfl, ?_⟩
        walk_at "x"
        refine x_iteT rfl ?_
        walk_at "x"
        refine x_tri1 O4 hx (fun u1 hu1 => ?_)
        walk_at "x"
        refine x_lenT O4 hu1 ?_
        refine x_keep (S := rInt) (z := (va.2.1.length : Int)) O4 s4 rfl hacc hyl (by omega) ⟨rfl, ?_⟩
        rw [List.take_add_one, hj, List.map_append]
        rfl
      · rintro zv H4 F4 m4 ys s4 O4 hzv ⟨rfl, rfl⟩
        rw [List.take_length] at hzv
        walk_at "x"
        refine x_cut (fun σ' H' => ∃ (zv : V) (F5 : Hp) (u6 u7 u8 u9 : Option V), σ' = [some v, some bv, some kv, some fv, some (.int (kk : Int)), some zv, u6, u7, u8, u9] ∧ Same F4 F5 ∧ Own H' F5 m4 ∧ rList rInt F5 ((varsAt T' b.pl kk).map fun v => (v.2.1.length : Int)) zv) ?_ ?_
        · have hb4 := up (R := rTup rInt) (s02.trans (s3.trans s4)) hb
          walk_at "x"
          refine x_ixTI (j := 0) O4 hb4 rfl rfl ?_
          walk_at "x"
          refine x_iteD (fun he => ?_) (fun he => ?_)
          · walk_at "x"
            refine x_ixTI (j := 1) O4 hb4 rfl rfl ?_
            walk_at "x"
            refine x_newL (R := rInt) (xs := [(b.2.1 : Int)]) O4 (by show 1 ≤ _; decide) (.cons rfl .nil) (fun lv H5 F5 s5 O5 hlv => ?_)
            walk_at "x"
            have he2 : kk = b.pl.1 := by
              have e : b.pl.1 = b.1 := rfl
              omega
            have hi0 := begins_last (he2 ▸ hkm)
            obtain ⟨vv, hvv, hvm, V', hvl, hlt, hkk'⟩ := hpb.var ok hi0
            have e2 : varsAt T' b.pl kk = [vv] := by
              unfold varsAt
              rw [if_pos he2, hvv]
              rfl
            refine ⟨lv, F5, _, _, _, _, rfl, s5, O5, ?_⟩
            rw [e2]
            show rList rInt F5 [(vv.2.1.length : Int)] lv
            rw [hvl]
            exact hlv
          · walk_at "x"
            have e2 : varsAt T' b.pl kk = strand T' kk := by
              unfold varsAt
              rw [if_neg (by
                have e : b.pl.1 = b.1 := rfl
                omega)]
            refine ⟨zv, F4, _, _, _, _, rfl, Same.refl _, O4, ?_⟩
            rw [e2]
            exact hzv
        · rintro σ' H5 ⟨zv5, F5, u6', u7', u8', u9', rfl, s5, O5, hzv5⟩
          walk_at "x"
          refine x_newL (R := rTup rInt) (xs := []) O5 (Nat.zero_le _) .nil (fun mv H6 F6 s6 O6 hmv => ?_)
          walk_at "x"
          have s36 := s4.trans (s5.trans s6)
          have hva3 := varsAt_len ok b.pl kk
          refine x_doL (R := rTup rInt) O6 (up s36 hfv) (fun j σ F' m' => ∃ (mv : V) (u7 u8 u9 : Option V), σ = [some v, some bv, some kv, some fv, some (.int (kk : Int)), some zv5, some mv, u7, u8, u9] ∧ m' = m4 ∧ rList (rTup rInt) F' (((combos T' b.pl ((beginsL a b.pl).take i)).take j).flatMap fun vs => (varsAt T' b.pl kk).map fun v => fillV (vs ++ [v])) mv)
            ⟨mv, _, _, _, rfl, rfl, hmv⟩ ?_ ?_
          · rintro j q y σ' H7 F7 m7 hj hy s7 O7 ⟨mv, u7, u8, u9, rfl, rfl, hmv⟩
            rw [List.getElem?_map] at hj
            obtain ⟨cs, hcs, rfl⟩ := Option.map_eq_some_iff.mp hj
            have jl := (List.getElem?_eq_some_iff.mp hcs).1
            have hcl := combos_len (List.mem_of_getElem? hcs)
            rw [List.length_take] at hcl
            walk_at "x"
            refine x_docL (R := rInt) (S := rTup rInt) O7 (up (s6.trans s7) hzv5) (fun d F8 m8 ys => m8 = m7 ∧ ys = ((varsAt T' b.pl kk).take d).map fun v => fillV (cs ++ [v])) ⟨rfl, by simp⟩ ?_ ?_
            · rintro D acc d xm x H8 F8 m8 ys hd hx s8 O8 hacc hyl ⟨rfl, rfl⟩
              have hx : x = .int xm := hx
              subst hx
              rw [List.getElem?_map] at hd
              obtain ⟨va, hva, rfl⟩ := Option.map_eq_some_iff.mp hd
              have dl := (List.getElem?_eq_some_iff.mp hva).1
              walk_at "x"
              refine ⟨rfl, ?_⟩
              walk_at "x"
              refine x_iteT rfl ?_
              walk_at "x"
              refine x_newT (R := rInt) (xs := [(va.2.1.length : Int)]) O8 (by show 1 ≤ _; decide) (.cons rfl .nil) (fun tv H9 F9 s9 O9 htv => ?_)
              refine x_catTA O9 (up (s8.trans s9) hy) htv (by
                unfold fillV
                rw [List.length_map]
                show _ + 1 ≤ _
                omega) (fun cv H10 F10 s10 O10 hcv => ?_)
              refine x_keep (S := rTup rInt) O10 (s8.trans (s9.trans s10)) hcv (all2_up (s9.trans s10) hacc) hyl (by omega) ⟨rfl, ?_⟩
              rw [List.take_add_one, hva, List.map_append, ← fillV_snoc]
              rfl
            · rintro wv H8 F8 m8 ys s8 O8 hwv ⟨rfl, rfl⟩
              rw [List.length_map, List.take_length] at hwv
              walk_at "x"
              refine x_cat (R := rTup rInt) O8 (up s8 hmv) hwv (by
                have := flat_len (c := 3) (f := fun vs => (varsAt T' b.pl kk).map fun v => fillV (vs ++ [v])) ((combos T' b.pl ((beginsL a b.pl).take i)).take j) fun vs _ => by
                  rw [List.length_map]
                  exact hva3
                rw [List.length_take] at this
                rw [List.length_map]
                omega) (fun w9 H9 F9 s9 O9 hw9 => ?_)
              walk_at "x"
              refine LI.mk (s7.trans (s8.trans s9)) O9 ⟨w9, _, _, _, rfl, rfl, ?_⟩
              rw [take_flat_succ hcs]
              exact hw9
          · rintro σ' H7 F7 m7 s7 O7 ⟨mv, u7, u8, u9, rfl, rfl, hmv⟩
            rw [List.length_map, List.take_length] at hmv
            walk_at "x"
            refine LI.mk (s3.trans (s36.trans s7)) O7 ⟨mv, _, _, _, _, _, _, rfl, rfl, ?_⟩
            rw [List.take_add_one, hkk]
            show rList (rTup rInt) F7 ((combos T' b.pl ((beginsL a b.pl).take i ++ [kk])).map fillV) mv
            rw [combos_snoc, List.map_flatMap]
            simp only [List.map_map]
            exact hmv
    · rintro σ' H3 F3 m3 s3 O3 ⟨fv, u4, u5, u6, u7, u8, u9, rfl, rfl, hfv⟩
      rw [List.length_map, List.take_length] at hfv
      walk_at "x"
      exact k fv H3 F3 (s02.trans s3) O3 hfv
end
end Tf
namespace Tf
open PySem PySem.Spec PyProof.Rows L2
theorem unitsAt_len {T : Told} (ok : TOk T) {a b : Pl} (hb : IsPl T b) {k : Nat} {v : VarT} (hk : k ∈ beginsL a b) (hv : v ∈ varsAt T b k) : (unitsAt b k v).length ≤ 8 := by
  have := (vars_find ok hb hk hv).2.few
  unfold unitsAt
  split
  · rw [List.length_take]
    omega
  · exact this
theorem sum_up {c : Int} : ∀ {l : List Int}, (∀ x ∈ l, 0 ≤ x ∧ x ≤ c) → 0 ≤ l.sum ∧ l.sum ≤ c * l.length := fun h => sum_le h
section
variable {P : Program} {w : World} {K : PySem.W.Frag} {mg : Str → Option Value} {base : Heap}
abbrev sLu : Stmt := top 40
abbrev NLu : List Str := ["told", "a", "b", "begins", "filling", "units", "cost", "n", "variant"]
theorem scLu : FnScope NLu ["told", "a", "b", "begins", "filling"] (defScope sLu) := ⟨rfl, rfl, rfl, by decide +kernel, rfl, by decide +kernel, by decide +kernel⟩
theorem ok_Lu {f f1 : Addr} {fd fd1 : FuncData} (F : Fun K "_law_units" "_law_units" sLu f fd) (T : Bi mg) (C__law_variant : Cal P w K mg base "_law_variant" 1 f1 fd1 ["told", "k", "m"] spLVar) : FnOk P w K mg base CX0 2 f fd ["told", "a", "b", "begins", "filling"] spLUnits := by
  refine F.ok scLu (fun vs H Q E h => ?_) (fun cdv A outer s H vs Q E hr h => ?_)
  · obtain ⟨v, av, bv, kv, fv, T, a, b, cs, F, m, rfl, _⟩ := h
    rfl
  · obtain ⟨v, av, bv, kv, fv, T', a, b, cs, F, m, rfl, O, hv, ha, hb, hk, hf, ok, hpa, hpb, hcs, k⟩ := h
    obtain ⟨hcl, hcg⟩ := combos_get hcs
    have hkl := begins_len ok (a := a.pl) hpb
    have hla := hpa.le
    have hmany := ok.many
    have ea1 : a.pl.1 = a.1 := rfl
    have ea2 : a.pl.2.1 = a.2.1 := rfl
    have ea3 : a.pl.2.2 = a.2.2.1 := rfl
    have eb1 : b.pl.1 = b.1 := rfl
    have eb3 : b.pl.2.2 = b.2.2.1 := rfl
    refine ⟨_, 
    (pss_cons (ps_set (i := 5) scLu.nd rfl (Or.inl rfl) (pe_lst pa_nil))
    (pss_cons (ps_set (i := 6) scLu.nd rfl (Or.inl rfl) pe_int)
    (Tf.pss_cut (ps_if (pt_cmpR op_gt (pe_ix (r := rIxT K) ix_tup (pv 1) pe_int (fun _ _ => rfl)) pe_int (nomark _)) 
      (pss_cons (ps_set (i := 5) scLu.nd rfl (Or.inl rfl) (pe_callTy (T := "list") (r := rListOf K) cr_list (by rfl) T.b_list (by decide +kernel) (pa_cons (pe_ix (r := rIxT K) ix_tup (pe_call C__law_variant.ok (hr.mono (by first | decide | omega)) rfl C__law_variant.mg C__law_variant.kp C__law_variant.bi .nil pass0 (pa_cons (pv 0) (pa_cons (pe_ix (r := rIxT K) ix_tup (pv 1) pe_int (fun _ _ => rfl)) (pa_cons (pe_ix (r := rIxT K) ix_tup (pv 1) pe_int (fun _ _ => rfl)) pa_nil)))) pe_int (fun _ _ => rfl)) pa_nil)))
      (Tf.pss_cut (ps_if (pt_cmpR op_eq (pe_ix (r := rIxT K) ix_tup (pv 2) pe_int (fun _ _ => rfl)) (pe_ix (r := rIxT K) ix_tup (pv 1) pe_int (fun _ _ => rfl)) (nomark _)) 
        (pss_one (ps_set (i := 5) scLu.nd rfl (Or.inl rfl) (pe_slice sl_list (pv 5) po_none (po_some (pe_ix (r := rIxT K) ix_tup (pv 2) pe_int (fun _ _ => rfl)))))) pss_nil)
      (pss_one (ps_set (i := 5) scLu.nd rfl (Or.inl rfl) (pe_slice sl_list (pv 5) (po_some (pe_ix (r := rIxT K) ix_tup (pv 1) pe_int (fun _ _ => rfl))) po_none))))) pss_nil)
    (pss_cons (ps_for PassesOwn.never rfl (pi_range1 (by rfl) T.b_range (pa_cons (pe_callB (id := "len") (r := rLen K) cr_len (by rfl) T.b_len (by decide +kernel) (pa_cons (pv 3) pa_nil)) pa_nil)) (pg_name (i := 7) scLu.nd rfl (Or.inl rfl)) 
      (pss_cons (ps_set (i := 8) scLu.nd rfl (Or.inl rfl) (pe_call C__law_variant.ok (hr.mono (by first | decide | omega)) rfl C__law_variant.mg C__law_variant.kp C__law_variant.bi .nil pass0 (pa_cons (pv 0) (pa_cons (pe_ix (r := rIxL K) ix_list (pv 3) (pv 7) (fun _ _ => rfl)) (pa_cons (pe_ix (r := rIxT K) ix_tup (pv 4) (pv 7) (fun _ _ => rfl)) pa_nil)))))
      (pss_cons (ps_set (i := 6) scLu.nd rfl (Or.inl rfl) (pe_op op_add (pv 6) (pe_ix (r := rIxT K) ix_tup (pv 8) pe_int (fun _ _ => rfl))))
      (pss_one (ps_if (pt_cmpR op_eq (pe_ix (r := rIxL K) ix_list (pv 3) (pv 7) (fun _ _ => rfl)) (pe_ix (r := rIxT K) ix_tup (pv 2) pe_int (fun _ _ => rfl)) (nomark _)) 
        (pss_one (ps_set (i := 5) scLu.nd rfl (Or.inl rfl) (pe_op op_cat (pv 5) (pe_callTy (T := "list") (r := rListOf K) cr_list (by rfl) T.b_list (by decide +kernel) (pa_cons (pe_slice sl_tupA (pe_ix (r := rIxT K) ix_tup (pv 8) pe_int (fun _ _ => rfl)) po_none (po_some (pe_ix (r := rIxT K) ix_tup (pv 2) pe_int (fun _ _ => rfl)))) pa_nil))))) 
        (pss_one (ps_set (i := 5) scLu.nd rfl (Or.inl rfl) (pe_op op_cat (pv 5) (pe_callTy (T := "list") (r := rListOf K) cr_list (by rfl) T.b_list (by decide +kernel) (pa_cons (pe_ix (r := rIxT K) ix_tup (pv 8) pe_int (fun _ _ => rfl)) pa_nil))))))))))
    (pss_one (ps_ret (pe_lst (pa_cons (pv 5) (pa_cons (pv 6) pa_nil))))))))), ?_⟩
    walk_at "x"
    refine x_newL (R := rUnit) (xs := []) O (Nat.zero_le _) .nil (fun u0 H1 F1 s1 O1 hu0 => ?_)
    walk_at "x"
    have hv1 := up s1 hv
    have ha1 := up (R := rTup rInt) s1 ha
    have hb1 := up (R := rTup rInt) s1 hb
    have hst8 : (startU T' a.pl b.pl).length ≤ 8 := by
      unfold startU
      split
      · exact Nat.zero_le _
      · next hi =>
        obtain ⟨vv, hvv, hm, Vk, hl, hlt, hkk⟩ := hpa.var ok (by omega)
        have := Vk.few
        rw [hvv]
        split
        · show (List.drop _ (List.take _ vv.2.1)).length ≤ 8
          rw [List.length_drop, List.length_take]
          omega
        · show (List.drop _ vv.2.1).length ≤ 8
          rw [List.length_drop]
          omega
    refine x_cut (fun σ' H' => ∃ (uv : V) (F2 : Hp) (u7 u8 : Option V), σ' = [some v, some av, some bv, some kv, some fv, some uv, some (.int 0), u7, u8] ∧ Same F1 F2 ∧ Own H' F2 m ∧ rList rUnit F2 (startU T' a.pl b.pl) uv) ?_ ?_
    · walk_at "x"
      refine x_ixTI (j := 2) O1 ha1 rfl rfl ?_
      walk_at "x"
      refine x_iteD (fun hi => ?_) (fun hi => ?_)
      · obtain ⟨vv, hvv, hm, Vk, hl, hlt, hkk⟩ := hpa.var ok (by omega)
        walk_at "x"
        refine x_ixTI (j := 0) O1 ha1 rfl rfl ?_
        walk_at "x"
        refine x_ixTI (j := 1) O1 ha1 rfl rfl ?_
        walk_at "x"
        refine ⟨v, T', a.1, a.2.1, vv, F1, m, rfl, O1, hv1, ok, hkk, hvv, fun r2 H2 F2 s2 O2 hr2 => ?_⟩
        walk_at "x"
        refine x_tri1 O2 hr2 (fun us hus => ?_)
        walk_at "x"
        refine x_listT O2 hus (fun lv H3 F3 s3 O3 hlv => ?_)
        walk_at "x"
        have s23 := s2.trans s3
        have hst : startU T' a.pl b.pl = (if b.pl.1 = a.pl.1 then vv.2.1.take b.pl.2.2 else vv.2.1).drop a.pl.2.2 := by
          unfold startU
          rw [if_neg (by omega), hvv]
          split <;> rfl
        refine x_cut (fun σ' H' => ∃ (uv : V) (F4 : Hp) (u7 u8 : Option V), σ' = [some v, some av, some bv, some kv, some fv, some uv, some (.int 0), u7, u8] ∧ Same F3 F4 ∧ Own H' F4 m ∧ rList rUnit F4 (if b.pl.1 = a.pl.1 then vv.2.1.take b.pl.2.2 else vv.2.1) uv) ?_ ?_
        · walk_at "x"
          refine x_ixTI (j := 0) O3 (up (R := rTup rInt) s23 hb1) rfl rfl ?_
          walk_at "x"
          refine x_ixTI (j := 0) O3 (up (R := rTup rInt) s23 ha1) rfl rfl ?_
          walk_at "x"
          refine x_iteD (fun he => ?_) (fun he => ?_)
          · walk_at "x"
            refine x_ixTI (j := 2) O3 (up (R := rTup rInt) s23 hb1) rfl rfl ?_
            refine ⟨_, rfl, ?_⟩
            refine x_slLA O3 hlv (fun r4 H4 F4 s4 O4 hr4 => ?_)
            rw [cutL_to] at hr4
            walk_at "x"
            refine ⟨r4, F4, _, _, rfl, s4, O4, ?_⟩
            rw [if_pos (by omega)]
            exact hr4
          · walk_at "x"
            refine ⟨lv, F3, _, _, rfl, Same.refl _, O3, ?_⟩
            rw [if_neg (by omega)]
            exact hlv
        · rintro σ' H4 ⟨uv, F4, u7, u8, rfl, s4, O4, huv⟩
          walk_at "x"
          refine x_ixTI (j := 2) O4 (up (R := rTup rInt) (s23.trans s4) ha1) rfl rfl ?_
          refine ⟨_, rfl, ?_⟩
          walk_at "x"
          refine x_slLA O4 huv (fun r5 H5 F5 s5 O5 hr5 => ?_)
          rw [cutL_from] at hr5
          walk_at "x"
          refine ⟨r5, F5, _, _, rfl, s23.trans (s4.trans s5), O5, ?_⟩
          rw [hst]
          exact hr5
      · walk_at "x"
        refine ⟨u0, F1, _, _, rfl, Same.refl _, O1, ?_⟩
        have hst : startU T' a.pl b.pl = [] := by
          unfold startU
          rw [if_pos (by omega)]
        rw [hst]
        exact hu0
    · rintro σ' H2 ⟨uv, F2, u7, u8, rfl, s2, O2, huv⟩
      have s02 := s1.trans s2
      walk_at "x"
      refine x_lenL (R := rInt) O2 (up (R := rKs) s02 hk) ?_
      rw [List.length_map]
      walk_at "x"
      refine x_doR1 (n := (beginsL a.pl b.pl).length) O2 rfl (by omega) (by omega) (fun i σ F' m' => ∃ (uv : V) (u7 u8 : Option V), σ = [some v, some av, some bv, some kv, some fv, some uv, some (.int (costV (cs.take i))), u7, u8] ∧ m' = m ∧ rList rUnit F' (unitsV b.pl (startU T' a.pl b.pl) ((beginsL a.pl b.pl).take i) (cs.take i)) uv ∧ (unitsV b.pl (startU T' a.pl b.pl) ((beginsL a.pl b.pl).take i) (cs.take i)).length ≤ 8 + 8 * i)
        ⟨uv, _, _, rfl, rfl, by
          show rList rUnit F2 (_ ++ []) uv
          rw [List.append_nil]
          exact huv, by
          show (_ ++ []).length ≤ _
          rw [List.append_nil]
          omega⟩ ?_ ?_
      · rintro i σ' H3 F3 m3 hi s3 O3 ⟨uv, u7, u8, rfl, rfl, huv, hul⟩
        obtain ⟨kk, hkk⟩ : ∃ kk, (beginsL a.pl b.pl)[i]? = some kk := ⟨_, List.getElem?_eq_getElem hi⟩
        obtain ⟨va, hva⟩ : ∃ va, cs[i]? = some va := ⟨_, List.getElem?_eq_getElem (by omega)⟩
        have hkm := List.mem_of_getElem? hkk
        have hvm := hcg i kk va hkk hva
        obtain ⟨hvf, Vk⟩ := vars_find ok hpb hkm hvm
        have hkt := begins_lt hpb kk hkm
        have hl8 := unitsAt_len ok hpb hkm hvm
        have s03 := s02.trans s3
        walk_at "x"
        refine x_ixL (R := rInt) (j := i) O3 (up (R := rKs) s03 hk) rfl (by rw [List.getElem?_map, hkk]; rfl) (fun z1 hz1 => ?_)
        have hz1 : z1 = .int (kk : Int) := hz1
        subst hz1
        walk_at "x"
        refine x_ixTI (j := i) O3 (up (R := rTup rInt) s03 hf) rfl (by
          unfold fillV
          rw [List.getElem?_map, hva]
          rfl) ?_
        walk_at "x"
        refine ⟨v, T', kk, va.2.1.length, va, F3, _, rfl, O3, up s03 hv, ok, hkt, hvf, fun r4 H4 F4 s4 O4 hr4 => ?_⟩
        walk_at "x"
        refine x_tri0 O4 hr4 (fun c0 hc0 => ?_)
        have hc0 : c0 = .int va.1 := hc0
        subst hc0
        walk_at "x"
        have s04 := s03.trans s4
        have ecost : costV (cs.take (i + 1)) = costV (cs.take i) + va.1 := by
          rw [List.take_add_one, hva]
          exact costV_snoc
        have eunits : unitsV b.pl (startU T' a.pl b.pl) ((beginsL a.pl b.pl).take (i + 1)) (cs.take (i + 1)) = unitsV b.pl (startU T' a.pl b.pl) ((beginsL a.pl b.pl).take i) (cs.take i) ++ unitsAt b.pl kk va := by
          rw [List.take_add_one, hkk, List.take_add_one, hva]
          exact unitsV_snoc (by rw [List.length_take, List.length_take, hcl])
        have fin : ∀ (lv : V) (H5 F5 : Hp), Same F4 F5 → Own H5 F5 m3 → rList rUnit F5 (unitsAt b.pl kk va) lv → rCat uv lv H5 (fun y H6 => LI (fun i σ F' m' => ∃ (uv : V) (u7 u8 : Option V), σ = [some v, some av, some bv, some kv, some fv, some uv, some (.int (costV (cs.take i))), u7, u8] ∧ m' = m3 ∧ rList rUnit F' (unitsV b.pl (startU T' a.pl b.pl) ((beginsL a.pl b.pl).take i) (cs.take i)) uv ∧ (unitsV b.pl (startU T' a.pl b.pl) ((beginsL a.pl b.pl).take i) (cs.take i)).length ≤ 8 + 8 * i) F2 (i + 1) [some v, some av, some bv, some kv, some fv, some y, some (.int (costV (cs.take i) + va.1)), some (.int (i : Int)), some r4] H6) := fun lv H5 F5 s5 O5 hlv => by
          refine x_cat (R := rUnit) O5 (up (s4.trans s5) huv) hlv (by omega) (fun w6 H6 F6 s6 O6 hw6 => ?_)
          refine LI.mk (s3.trans (s4.trans (s5.trans s6))) O6 ⟨w6, _, _, by rw [ecost], rfl, ?_, ?_⟩
          · rw [eunits]
            exact hw6
          · rw [eunits, List.length_append]
            omega
        refine x_ixL (R := rInt) (j := i) O4 (up (R := rKs) s04 hk) rfl (by rw [List.getElem?_map, hkk]; rfl) (fun z1 hz1 => ?_)
        have hz1 : z1 = .int (kk : Int) := hz1
        subst hz1
        walk_at "x"
        refine x_ixTI (j := 0) O4 (up (R := rTup rInt) s04 hb) rfl rfl ?_
        walk_at "x"
        refine x_iteD (fun he => ?_) (fun he => ?_)
        · walk_at "x"
          refine x_tri1 O4 hr4 (fun us hus => ?_)
          walk_at "x"
          refine x_ixTI (j := 2) O4 (up (R := rTup rInt) s04 hb) rfl rfl ?_
          refine ⟨_, rfl, ?_⟩
          refine x_slTA O4 hus (fun r5 H5 F5 s5 O5 hr5 => ?_)
          rw [cutL_to] at hr5
          walk_at "x"
          refine x_listT O5 hr5 (fun lv H6 F6 s6 O6 hlv => ?_)
          walk_at "x"
          refine fin lv H6 F6 (s5.trans s6) O6 ?_
          unfold unitsAt
          rw [if_pos (by omega)]
          exact hlv
        · walk_at "x"
          refine x_tri1 O4 hr4 (fun us hus => ?_)
          walk_at "x"
          refine x_listT O4 hus (fun lv H6 F6 s6 O6 hlv => ?_)
          walk_at "x"
          refine fin lv H6 F6 s6 O6 ?_
          unfold unitsAt
          rw [if_neg (by omega)]
          exact hlv
      · rintro σ' H3 F3 m3 s3 O3 ⟨uv, u7, u8, rfl, rfl, huv, hul⟩
        rw [List.take_length] at huv
        have e : cs.take (beginsL a.pl b.pl).length = cs := by
          rw [← hcl, List.take_length]
        rw [e] at huv ⊢
        walk_at "x"
        refine x_rawL O3 (by show 2 ≤ _; decide) (fun p H4 F4 s4 hp4 O4 => ?_)
        exact k p uv H4 F4 (s02.trans (s3.trans s4)) O4 hp4 (up s4 huv)
abbrev sLx : Stmt := top 41
abbrev NLx : List Str := ["slack", "room"]
theorem scLx : FnScope NLx ["slack", "room"] (defScope sLx) := ⟨rfl, rfl, rfl, by decide +kernel, rfl, by decide +kernel, by decide +kernel⟩
theorem ok_Lx {f : Addr} {fd : FuncData} (F : Fun K "_law_badness" "_law_badness" sLx f fd) (T : Bi mg) : FnOk P w K mg base CX0 1 f fd ["slack", "room"] spBadn := by
  refine F.ok scLx (fun vs H Q E h => ?_) (fun cdv A outer s H vs Q E hr h => ?_)
  · obtain ⟨a, b, rfl, _⟩ := h
    rfl
  · obtain ⟨a, b, rfl, a0, a1, b0, b1, k⟩ := h
    refine ⟨_, 
    (pss_cons (ps_if (pt_cmpR op_eq (pv 0) pe_int (nomark _)) 
      (pss_one (ps_ret pe_int)) pss_nil)
    (pss_cons (ps_if (pt_cmpR op_eq (pv 1) pe_int (nomark _)) 
      (pss_one (ps_ret pe_int)) pss_nil)
    (pss_one (ps_ret (pe_callB (cr_min2 rfl) (by rfl) T.b_min (by decide +kernel) (pa_cons pe_int (pa_cons (pe_op op_fdivW (pe_op op_mul (pe_op op_mul (pe_op op_mul pe_int (pv 0)) (pv 0)) (pv 0)) (pe_op op_mul (pe_op op_mul (pv 1) (pv 1)) (pv 1))) pa_nil))))))), ?_⟩
    unfold badn at k
    walk_at "x"
    refine x_iteD (fun h => ?_) (fun h => ?_)
    · rw [if_pos h] at k
      walk_at "x"
      exact k
    · rw [if_neg h] at k
      walk_at "x"
      refine x_iteD (fun h2 => ?_) (fun h2 => ?_)
      · rw [if_pos h2] at k
        walk_at "x"
        exact k
      · rw [if_neg h2] at k
        walk_at "x"
        refine x_I (L2.wide_div (b := 186) (Int.mul_pos (Int.mul_pos (by omega) (by omega)) (by omega)) (L2.wide_lt (a := 124) (b := 62) (L2.wide_lt (a := 62) (b := 62) (by omega) (by omega)) (by omega)) (by decide) (by decide)) ?_
        walk_at "x"
        exact k
end
end Tf
namespace Tf
open PySem PySem.Spec PyProof.Rows L2
theorem tq_T {K : PySem.W.Frag} {H F : Hp} {m : Mem} {α : Type} {R : Rp α} {xs : List α} {v : V} {Q : Bool → Hp → Prop} (O : Own H F m) (h : rTup R F xs v) (k : Q (!xs.isEmpty) H) : TQ K Q v H := by
  obtain ⟨a, vs, rfl, ha, r⟩ := h
  refine ⟨_, .inr (.inl ⟨vs, .inl (.inl (O.frz ha)), rfl⟩), ?_⟩
  cases r <;> exact k
theorem tq_L {K : PySem.W.Frag} {H F : Hp} {m : Mem} {α : Type} {R : Rp α} {xs : List α} {v : V} {Q : Bool → Hp → Prop} (O : Own H F m) (h : rList R F xs v) (k : Q (!xs.isEmpty) H) : TQ K Q v H := by
  obtain ⟨a, vs, rfl, ha, r⟩ := h
  refine ⟨_, .inl ⟨vs, .inl (.inl (O.frz ha)), rfl⟩, ?_⟩
  cases r <;> exact k
theorem cut_one {α : Type} (xs : List α) : cutL xs (some 1) none = xs.tail := by
  have e := cutL_from xs 1
  have e2 : ((1 : Nat) : Int) = 1 := rfl
  rw [e2] at e
  rw [e, List.drop_one]
theorem tail_cost {us : List UnitT} : (-1 : Int) ∈ us.tail.map (fun y => y.2.2) ↔ ¬ ∀ u ∈ us.tail, u.2.2 ≠ -1 := by
  rw [List.mem_map]
  constructor
  · rintro ⟨u, hu, e⟩ h
    exact h u hu e
  · intro h
    apply Classical.byContradiction
    intro z
    exact h fun u hu e => z ⟨u, hu, e⟩
section
variable {P : Program} {w : World} {K : PySem.W.Frag} {mg : Str → Option Value} {base : Heap}
abbrev sPr : Stmt := top 42
abbrev NPr : List Str := ["told", "a", "b", "units", "floats", "lines", "due", "size", "shrink", "after", "bad", "cost", "waiting", "row"]
theorem scPr : FnScope NPr ["told", "a", "b", "units"] (defScope sPr) := ⟨rfl, rfl, rfl, by decide +kernel, rfl, by decide +kernel, by decide +kernel⟩
theorem ok_Pr {f f1 f2 f3 : Addr} {fd fd1 fd2 fd3 : FuncData} (F : Fun K "_law_price" "_law_price" sPr f fd) (T : Bi mg) (C__law_due : Cal P w K mg base "_law_due" 2 f1 fd1 ["told", "state"] spLDue) (C__law_next : Cal P w K mg base "_law_next" 2 f2 fd2 ["told", "state"] spLNext) (C__law_badness : Cal P w K mg base "_law_badness" 1 f3 fd3 ["slack", "room"] spBadn) :
    FnOk P w K mg base CX0 3 f fd ["told", "a", "b", "units"] spLPrice := by
  refine F.ok scPr (fun vs H Q E h => ?_) (fun cdv A outer s H vs Q E hr h => ?_)
  · obtain ⟨v, av, bv, uv, T, a, b, us, F, m, rfl, _⟩ := h
    rfl
  · obtain ⟨v, av, bv, uv, T', a, b, us, F, m, rfl, O, hv, ha, hb, hu, ok, hsa, hsb, hle3, hle4, hnil, hus, k⟩ := h
    have hu64 := hr.units
    have hfF := ok.fewF
    have hfL := ok.fewL
    have hbF := hsb.2.1
    have hbL := hsb.2.2
    have hul := hus.len
    have htall := ok.tallB
    have hrule := ok.ruleB
    have hfll : ((T'.floats.drop a.2.2.2.1).take (b.2.2.2.1 - a.2.2.2.1)).length = b.2.2.2.1 - a.2.2.2.1 := by
      rw [List.length_take, List.length_drop]
      omega
    have hlll : ((T'.lines.drop a.2.2.2.2).take (b.2.2.2.2 - a.2.2.2.2)).length = b.2.2.2.2 - a.2.2.2.2 := by
      rw [List.length_take, List.length_drop]
      omega
    have hutl : us.tail.length ≤ us.length := by
      rw [List.length_tail]
      omega
    obtain ⟨n, hn⟩ : ∃ n : Nat, dueL T' b.pl = (n : Int) := ⟨(dueL T' b.pl).toNat, by have := dueL_b ok hsb.1; omega⟩
    refine ⟨_, 
    (pss_cons (ps_set (i := 4) scPr.nd rfl (Or.inl rfl) (pe_slice sl_tupA (pe_ix (r := rIxL K) ix_list (pv 0) pe_int (fun _ _ => rfl)) (po_some (pe_ix (r := rIxT K) ix_tup (pv 1) pe_int (fun _ _ => rfl))) (po_some (pe_ix (r := rIxT K) ix_tup (pv 2) pe_int (fun _ _ => rfl)))))
    (pss_cons (ps_set (i := 5) scPr.nd rfl (Or.inl rfl) (pe_slice sl_tupA (pe_ix (r := rIxL K) ix_list (pv 0) pe_int (fun _ _ => rfl)) (po_some (pe_ix (r := rIxT K) ix_tup (pv 1) pe_int (fun _ _ => rfl))) (po_some (pe_ix (r := rIxT K) ix_tup (pv 2) pe_int (fun _ _ => rfl)))))
    (pss_cons (ps_set (i := 6) scPr.nd rfl (Or.inl rfl) (pe_call C__law_due.ok (hr.mono (by first | decide | omega)) rfl C__law_due.mg C__law_due.kp C__law_due.bi .nil pass0 (pa_cons (pv 0) (pa_cons (pv 2) pa_nil))))
    (Tf.pss_cut (ps_if (PW.pt (pw_or (pt_cmpR op_gt (pe_callB (id := "len") (r := rLen K) cr_len (by rfl) T.b_len (by decide +kernel) (pa_cons (pv 4) pa_nil)) (pe_ix (r := rIxL K) ix_list (pv 0) pe_int (fun _ _ => rfl)) (nomark _)) (pw_or (PW.pt (pw_and (pt_tru (pv 4) (by intro _; rfl)) (pw_and1 (pt_cmpR op_gt (pe_ix (r := rIxT K) ix_tup (pv 2) pe_int (fun _ _ => rfl)) (pe_ix (r := rIxL K) ix_list (pv 6) pe_int (fun _ _ => rfl)) (nomark _))))) (pw_or (PW.pt (pw_and (pt_tru (pv 5) (by intro _; rfl)) (pw_and1 (pt_cmpR op_gt (pe_ix (r := rIxT K) ix_tup (pv 2) pe_int (fun _ _ => rfl)) (pe_ix (r := rIxL K) ix_list (pv 6) pe_int (fun _ _ => rfl)) (nomark _))))) (pw_or1 (pt_cmpR op_in_seq (pe_un un_neg pe_int) (pe_lc (own := [("row", 13)]) (g := (gName 13)) (tt := tYes) rfl scPr.nd (pi_list (pe_slice sl_list (pv 3) (po_some pe_int) po_none)) (blkOk_by (N := NPr) (sc := defScope sPr) (by decide +kernel)) (fun _ _ _ _ _ => (pg_name (i := 13) scPr.nd rfl (by first | exact Or.inl rfl | exact Or.inr rfl))) (fun _ _ _ _ _ => pts_nil) (fun _ _ _ _ _ => (pe_ix (r := rIxT K) ix_tup (pv 13) pe_int (fun _ _ => rfl)))) rfl)))))) 
      (pss_one (ps_ret pe_non)) pss_nil)
    (pss_cons (ps_set (i := 7) scPr.nd rfl (Or.inl rfl) (pe_op op_add (pe_callB (id := "sum") (r := Tf.rSumT K) (Tf.cr_sumT rfl) (by rfl) T.b_sum (by decide +kernel) (pa_cons (pe_lc (own := [("row", 13)]) (g := (gName 13)) (tt := tYes) rfl scPr.nd (pi_list (pv 3)) (blkOk_by (N := NPr) (sc := defScope sPr) (by decide +kernel)) (fun _ _ _ _ _ => (pg_name (i := 13) scPr.nd rfl (by first | exact Or.inl rfl | exact Or.inr rfl))) (fun _ _ _ _ _ => pts_nil) (fun _ _ _ _ _ => (pe_ix (r := rIxT K) ix_tup (pv 13) pe_int (fun _ _ => rfl)))) pa_nil)) (pe_callB (id := "sum") (r := Tf.rSumT K) (Tf.cr_sumT rfl) (by rfl) T.b_sum (by decide +kernel) (pa_cons (pe_lc (own := [("row", 13)]) (g := (gName 13)) (tt := tYes) rfl scPr.nd (pi_list (pe_slice sl_list (pv 3) (po_some pe_int) po_none)) (blkOk_by (N := NPr) (sc := defScope sPr) (by decide +kernel)) (fun _ _ _ _ _ => (pg_name (i := 13) scPr.nd rfl (by first | exact Or.inl rfl | exact Or.inr rfl))) (fun _ _ _ _ _ => pts_nil) (fun _ _ _ _ _ => (pe_ix (r := rIxT K) ix_tup (pe_ix (r := rIxT K) ix_tup (pv 13) pe_int (fun _ _ => rfl)) pe_int (fun _ _ => rfl)))) pa_nil))))
    (pss_cons (ps_set (i := 7) scPr.nd rfl (Or.inl rfl) (pe_op op_add (pe_op op_add (pe_op op_add (pv 7) (pe_callB (id := "sum") (r := Tf.rSumT K) (Tf.cr_sumT rfl) (by rfl) T.b_sum (by decide +kernel) (pa_cons (pe_lc (own := [("row", 13)]) (g := (gName 13)) (tt := tYes) rfl scPr.nd (pi_tup (pv 4)) (blkOk_by (N := NPr) (sc := defScope sPr) (by decide +kernel)) (fun _ _ _ _ _ => (pg_name (i := 13) scPr.nd rfl (by first | exact Or.inl rfl | exact Or.inr rfl))) (fun _ _ _ _ _ => pts_nil) (fun _ _ _ _ _ => (pe_op op_add (pe_ix (r := rIxT K) ix_tup (pv 13) pe_int (fun _ _ => rfl)) (pe_ix (r := rIxL K) ix_list (pv 0) pe_int (fun _ _ => rfl))))) pa_nil))) (pe_callB (id := "sum") (r := Tf.rSumT K) (Tf.cr_sumT rfl) (by rfl) T.b_sum (by decide +kernel) (pa_cons (pe_lc (own := [("row", 13)]) (g := (gName 13)) (tt := tYes) rfl scPr.nd (pi_tup (pv 5)) (blkOk_by (N := NPr) (sc := defScope sPr) (by decide +kernel)) (fun _ _ _ _ _ => (pg_name (i := 13) scPr.nd rfl (by first | exact Or.inl rfl | exact Or.inr rfl))) (fun _ _ _ _ _ => pts_nil) (fun _ _ _ _ _ => (pe_ix (r := rIxT K) ix_tup (pv 13) pe_int (fun _ _ => rfl)))) pa_nil))) (pe_op op_mul (pe_ix (r := rIxL K) ix_list (pv 0) pe_int (fun _ _ => rfl)) (pe_callTy (T := "int") cr_int (by rfl) T.b_int (by decide +kernel) (pa_cons (pe_cmpR op_gt (pe_callB (id := "len") (r := rLen K) cr_len (by rfl) T.b_len (by decide +kernel) (pa_cons (pv 5) pa_nil)) pe_int (nomark _)) pa_nil)))))
    (pss_cons (ps_set (i := 8) scPr.nd rfl (Or.inl rfl) (pe_callB (id := "sum") (r := Tf.rSumT K) (Tf.cr_sumT rfl) (by rfl) T.b_sum (by decide +kernel) (pa_cons (pe_lc (own := [("row", 13)]) (g := (gName 13)) (tt := tYes) rfl scPr.nd (pi_list (pe_slice sl_list (pv 3) (po_some pe_int) po_none)) (blkOk_by (N := NPr) (sc := defScope sPr) (by decide +kernel)) (fun _ _ _ _ _ => (pg_name (i := 13) scPr.nd rfl (by first | exact Or.inl rfl | exact Or.inr rfl))) (fun _ _ _ _ _ => pts_nil) (fun _ _ _ _ _ => (pe_ix (r := rIxT K) ix_tup (pe_ix (r := rIxT K) ix_tup (pv 13) pe_int (fun _ _ => rfl)) pe_int (fun _ _ => rfl)))) pa_nil)))
    (pss_cons (ps_if (pt_cmpR op_gt (pe_op op_sub (pv 7) (pv 8)) (pe_ix (r := rIxL K) ix_list (pv 0) pe_int (fun _ _ => rfl)) (nomark _)) 
      (pss_one (ps_ret pe_non)) pss_nil)
    (pss_cons (ps_set (i := 9) scPr.nd rfl (Or.inl rfl) (pe_call C__law_next.ok (hr.mono (by first | decide | omega)) rfl C__law_next.mg C__law_next.kp C__law_next.bi .nil pass0 (pa_cons (pv 0) (pa_cons (pv 2) pa_nil))))
    (pss_cons (ps_set (i := 10) scPr.nd rfl (Or.inl rfl) pe_int)
    (Tf.pss_cut (ps_if (pt_cmpR op_gt (pv 7) (pe_ix (r := rIxL K) ix_list (pv 0) pe_int (fun _ _ => rfl)) (nomark _)) 
      (pss_one (ps_set (i := 10) scPr.nd rfl (Or.inl rfl) (pe_call C__law_badness.ok (hr.mono (by first | decide | omega)) rfl C__law_badness.mg C__law_badness.kp C__law_badness.bi .nil pass0 (pa_cons (pe_op op_sub (pv 7) (pe_ix (r := rIxL K) ix_list (pv 0) pe_int (fun _ _ => rfl))) (pa_cons (pv 8) pa_nil))))) 
      (pss_one (ps_if (PW.pt (pw_and (pt_cmpR op_ne (pv 9) (pe_un un_neg pe_int) (nomark _)) (pw_and1 (pt_cmpR (op_neD hu64) (pv 2) (pe_tup (pa_cons (pe_callB (id := "len") (r := rLen K) cr_len (by rfl) T.b_len (by decide +kernel) (pa_cons (pe_ix (r := rIxL K) ix_list (pv 0) pe_int (fun _ _ => rfl)) pa_nil)) (pa_cons pe_int (pa_cons pe_int (pa_cons (pe_callB (id := "len") (r := rLen K) cr_len (by rfl) T.b_len (by decide +kernel) (pa_cons (pe_ix (r := rIxL K) ix_list (pv 0) pe_int (fun _ _ => rfl)) pa_nil)) (pa_cons (pe_callB (id := "len") (r := rLen K) cr_len (by rfl) T.b_len (by decide +kernel) (pa_cons (pe_ix (r := rIxL K) ix_list (pv 0) pe_int (fun _ _ => rfl)) pa_nil)) pa_nil)))))) (nomark _))))) 
        (pss_one (ps_set (i := 10) scPr.nd rfl (Or.inl rfl) (pe_call C__law_badness.ok (hr.mono (by first | decide | omega)) rfl C__law_badness.mg C__law_badness.kp C__law_badness.bi .nil pass0 (pa_cons (pe_op op_sub (pe_ix (r := rIxL K) ix_list (pv 0) pe_int (fun _ _ => rfl)) (pv 7)) (pa_cons (pe_callB (id := "sum") (r := Tf.rSumT K) (Tf.cr_sumT rfl) (by rfl) T.b_sum (by decide +kernel) (pa_cons (pe_lc (own := [("row", 13)]) (g := (gName 13)) (tt := tYes) rfl scPr.nd (pi_list (pe_slice sl_list (pv 3) (po_some pe_int) po_none)) (blkOk_by (N := NPr) (sc := defScope sPr) (by decide +kernel)) (fun _ _ _ _ _ => (pg_name (i := 13) scPr.nd rfl (by first | exact Or.inl rfl | exact Or.inr rfl))) (fun _ _ _ _ _ => pts_nil) (fun _ _ _ _ _ => (pe_ix (r := rIxT K) ix_tup (pe_ix (r := rIxT K) ix_tup (pv 13) pe_int (fun _ _ => rfl)) pe_int (fun _ _ => rfl)))) pa_nil)) pa_nil))))) pss_nil)))
    (pss_cons (ps_set (i := 11) scPr.nd rfl (Or.inl rfl) (pe_op op_add (pe_op op_mul (pe_op op_add pe_int (pv 10)) (pe_op op_add pe_int (pv 10))) (pe_op op_mul pe_int (pe_callB (cr_max2 rfl) (by rfl) T.b_max (by decide +kernel) (pa_cons pe_int (pa_cons (pe_op op_sub (pe_ix (r := rIxL K) ix_list (pv 6) pe_int (fun _ _ => rfl)) (pe_ix (r := rIxT K) ix_tup (pv 2) pe_int (fun _ _ => rfl))) pa_nil))))))
    (pss_cons (ps_set (i := 12) scPr.nd rfl (Or.inl rfl) (pe_slice sl_tupA (pe_ix (r := rIxL K) ix_list (pv 0) pe_int (fun _ _ => rfl)) (po_some (pe_ix (r := rIxT K) ix_tup (pv 2) pe_int (fun _ _ => rfl))) (po_some (pe_ix (r := rIxL K) ix_list (pv 6) pe_int (fun _ _ => rfl)))))
    (Tf.pss_cut (ps_if (pt_tru (pv 12) (by intro _; rfl)) 
      (pss_one (ps_set (i := 11) scPr.nd rfl (Or.inl rfl) (pe_op op_add (pe_op op_add (pe_op op_add (pv 11) pe_int) (pe_op op_mul pe_int (pe_callB (id := "len") (r := rLen K) cr_len (by rfl) T.b_len (by decide +kernel) (pa_cons (pv 12) pa_nil)))) (pe_op op_mul pe_int (pe_callB (id := "len") (r := rLen K) cr_len (by rfl) T.b_len (by decide +kernel) (pa_cons (pe_lc (own := [("row", 13)]) (g := (gName 13)) rfl scPr.nd (pi_tup (pv 12)) (blkOk_by (N := NPr) (sc := defScope sPr) (by decide +kernel)) (fun _ _ _ _ _ => (pg_name (i := 13) scPr.nd rfl (by first | exact Or.inl rfl | exact Or.inr rfl))) (fun _ _ _ _ _ => (pts_one (pt_val (pe_ix (r := rIxT K) ix_tup (pv 13) pe_int (fun _ _ => rfl))))) (fun _ _ _ _ _ => (pv 13))) pa_nil)))))) pss_nil)
    (pss_cons (ps_if (pt_not (pt_tru (pv 3) (by intro _; rfl))) 
      (pss_one (ps_ret (pe_op op_add (pv 11) pe_int))) pss_nil)
    (pss_cons (ps_if (PW.pt (pw_and (pt_cmpR op_notNon (pv 9) pe_non (nomark _)) (pw_and1 (pt_cmpR op_ne (pv 9) (pe_un un_neg pe_int) (nomark _))))) 
      (pss_one (ps_set (i := 11) scPr.nd rfl (Or.inl rfl) (pe_op op_add (pv 11) (pe_op op_mul (pv 9) (pv 9))))) pss_nil)
    (pss_one (ps_ret (pv 11))))))))))))))))))), ?_⟩
    walk_at "x"
    refine x_lt1 O hv (fun fl0 hfl0 => ?_)
    walk_at "x"
    refine x_ixTI (j := 3) O ha rfl rfl ?_
    refine ⟨_, rfl, ?_⟩
    walk_at "x"
    refine x_ixTI (j := 3) O hb rfl rfl ?_
    refine ⟨_, rfl, ?_⟩
    refine x_slTA O hfl0 (fun fv H1 F1 s1 O1 hfv => ?_)
    rw [cutL_mid] at hfv
    walk_at "x"
    refine x_lt2 O1 (up s1 hv) (fun ll0 hll0 => ?_)
    walk_at "x"
    refine x_ixTI (j := 4) O1 (up (R := rTup rInt) s1 ha) rfl rfl ?_
    refine ⟨_, rfl, ?_⟩
    walk_at "x"
    refine x_ixTI (j := 4) O1 (up (R := rTup rInt) s1 hb) rfl rfl ?_
    refine ⟨_, rfl, ?_⟩
    refine x_slTA O1 hll0 (fun lv H2 F2 s2 O2 hlv => ?_)
    rw [cutL_mid] at hlv
    walk_at "x"
    have s12 := s1.trans s2
    refine ⟨v, bv, T', b, F2, m, rfl, O2, up s12 hv, up (R := rTup rInt) s12 hb, ok, hsb.1, fun dv H3 F3 s3 O3 hdv => ?_⟩
    walk_at "x"
    have s13 := s12.trans s3
    have hv3 := up s13 hv
    have ha3 := up (R := rTup rInt) s13 ha
    have hb3 := up (R := rTup rInt) s13 hb
    have hu3 := up s13 hu
    have hfv3 := up (s2.trans s3) hfv
    have hlv3 := up s3 hlv
    have hno : priceT T' a b us = none → ∀ H' F', Same F F' → Own H' F' m → Q .non H' := fun h H' F' s' O' => by
      rw [h] at k
      exact k H' F' s' O'
    refine x_cut (fun σ' H' => ∃ (F4 : Hp) (u13 : Option V), σ' = [some v, some av, some bv, some uv, some fv, some lv, some dv, none, none, none, none, none, none, u13] ∧ Same F3 F4 ∧ Own H' F4 m ∧ canP T' a b ∧ ∀ u ∈ us.tail, u.2.2 ≠ -1) ?_ ?_
    · have hnc : ¬ canP T' a b → priceT T' a b us = none := fun h => by
        unfold priceT
        rw [if_neg (fun z => h z.1)]
      walk_at "x"
      refine x_lenT O3 hfv3 ?_
      walk_at "x"
      refine x_lt4 O3 hv3 ?_
      walk_at "x"
      refine x_iteD (fun h1 => ?_) (fun h1 => ?_)
      · refine x_iteT rfl ?_
        walk_at "x"
        exact hno (hnc fun z => by
          have := z.1
          omega) H3 F3 s13 O3
      walk_at "x"
      refine tq_T O3 hfv3 ?_
      have rest2 : ∀ (R2 : Hp → Prop), ((a.2.2.2.1 < b.2.2.2.1 → b.2.2.2.1 ≤ dueF T' b.1) → R2 H3) → ((¬ (a.2.2.2.1 < b.2.2.2.1 → b.2.2.2.1 ≤ dueF T' b.1)) → R2 H3) → R2 H3 := fun R2 h1 h2 => by
        by_cases h : (a.2.2.2.1 < b.2.2.2.1 → b.2.2.2.1 ≤ dueF T' b.1)
        · exact h1 h
        · exact h2 h
      have third : (a.2.2.2.1 < b.2.2.2.1 → b.2.2.2.1 ≤ dueF T' b.1) → True := fun _ => True.intro
      by_cases hfe : a.2.2.2.1 < b.2.2.2.1
      · have e : (!((T'.floats.drop a.2.2.2.1).take (b.2.2.2.1 - a.2.2.2.1)).isEmpty) = true := by
          rw [Bool.not_eq_true', List.isEmpty_eq_false_iff, ← List.length_pos_iff]
          omega
        rw [e]
        refine x_iteT rfl ?_
        walk_at "x"
        refine x_ixTI (j := 3) O3 hb3 rfl rfl ?_
        walk_at "x"
        refine x_ixL (R := rInt) (j := 0) O3 hdv rfl rfl (fun z1 hz1 => ?_)
        have hz1 : z1 = .int (dueF T' b.1 : Int) := hz1
        subst hz1
        walk_at "x"
        refine x_iteD (fun h2 => ?_) (fun h2 => ?_)
        · refine x_iteT rfl ?_
          walk_at "x"
          exact hno (hnc fun z => by
            have := z.2.1 hfe
            omega) H3 F3 s13 O3
        have hc2 : a.2.2.2.1 < b.2.2.2.1 → b.2.2.2.1 ≤ dueF T' b.1 := fun _ => by omega
        walk_at "x"
        refine tq_T O3 hlv3 ?_
        by_cases hle : a.2.2.2.2 < b.2.2.2.2
        · have e : (!((T'.lines.drop a.2.2.2.2).take (b.2.2.2.2 - a.2.2.2.2)).isEmpty) = true := by
            rw [Bool.not_eq_true', List.isEmpty_eq_false_iff, ← List.length_pos_iff]
            omega
          rw [e]
          refine x_iteT rfl ?_
          walk_at "x"
          refine x_ixTI (j := 4) O3 hb3 rfl rfl ?_
          walk_at "x"
          refine x_ixL (R := rInt) (j := 1) O3 hdv rfl rfl (fun z1 hz1 => ?_)
          have hz1 : z1 = .int (dueL T' b.pl) := hz1
          subst hz1
          walk_at "x"
          refine x_iteD (fun h3 => ?_) (fun h3 => ?_)
          · refine x_iteT rfl ?_
            walk_at "x"
            exact hno (hnc fun z => by
              have := z.2.2 hle
              omega) H3 F3 s13 O3
          have hcan : canP T' a b := ⟨by omega, hc2, fun _ => by omega⟩
          walk_at "x"
          refine x_slLA O3 hu3 (fun tv H5 F5 s5 O5 htv => ?_)
          rw [cut_one] at htv
          refine x_docL (R := rUnit) (S := rInt) O5 htv (fun i F5 m5 ys => m5 = m ∧ ys = ((us.tail).take i).map fun y => y.2.2) ⟨rfl, by simp⟩ ?_ ?_
          · rintro D acc i q z H6 F6 m6 ys hi hz s6 O6 hacc hyl ⟨rfl, rfl⟩
            have il := (List.getElem?_eq_some_iff.mp hi).1
            walk_at "x"
            refine ⟨rfl, ?_⟩
            walk_at "x"
            refine x_iteT rfl ?_
            walk_at "x"
            refine x_tri2 O6 hz (fun c0 hc0 => ?_)
            have hc0 : c0 = .int q.2.2 := hc0
            subst hc0
            refine x_keep (S := rInt) (z := q.2.2) O6 s6 rfl hacc hyl (by omega) ⟨rfl, ?_⟩
            rw [List.take_add_one, hi, List.map_append]
            rfl
          · rintro cv H7 F7 m7 ys s7 O7 hcv ⟨rfl, rfl⟩
            rw [List.take_length] at hcv
            walk_at "x"
            refine x_inL O7 hcv ?_
            walk_at "x"
            refine x_iteD (fun h4 => ?_) (fun h4 => ?_)
            · walk_at "x"
              exact hno (by
                unfold priceT
                rw [if_neg (fun z => tail_cost.mp h4 z.2.1)]) H7 F7 (s13.trans (s5.trans s7)) O7
            · walk_at "x"
              exact ⟨F7, _, rfl, s5.trans s7, O7, hcan, Classical.byContradiction fun z => h4 (tail_cost.mpr z)⟩
        · have e : (!((T'.lines.drop a.2.2.2.2).take (b.2.2.2.2 - a.2.2.2.2)).isEmpty) = false := by
            rw [Bool.not_eq_false', List.isEmpty_iff, ← List.length_eq_zero_iff]
            omega
          rw [e]
          refine x_iteF rfl ?_
          refine x_iteF rfl ?_
          have hcan : canP T' a b := ⟨by omega, hc2, fun z => absurd z hle⟩
          walk_at "x"
          refine x_slLA O3 hu3 (fun tv H5 F5 s5 O5 htv => ?_)
          rw [cut_one] at htv
          refine x_docL (R := rUnit) (S := rInt) O5 htv (fun i F5 m5 ys => m5 = m ∧ ys = ((us.tail).take i).map fun y => y.2.2) ⟨rfl, by simp⟩ ?_ ?_
          · rintro D acc i q z H6 F6 m6 ys hi hz s6 O6 hacc hyl ⟨rfl, rfl⟩
            have il := (List.getElem?_eq_some_iff.mp hi).1
            walk_at "x"
            refine ⟨rfl, ?_⟩
            walk_at "x"
            refine x_iteT rfl ?_
            walk_at "x"
            refine x_tri2 O6 hz (fun c0 hc0 => ?_)
            have hc0 : c0 = .int q.2.2 := hc0
            subst hc0
            refine x_keep (S := rInt) (z := q.2.2) O6 s6 rfl hacc hyl (by omega) ⟨rfl, ?_⟩
            rw [List.take_add_one, hi, List.map_append]
            rfl
          · rintro cv H7 F7 m7 ys s7 O7 hcv ⟨rfl, rfl⟩
            rw [List.take_length] at hcv
            walk_at "x"
            refine x_inL O7 hcv ?_
            walk_at "x"
            refine x_iteD (fun h4 => ?_) (fun h4 => ?_)
            · walk_at "x"
              exact hno (by
                unfold priceT
                rw [if_neg (fun z => tail_cost.mp h4 z.2.1)]) H7 F7 (s13.trans (s5.trans s7)) O7
            · walk_at "x"
              exact ⟨F7, _, rfl, s5.trans s7, O7, hcan, Classical.byContradiction fun z => h4 (tail_cost.mpr z)⟩
      · have e : (!((T'.floats.drop a.2.2.2.1).take (b.2.2.2.1 - a.2.2.2.1)).isEmpty) = false := by
          rw [Bool.not_eq_false', List.isEmpty_iff, ← List.length_eq_zero_iff]
          omega
        rw [e]
        refine x_iteF rfl ?_
        refine x_iteF rfl ?_
        have hc2 : a.2.2.2.1 < b.2.2.2.1 → b.2.2.2.1 ≤ dueF T' b.1 := fun z => absurd z hfe
        walk_at "x"
        refine tq_T O3 hlv3 ?_
        by_cases hle : a.2.2.2.2 < b.2.2.2.2
        · have e : (!((T'.lines.drop a.2.2.2.2).take (b.2.2.2.2 - a.2.2.2.2)).isEmpty) = true := by
            rw [Bool.not_eq_true', List.isEmpty_eq_false_iff, ← List.length_pos_iff]
            omega
          rw [e]
          refine x_iteT rfl ?_
          walk_at "x"
          refine x_ixTI (j := 4) O3 hb3 rfl rfl ?_
          walk_at "x"
          refine x_ixL (R := rInt) (j := 1) O3 hdv rfl rfl (fun z1 hz1 => ?_)
          have hz1 : z1 = .int (dueL T' b.pl) := hz1
          subst hz1
          walk_at "x"
          refine x_iteD (fun h3 => ?_) (fun h3 => ?_)
          · refine x_iteT rfl ?_
            walk_at "x"
            exact hno (hnc fun z => by
              have := z.2.2 hle
              omega) H3 F3 s13 O3
          have hcan : canP T' a b := ⟨by omega, hc2, fun _ => by omega⟩
          walk_at "x"
          refine x_slLA O3 hu3 (fun tv H5 F5 s5 O5 htv => ?_)
          rw [cut_one] at htv
          refine x_docL (R := rUnit) (S := rInt) O5 htv (fun i F5 m5 ys => m5 = m ∧ ys = ((us.tail).take i).map fun y => y.2.2) ⟨rfl, by simp⟩ ?_ ?_
          · rintro D acc i q z H6 F6 m6 ys hi hz s6 O6 hacc hyl ⟨rfl, rfl⟩
            have il := (List.getElem?_eq_some_iff.mp hi).1
            walk_at "x"
            refine ⟨rfl, ?_⟩
            walk_at "x"
            refine x_iteT rfl ?_
            walk_at "x"
            refine x_tri2 O6 hz (fun c0 hc0 => ?_)
            have hc0 : c0 = .int q.2.2 := hc0
            subst hc0
            refine x_keep (S := rInt) (z := q.2.2) O6 s6 rfl hacc hyl (by omega) ⟨rfl, ?_⟩
            rw [List.take_add_one, hi, List.map_append]
            rfl
          · rintro cv H7 F7 m7 ys s7 O7 hcv ⟨rfl, rfl⟩
            rw [List.take_length] at hcv
            walk_at "x"
            refine x_inL O7 hcv ?_
            walk_at "x"
            refine x_iteD (fun h4 => ?_) (fun h4 => ?_)
            · walk_at "x"
              exact hno (by
                unfold priceT
                rw [if_neg (fun z => tail_cost.mp h4 z.2.1)]) H7 F7 (s13.trans (s5.trans s7)) O7
            · walk_at "x"
              exact ⟨F7, _, rfl, s5.trans s7, O7, hcan, Classical.byContradiction fun z => h4 (tail_cost.mpr z)⟩
        · have e : (!((T'.lines.drop a.2.2.2.2).take (b.2.2.2.2 - a.2.2.2.2)).isEmpty) = false := by
            rw [Bool.not_eq_false', List.isEmpty_iff, ← List.length_eq_zero_iff]
            omega
          rw [e]
          refine x_iteF rfl ?_
          refine x_iteF rfl ?_
          have hcan : canP T' a b := ⟨by omega, hc2, fun z => absurd z hle⟩
          walk_at "x"
          refine x_slLA O3 hu3 (fun tv H5 F5 s5 O5 htv => ?_)
          rw [cut_one] at htv
          refine x_docL (R := rUnit) (S := rInt) O5 htv (fun i F5 m5 ys => m5 = m ∧ ys = ((us.tail).take i).map fun y => y.2.2) ⟨rfl, by simp⟩ ?_ ?_
          · rintro D acc i q z H6 F6 m6 ys hi hz s6 O6 hacc hyl ⟨rfl, rfl⟩
            have il := (List.getElem?_eq_some_iff.mp hi).1
            walk_at "x"
            refine ⟨rfl, ?_⟩
            walk_at "x"
            refine x_iteT rfl ?_
            walk_at "x"
            refine x_tri2 O6 hz (fun c0 hc0 => ?_)
            have hc0 : c0 = .int q.2.2 := hc0
            subst hc0
            refine x_keep (S := rInt) (z := q.2.2) O6 s6 rfl hacc hyl (by omega) ⟨rfl, ?_⟩
            rw [List.take_add_one, hi, List.map_append]
            rfl
          · rintro cv H7 F7 m7 ys s7 O7 hcv ⟨rfl, rfl⟩
            rw [List.take_length] at hcv
            walk_at "x"
            refine x_inL O7 hcv ?_
            walk_at "x"
            refine x_iteD (fun h4 => ?_) (fun h4 => ?_)
            · walk_at "x"
              exact hno (by
                unfold priceT
                rw [if_neg (fun z => tail_cost.mp h4 z.2.1)]) H7 F7 (s13.trans (s5.trans s7)) O7
            · walk_at "x"
              exact ⟨F7, _, rfl, s5.trans s7, O7, hcan, Classical.byContradiction fun z => h4 (tail_cost.mpr z)⟩
    · rintro σ' H4 ⟨F4, u13, rfl, s4, O4, hcan, htc⟩
      have s14 := s13.trans s4
      have hu4 := up s4 hu3
      walk_at "x"
      refine x_docL (R := rUnit) (S := rInt) O4 hu4 (fun i F5 m5 ys => m5 = m ∧ ys = ((us).take i).map fun y => y.1) ⟨rfl, by simp⟩ ?_ ?_
      · rintro D acc i q z H5 F5 m5 ys hi hz s5 O5 hacc hyl ⟨rfl, rfl⟩
        have il := (List.getElem?_eq_some_iff.mp hi).1
        walk_at "x"
        refine ⟨rfl, ?_⟩
        walk_at "x"
        refine x_iteT rfl ?_
        walk_at "x"
        refine x_tri0 O5 hz (fun c0 hc0 => ?_)
        have hc0 : c0 = .int q.1 := hc0
        subst hc0
        refine x_keep (S := rInt) (z := q.1) O5 s5 rfl hacc hyl (by omega) ⟨rfl, ?_⟩
        rw [List.take_add_one, hi, List.map_append]
        rfl
      · rintro c1 H6 F6 m6 ys s6 O6 hc1 ⟨rfl, rfl⟩
        rw [List.take_length] at hc1
        walk_at "x"
        refine x_sumL O6 hc1 ?_
        walk_at "x"
        refine x_slLA O6 (up s6 hu4) (fun tv H7 F7 s7 O7 htv => ?_)
        rw [cut_one] at htv
        refine x_docL (R := rUnit) (S := rInt) O7 htv (fun i F5 m5 ys => m5 = m6 ∧ ys = ((us.tail).take i).map fun y => y.2.1.1) ⟨rfl, by simp⟩ ?_ ?_
        · rintro D acc i q z H8 F8 m8 ys hi hz s8 O8 hacc hyl ⟨rfl, rfl⟩
          have il := (List.getElem?_eq_some_iff.mp hi).1
          walk_at "x"
          refine ⟨rfl, ?_⟩
          walk_at "x"
          refine x_iteT rfl ?_
          walk_at "x"
          refine x_tri1 O8 hz (fun c0 hc0 => ?_)
          walk_at "x"
          refine x_tri0 O8 hc0 (fun c1 hc1 => ?_)
          have hc1 : c1 = .int q.2.1.1 := hc1
          subst hc1
          refine x_keep (S := rInt) (z := q.2.1.1) O8 s8 rfl hacc hyl (by omega) ⟨rfl, ?_⟩
          rw [List.take_add_one, hi, List.map_append]
          rfl
        · rintro c2 H9 F9 m9 ys s9 O9 hc2 ⟨rfl, rfl⟩
          rw [List.take_length] at hc2
          walk_at "x"
          refine x_sumL O9 hc2 ?_
          walk_at "x"
          have s49 := s6.trans (s7.trans s9)
          refine x_docT (R := rPair rInt rInt) (S := rInt) O9 (up (s4.trans s49) hfv3) (fun i F5 m5 ys => m5 = m9 ∧ ys = (((T'.floats.drop a.2.2.2.1).take (b.2.2.2.1 - a.2.2.2.1)).take i).map fun y => y.1 + T'.fgap) ⟨rfl, by simp⟩ ?_ ?_
          · rintro D acc i q z H10 F10 m10 ys hi hz s10 O10 hacc hyl ⟨rfl, rfl⟩
            have il := (List.getElem?_eq_some_iff.mp hi).1
            walk_at "x"
            refine ⟨rfl, ?_⟩
            walk_at "x"
            refine x_iteT rfl ?_
            walk_at "x"
            refine x_fst O10 hz (fun c0 hc0 => ?_)
            have hc0 : c0 = .int q.1 := hc0
            subst hc0
            walk_at "x"
            refine x_lt6 O10 (up (s4.trans (s49.trans s10)) hv3) ?_
            walk_at "x"
            refine x_keep (S := rInt) (z := q.1 + T'.fgap) O10 s10 rfl hacc hyl (by omega) ⟨rfl, ?_⟩
            rw [List.take_add_one, hi, List.map_append]
            rfl
          · rintro c3 H11 F11 m11 ys s11 O11 hc3 ⟨rfl, rfl⟩
            rw [List.take_length] at hc3
            walk_at "x"
            refine x_sumL O11 hc3 ?_
            walk_at "x"
            have s411 := s49.trans s11
            refine x_docT (R := rPair rInt rBool) (S := rInt) O11 (up (s4.trans s411) hlv3) (fun i F5 m5 ys => m5 = m11 ∧ ys = (((T'.lines.drop a.2.2.2.2).take (b.2.2.2.2 - a.2.2.2.2)).take i).map fun y => y.1) ⟨rfl, by simp⟩ ?_ ?_
            · rintro D acc i q z H12 F12 m12 ys hi hz s12 O12 hacc hyl ⟨rfl, rfl⟩
              have il := (List.getElem?_eq_some_iff.mp hi).1
              walk_at "x"
              refine ⟨rfl, ?_⟩
              walk_at "x"
              refine x_iteT rfl ?_
              walk_at "x"
              refine x_fst O12 hz (fun c0 hc0 => ?_)
              have hc0 : c0 = .int q.1 := hc0
              subst hc0
              refine x_keep (S := rInt) (z := q.1) O12 s12 rfl hacc hyl (by omega) ⟨rfl, ?_⟩
              rw [List.take_add_one, hi, List.map_append]
              rfl
            · rintro c4 H13 F13 m13 ys s13 O13 hc4 ⟨rfl, rfl⟩
              rw [List.take_length] at hc4
              walk_at "x"
              refine x_sumL O13 hc4 ?_
              walk_at "x"
              have s413 := s411.trans s13
              refine x_lt5 O13 (up (s4.trans s413) hv3) ?_
              walk_at "x"
              refine x_lenT O13 (up (s4.trans s413) hlv3) ?_
              walk_at "x"
              refine x_slLA O13 (up (s413) hu4) (fun tv2 H14 F14 s14' O14 htv2 => ?_)
              rw [cut_one] at htv2
              refine x_docL (R := rUnit) (S := rInt) O14 htv2 (fun i F5 m5 ys => m5 = m13 ∧ ys = ((us.tail).take i).map fun y => y.2.1.2.2) ⟨rfl, by simp⟩ ?_ ?_
              · rintro D acc i q z H15 F15 m15 ys hi hz s15 O15 hacc hyl ⟨rfl, rfl⟩
                have il := (List.getElem?_eq_some_iff.mp hi).1
                walk_at "x"
                refine ⟨rfl, ?_⟩
                walk_at "x"
                refine x_iteT rfl ?_
                walk_at "x"
                refine x_tri1 O15 hz (fun c0 hc0 => ?_)
                walk_at "x"
                refine x_tri2 O15 hc0 (fun c1 hc1 => ?_)
                have hc1 : c1 = .int q.2.1.2.2 := hc1
                subst hc1
                refine x_keep (S := rInt) (z := q.2.1.2.2) O15 s15 rfl hacc hyl (by omega) ⟨rfl, ?_⟩
                rw [List.take_add_one, hi, List.map_append]
                rfl
              · rintro c5 H16 F16 m16 ys s16 O16 hc5 ⟨rfl, rfl⟩
                rw [List.take_length] at hc5
                walk_at "x"
                refine x_sumL O16 hc5 ?_
                walk_at "x"
                have s416 := s413.trans (s14'.trans s16)
                have esz : (us.map fun y => y.1).sum + (us.tail.map fun y => y.2.1.1).sum + (((T'.floats.drop a.2.2.2.1).take (b.2.2.2.1 - a.2.2.2.1)).map fun y => y.1 + T'.fgap).sum + (((T'.lines.drop a.2.2.2.2).take (b.2.2.2.2 - a.2.2.2.2)).map fun y => y.1).sum + T'.rule * (if decide (((((T'.lines.drop a.2.2.2.2).take (b.2.2.2.2 - a.2.2.2.2)).length : Nat) : Int) > 0) = true then 1 else 0) = sizeU us + otherL T' a b := by
                  have e := (other_law T' a b).resolve_right (fun z => z hbL)
                  have e2 : (if decide (((((T'.lines.drop a.2.2.2.2).take (b.2.2.2.2 - a.2.2.2.2)).length : Nat) : Int) > 0) = true then (1 : Int) else 0) = if 0 < ((T'.lines.drop a.2.2.2.2).take (b.2.2.2.2 - a.2.2.2.2)).length then 1 else 0 := by
                    by_cases h : 0 < ((T'.lines.drop a.2.2.2.2).take (b.2.2.2.2 - a.2.2.2.2)).length
                    · rw [if_pos h, if_pos (decide_eq_true (by omega))]
                    · rw [if_neg h, if_neg (by rw [decide_eq_true_iff]; omega)]
                  rw [e, e2]
                  unfold sizeU
                  omega
                rw [esz]
                have eshr : (us.tail.map fun y => y.2.1.2.2).sum = shrU us := rfl
                rw [eshr]
                have hv16 := up (s4.trans s416) hv3
                have hb16 := up (R := rTup rInt) (s4.trans s416) hb3
                refine x_lt3 O16 hv16 ?_
                walk_at "x"
                have ho0 := otherL_nonneg ok a b
                have ho1 := otherL_hi ok a b
                refine x_iteD (fun hbig => ?_) (fun hbig => ?_)
                · walk_at "x"
                  exact hno (by
                    unfold priceT
                    rw [if_neg (fun z => by
                      have := z.2.2
                      omega)]) H16 F16 (s14.trans s416) O16
                have hprice : priceT T' a b us = some (fillC T'.tall (sizeU us + otherL T' a b, strU us, shrU us) (looseB T' b) + endC T' a b) := by
                  unfold priceT
                  rw [if_pos ⟨hcan, htc, by omega⟩]
                have hg0 : addG (glueOf us) (otherL T' a b) = (sizeU us + otherL T' a b, strU us, shrU us) := addG_sums us _
                have hgb : 0 ≤ sizeU us ∧ sizeU us < 2 ^ 61 + 2 ^ 60 ∧ 0 ≤ strU us ∧ strU us < 2 ^ 61 + 2 ^ 60 ∧ 0 ≤ shrU us ∧ shrU us < 2 ^ 61 + 2 ^ 60 := by
                  cases e : glueOf us with
                  | none =>
                    have := glueOf_none.mp e
                    subst this
                    unfold sizeU strU shrU
                    simp
                  | some g =>
                    obtain ⟨e1, e2, e3⟩ := glue_sums us g e
                    have hk := glue_ok us hus.ub g e
                    have h0 := hk.a0
                    have h1 := hk.a1
                    have h2 := hk.b0
                    have h3 := hk.b1
                    have h4 := hk.c0
                    have h5 := hk.c1
                    have d1 : sizeU us = g.1 := e1.symm
                    have d2 : strU us = g.2.1 := e2.symm
                    have d3 : shrU us = g.2.2 := e3.symm
                    rw [d1, d2, d3]
                    refine ⟨h0, ?_, h2, ?_, h4, ?_⟩ <;> omega
                rw [hprice] at k
                walk_at "x"
                refine ⟨v, bv, T', b, F16, _, rfl, O16, hv16, hb16, ok, hsb.1, fun H17 F17 s17 O17 => ?_⟩
                walk_at "x"
                generalize hsz : sizeU us + otherL T' a b = sz at k hbig ⊢
                generalize hlo : looseB T' b = lo at k
                have hv17 := up s17 hv16
                have hb17 := up (R := rTup rInt) s17 hb16
                have s417 := s416.trans s17
                refine x_cut (fun σ' H' => ∃ (F18 : Hp) (u13 : Option V), σ' = [some v, some av, some bv, some uv, some fv, some lv, some dv, some (.int sz), some (.int (shrU us)), some (optV (nextC T' b.pl)), some (.int (badG T'.tall (sz, strU us, shrU us) lo)), none, none, u13] ∧ Same F17 F18 ∧ Own H' F18 m16) ?_ ?_
                · walk_at "x"
                  refine x_lt3 O17 hv17 ?_
                  walk_at "x"
                  refine x_iteD (fun h5 => ?_) (fun h5 => ?_)
                  · walk_at "x"
                    refine x_lt3 O17 hv17 ?_
                    walk_at "x"
                    refine ⟨_, _, rfl, by omega, by omega, by omega, by omega, ?_⟩
                    walk_at "x"
                    have e : badG T'.tall (sz, strU us, shrU us) lo = badn (sz - T'.tall) (shrU us) := by
                      unfold badG
                      dsimp only
                      rw [if_pos (by omega)]
                      congr 1
                      omega
                    exact ⟨F17, _, by rw [e]; rfl, Same.refl _, O17⟩
                  · have hel : ∀ (R2 : L2.St → Hp → Prop), True := fun _ => True.intro
                    have e0 : ¬ T'.tall - sz < 0 := by omega
                    have hB : badG T'.tall (sz, strU us, shrU us) lo = if lo = true then 0 else badn (T'.tall - sz) (strU us) := by
                      unfold badG
                      dsimp only
                      rw [if_neg e0]
                    rw [hB]
                    walk_at "x"
                    cases hn1 : nextC T' b.pl with
                    | none =>
                      refine ⟨rfl, ?_⟩
                      have e3 : (!decide (optV none = V.int (-1))) = true := by
                        rw [decide_eq_false fun z => by cases z]
                        rfl
                      rw [e3]
                      have hloE : lo = decide (b = endS T') := by
                        rw [← hlo]
                        unfold looseB
                        rw [hn1]
                        simp
                      walk_at "x"
                      refine x_iteT rfl ?_
                      walk_at "x"
                      refine x_lt0 O17 hv17 (fun w0 hw0 => ?_)
                      walk_at "x"
                      refine x_lenT O17 hw0 ?_
                      walk_at "x"
                      refine x_lt1 O17 hv17 (fun w1 hw1 => ?_)
                      walk_at "x"
                      refine x_lenT O17 hw1 ?_
                      walk_at "x"
                      refine x_lt2 O17 hv17 (fun w2 hw2 => ?_)
                      walk_at "x"
                      refine x_lenT O17 hw2 ?_
                      walk_at "x"
                      refine x_newT (R := rInt) (xs := stL (endS T')) O17 (by show 5 ≤ _; decide) (All2.ofmap (f := V.int)) (fun ev H18 F18 s18 O18 hev => ?_)
                      refine x_neD (R := rTup rInt) O18 (up (R := rTup rInt) s18 hb17) hev ?_
                      rw [dec_iff stL_inj]
                      walk_at "x"
                      refine x_iteDn (fun he => ?_) (fun he => ?_)
                      · rw [decide_eq_false he] at hloE
                        rw [if_neg (by rw [hloE]; exact Bool.false_ne_true)]
                        walk_at "x"
                        refine x_lt3 O18 (up s18 hv17) ?_
                        walk_at "x"
                        refine x_slLA O18 (up (s417.trans s18) hu4) (fun tv3 H19 F19 s19 O19 htv3 => ?_)
                        rw [cut_one] at htv3
                        refine x_docL (R := rUnit) (S := rInt) O19 htv3 (fun i F5 m5 ys => m5 = m16 ∧ ys = ((us.tail).take i).map fun y => y.2.1.2.1) ⟨rfl, by simp⟩ ?_ ?_
                        · rintro D acc i q z H20 F20 m20 ys hi hz s20 O20 hacc hyl ⟨rfl, rfl⟩
                          have il := (List.getElem?_eq_some_iff.mp hi).1
                          walk_at "x"
                          refine ⟨rfl, ?_⟩
                          walk_at "x"
                          refine x_iteT rfl ?_
                          walk_at "x"
                          refine x_tri1 O20 hz (fun c0 hc0 => ?_)
                          walk_at "x"
                          refine x_tri1 O20 hc0 (fun c1 hc1 => ?_)
                          have hc1 : c1 = .int q.2.1.2.1 := hc1
                          subst hc1
                          refine x_keep (S := rInt) (z := q.2.1.2.1) O20 s20 rfl hacc hyl (by omega) ⟨rfl, ?_⟩
                          rw [List.take_add_one, hi, List.map_append]
                          rfl
                        · rintro c6 H21 F21 m21 ys s21 O21 hc6 ⟨rfl, rfl⟩
                          rw [List.take_length] at hc6
                          walk_at "x"
                          refine x_sumL O21 hc6 ?_
                          walk_at "x"
                          have estr : (us.tail.map fun y => y.2.1.2.1).sum = strU us := rfl
                          rw [estr]
                          refine ⟨_, _, rfl, by omega, by omega, by omega, by omega, ?_⟩
                          walk_at "x"
                          exact ⟨F21, _, rfl, s18.trans (s19.trans s21), O21⟩
                      · rw [decide_eq_true he] at hloE
                        rw [if_pos hloE]
                        walk_at "x"
                        exact ⟨F18, _, rfl, s18, O18⟩
                    | some c =>
                      show rNe (.int c) _ H17 _
                      walk_at "x"
                      refine x_iteDn (fun hc => ?_) (fun hc => ?_)
                      · have hloE : lo = decide (b = endS T') := by
                          rw [← hlo]
                          unfold looseB
                          rw [hn1]
                          have : decide (some c = some (-1 : Int)) = false := decide_eq_false fun z => hc (Option.some.inj z)
                          rw [this, Bool.or_false]
                        walk_at "x"
                        refine x_lt0 O17 hv17 (fun w0 hw0 => ?_)
                        walk_at "x"
                        refine x_lenT O17 hw0 ?_
                        walk_at "x"
                        refine x_lt1 O17 hv17 (fun w1 hw1 => ?_)
                        walk_at "x"
                        refine x_lenT O17 hw1 ?_
                        walk_at "x"
                        refine x_lt2 O17 hv17 (fun w2 hw2 => ?_)
                        walk_at "x"
                        refine x_lenT O17 hw2 ?_
                        walk_at "x"
                        refine x_newT (R := rInt) (xs := stL (endS T')) O17 (by show 5 ≤ _; decide) (All2.ofmap (f := V.int)) (fun ev H18 F18 s18 O18 hev => ?_)
                        refine x_neD (R := rTup rInt) O18 (up (R := rTup rInt) s18 hb17) hev ?_
                        rw [dec_iff stL_inj]
                        walk_at "x"
                        refine x_iteDn (fun he => ?_) (fun he => ?_)
                        · rw [decide_eq_false he] at hloE
                          rw [if_neg (by rw [hloE]; exact Bool.false_ne_true)]
                          walk_at "x"
                          refine x_lt3 O18 (up s18 hv17) ?_
                          walk_at "x"
                          refine x_slLA O18 (up (s417.trans s18) hu4) (fun tv3 H19 F19 s19 O19 htv3 => ?_)
                          rw [cut_one] at htv3
                          refine x_docL (R := rUnit) (S := rInt) O19 htv3 (fun i F5 m5 ys => m5 = m16 ∧ ys = ((us.tail).take i).map fun y => y.2.1.2.1) ⟨rfl, by simp⟩ ?_ ?_
                          · rintro D acc i q z H20 F20 m20 ys hi hz s20 O20 hacc hyl ⟨rfl, rfl⟩
                            have il := (List.getElem?_eq_some_iff.mp hi).1
                            walk_at "x"
                            refine ⟨rfl, ?_⟩
                            walk_at "x"
                            refine x_iteT rfl ?_
                            walk_at "x"
                            refine x_tri1 O20 hz (fun c0 hc0 => ?_)
                            walk_at "x"
                            refine x_tri1 O20 hc0 (fun c1 hc1 => ?_)
                            have hc1 : c1 = .int q.2.1.2.1 := hc1
                            subst hc1
                            refine x_keep (S := rInt) (z := q.2.1.2.1) O20 s20 rfl hacc hyl (by omega) ⟨rfl, ?_⟩
                            rw [List.take_add_one, hi, List.map_append]
                            rfl
                          · rintro c6 H21 F21 m21 ys s21 O21 hc6 ⟨rfl, rfl⟩
                            rw [List.take_length] at hc6
                            walk_at "x"
                            refine x_sumL O21 hc6 ?_
                            walk_at "x"
                            have estr : (us.tail.map fun y => y.2.1.2.1).sum = strU us := rfl
                            rw [estr]
                            refine ⟨_, _, rfl, by omega, by omega, by omega, by omega, ?_⟩
                            walk_at "x"
                            exact ⟨F21, _, rfl, s18.trans (s19.trans s21), O21⟩
                        · rw [decide_eq_true he] at hloE
                          rw [if_pos hloE]
                          walk_at "x"
                          exact ⟨F18, _, rfl, s18, O18⟩
                      · have hloT : lo = true := by
                          rw [← hlo]
                          unfold looseB
                          rw [hn1, hc]
                          simp
                        refine x_iteF rfl ?_
                        walk_at "x"
                        rw [if_pos hloT]
                        exact ⟨F17, _, rfl, Same.refl _, O17⟩
                · rintro σ' H18 ⟨F18, u13', rfl, s18, O18⟩
                  have s418 := s417.trans s18
                  have hbb := badG_b (H := T'.tall) (g := (sz, strU us, shrU us)) (l := lo) hgb.2.2.1 hgb.2.2.2.2.1
                  unfold fillC at k
                  generalize badG T'.tall (sz, strU us, shrU us) lo = bad at k hbb ⊢
                  have hdv18 := up (s4.trans s418) hdv
                  have hb18 := up (R := rTup rInt) s18 hb17
                  walk_at "x"
                  refine x_ixL (R := rInt) (j := 0) O18 hdv18 rfl rfl (fun z1 hz1 => ?_)
                  have hz1 : z1 = .int (dueF T' b.1 : Int) := hz1
                  subst hz1
                  walk_at "x"
                  refine x_ixTI (j := 3) O18 hb18 rfl rfl ?_
                  walk_at "x"
                  have hw := wait_law ok hsb hn
                  refine x_lt2 O18 (up s18 hv17) (fun ll hll => ?_)
                  walk_at "x"
                  refine x_ixTI (j := 4) O18 hb18 rfl rfl ?_
                  refine ⟨_, rfl, ?_⟩
                  walk_at "x"
                  refine x_ixL (R := rInt) (j := 1) O18 hdv18 rfl rfl (fun z2 hz2 => ?_)
                  have hz2 : z2 = .int (dueL T' b.pl) := hz2
                  rw [hn] at hz2
                  subst hz2
                  refine ⟨_, rfl, ?_⟩
                  refine x_slTA O18 hll (fun wv H19 F19 s19 O19 hwv => ?_)
                  rw [cutL_mid] at hwv
                  walk_at "x"
                  have hwl : ((T'.lines.drop b.2.2.2.2).take (n - b.2.2.2.2)).length ≤ 10 := by
                    rw [List.length_take, List.length_drop]
                    omega
                  refine x_cut (fun σ' H' => ∃ (F20 : Hp) (u13 : Option V), σ' = [some v, some av, some bv, some uv, some fv, some lv, some dv, some (.int sz), some (.int (shrU us)), some (optV (nextC T' b.pl)), some (.int bad), some (.int ((10 + bad) * (10 + bad) + waitB T' b)), some wv, u13] ∧ Same F19 F20 ∧ Own H' F20 m16) ?_ ?_
                  · walk_at "x"
                    refine tq_T O19 hwv ?_
                    cases hwc : (T'.lines.drop b.2.2.2.2).take (n - b.2.2.2.2) with
                    | nil =>
                      rw [hwc, if_pos rfl] at hw
                      refine x_iteF rfl ?_
                      walk_at "x"
                      have ew : (10 + bad) * (10 + bad) + 5000 * (if (dueF T' b.1 : Int) - (b.2.2.2.1 : Int) > 0 then (dueF T' b.1 : Int) - (b.2.2.2.1 : Int) else 0) = (10 + bad) * (10 + bad) + waitB T' b := by
                        rw [hw]
                        omega
                      refine ⟨F19, u13', ?_, Same.refl _, O19⟩
                      rw [← ew]
                      rfl
                    | cons w0 ws =>
                      rw [hwc] at hw
                      rw [if_neg (show ¬ (w0 :: ws = []) from fun z => by cases z)] at hw
                      rw [hwc] at hwv hwl
                      refine x_iteT rfl ?_
                      walk_at "x"
                      refine x_lenT O19 hwv ?_
                      walk_at "x"
                      refine x_docT (R := rPair rInt rBool) (S := rPair rInt rBool) O19 hwv (fun i F5 m5 ys => m5 = m16 ∧ ys = ((w0 :: ws).take i).filter (·.2)) ⟨rfl, by simp⟩ ?_ ?_
                      · rintro D acc i q z H21 F21 m21 ys hi hz s21 O21 hacc hyl ⟨rfl, rfl⟩
                        have il := (List.getElem?_eq_some_iff.mp hi).1
                        walk_at "x"
                        refine ⟨rfl, ?_⟩
                        walk_at "x"
                        refine x_snd O21 hz (fun c0 hc0 => ?_)
                        have hc0 : c0 = .bl q.2 := hc0
                        subst hc0
                        walk_at "x"
                        refine x_ite (fun h => ?_) (fun h => ?_)
                        · walk_at "x"
                          refine x_keep (S := rPair rInt rBool) O21 s21 hz hacc hyl (by omega) ⟨rfl, ?_⟩
                          rw [filt_take_yes hi h]
                        · refine x_skip O21 s21 hacc hyl ⟨rfl, ?_⟩
                          rw [filt_take_no hi (by simpa using h)]
                      · rintro c7 H21 F21 m21 ys s21 O21 hc7 ⟨rfl, rfl⟩
                        rw [List.take_length] at hc7
                        walk_at "x"
                        refine x_lenL O21 hc7 ?_
                        walk_at "x"
                        have ew : (10 + bad) * (10 + bad) + 5000 * (if (dueF T' b.1 : Int) - (b.2.2.2.1 : Int) > 0 then (dueF T' b.1 : Int) - (b.2.2.2.1 : Int) else 0) + 2000 + 100 * (((w0 :: ws).length : Nat) : Int) + 1000000000 * ((((w0 :: ws).filter (·.2)).length : Nat) : Int) = (10 + bad) * (10 + bad) + waitB T' b := by
                          rw [hw]
                          omega
                        refine ⟨F21, u13', ?_, s21, O21⟩
                        rw [← ew]
                        rfl
                  · rintro σ' H20 ⟨F20, u13', rfl, s20, O20⟩
                    have s420 := s418.trans (s19.trans s20)
                    walk_at "x"
                    refine tq_L O20 (up s420 hu4) ?_
                    cases hue : us with
                    | nil =>
                      refine x_iteT rfl ?_
                      walk_at "x"
                      have e : endC T' a b = waitB T' b + 4000 := by
                        unfold endC
                        rw [if_pos (hnil.mp hue)]
                      rw [e] at k
                      have e2 : (10 + bad) * (10 + bad) + waitB T' b + 4000 = (10 + bad) * (10 + bad) + (waitB T' b + 4000) := by omega
                      rw [e2]
                      exact k H20 F20 (s14.trans s420) O20
                    | cons u0 us0 =>
                      refine x_iteF rfl ?_
                      have hne : ¬ b.pl = a.pl := fun z => by
                        have := hnil.mpr z
                        rw [hue] at this
                        cases this
                      unfold endC at k
                      rw [if_neg hne] at k
                      walk_at "x"
                      cases hn2 : nextC T' b.pl with
                      | none =>
                        rw [hn2] at k
                        refine x_iteF rfl ?_
                        refine x_iteF rfl ?_
                        walk_at "x"
                        exact k H20 F20 (s14.trans s420) O20
                      | some c =>
                        rw [hn2] at k
                        dsimp only at k
                        have hcb := nextC_b ok hsb.1 hn2
                        have eo : optV (some c) = V.int c := rfl
                        rw [eo]
                        refine x_iteT rfl ?_
                        walk_at "x"
                        refine x_iteDn (fun hc => ?_) (fun hc => ?_)
                        · rw [if_neg hc] at k
                          walk_at "x"
                          have e2 : (10 + bad) * (10 + bad) + waitB T' b + c * c = (10 + bad) * (10 + bad) + (waitB T' b + c * c) := by omega
                          rw [e2]
                          exact k H20 F20 (s14.trans s420) O20
                        · rw [if_pos hc] at k
                          walk_at "x"
                          exact k H20 F20 (s14.trans s420) O20
                end
                end Tf
namespace Tf
open PySem PySem.Spec PyProof.Rows L2
theorem pi_tupK {X : Cx} {K : PySem.W.Frag} {tg e : Expr} {tl : TE} (he : PE X e tl) (hK : X.K = K) : PI X tg e (iTup K tl) := hK ▸ pi_tup he
theorem page_fill_len {T : Told} (ok : TOk T) {a b : Sx} (ha : IsSt T a) (hb : IsSt T b) {x : Int × List Int} (h : pageT T a b = some x) : x.2.length ≤ 127 := by
  rw [page_price ok ha hb] at h
  split at h
  · obtain ⟨h1, _⟩ := minOpt_mem h
    obtain ⟨cs, hcs, e⟩ := List.mem_filterMap.mp h1
    cases hp : priceT T a b (unitsV b.pl (startU T a.pl b.pl) (beginsL a.pl b.pl) cs) with
    | none =>
      rw [hp] at e
      cases e
    | some q =>
      rw [hp] at e
      cases e
      show (fillV cs).length ≤ 127
      unfold fillV
      rw [List.length_map, combos_len hcs]
      exact begins_len ok hb.1
  · cases h
instance simSt : SimR rSt 1 := ⟨fun h h' => sim_tup (n := 0) (by show 5 < _; decide) h h'⟩
instance simStep : SimR (rPair rInt rSt) 2 := sim_pair (n := 1) (fun h h' => Sim.le (Nat.zero_le 1) (SimR.sim (R := rInt) h h')) (fun h h' => SimR.sim (R := rSt) h h')
theorem sim_steps {F : Hp} {l : List (Int × Sx)} {v w : V} (hl : l.length < 16777216) (h : rList (rPair rInt rSt) F l v) (h' : rList (rPair rInt rSt) F l w) : Sim F 8 v w := Sim.le (by decide : 3 ≤ 8) (sim_list (n := 2) hl h h')
theorem lawSteps_len {T : Told} (ok : TOk T) {a : Sx} (ha : IsSt T a) : (lawSteps T a).length ≤ 55 * 3200 := by
  rw [← steps_law ok ha, List.length_map]
  exact pagesT_len ok ha
theorem max_most {s : StrT} (h : SOk s) {x : Int} (hx : x ∈ s.map fun v => (v.2.1.length : Int)) (hy : ∀ y ∈ s.map fun v => (v.2.1.length : Int), y ≤ x) : x = mostOf s := by
  obtain ⟨v1, hv1⟩ : ∃ v1, s[s.length - 1]? = some v1 := ⟨_, List.getElem?_eq_getElem (by have := List.length_pos_iff.mpr h.ne; omega)⟩
  rw [mostOf_last hv1]
  have h1 := hy _ (List.mem_map_of_mem (List.mem_of_getElem? hv1))
  obtain ⟨v, hv, e⟩ := List.mem_map.mp hx
  obtain ⟨i, hi, hiv⟩ := List.getElem_of_mem hv
  by_cases hl : i = s.length - 1
  · subst hl
    have : s[s.length - 1]? = some v := by rw [List.getElem?_eq_getElem hi, hiv]
    rw [hv1] at this
    cases this
    omega
  · have hp := List.pairwise_iff_getElem.mp h.asc i (s.length - 1) (by rw [List.length_map]; exact hi) (by rw [List.length_map]; omega) (by omega)
    rw [List.getElem_map, List.getElem_map, hiv] at hp
    have e2 : s[s.length - 1]'(by omega) = v1 := (List.getElem?_eq_some_iff.mp hv1).2
    rw [e2] at hp
    omega
def spLPair (C : Addr) : Sp := fun vs H Q _ => ∃ tv v av bv T a b F m, vs = [tv, v, av, bv] ∧ Own H F m ∧ NoTup m ∧ rPress C F T tv ∧ rLT F T v ∧ rSt F a av ∧ rSt F b bv ∧ TOk T ∧ IsSt T a ∧ IsSt T b ∧ ∀ H' F', Same F F' → Own H' F' m → Q (.bl true) H'
def spLTold (C : Addr) : Sp := fun vs H Q _ => ∃ tv v sv av T a F m, vs = [tv, v, sv, av] ∧ Own H F m ∧ NoTup m ∧ rPress C F T tv ∧ rLT F T v ∧ rList rSt F (states T) sv ∧ rSt F a av ∧ TOk T ∧ IsSt T a ∧ ∀ H' F', Same F F' → Own H' F' m → Q (.bl true) H'
section
variable {P : Program} {w : World} {K : PySem.W.Frag} {mg : Str → Option Value} {base : Heap}
abbrev sPa : Stmt := top 43
abbrev NPa : List Str := ["told", "a", "b", "begins", "found", "filling", "row", "price"]
theorem scPa : FnScope NPa ["told", "a", "b"] (defScope sPa) := ⟨rfl, rfl, rfl, by decide +kernel, rfl, by decide +kernel, by decide +kernel⟩
theorem ok_Pa {f f1 f2 f3 f4 : Addr} {fd fd1 fd2 fd3 fd4 : FuncData} (F : Fun K "_law_page" "_law_page" sPa f fd) (T : Bi mg) (C__law_begins : Cal P w K mg base "_law_begins" 1 f1 fd1 ["a", "b"] spLBegins) (C__law_fillings : Cal P w K mg base "_law_fillings" 1 f2 fd2 ["told", "b", "begins"] spLFills)
    (C__law_units : Cal P w K mg base "_law_units" 2 f3 fd3 ["told", "a", "b", "begins", "filling"] spLUnits) (C__law_price : Cal P w K mg base "_law_price" 3 f4 fd4 ["told", "a", "b", "units"] spLPrice) : FnOk P w K mg base CX0 4 f fd ["told", "a", "b"] spLPage := by
  refine F.ok scPa (fun vs H Q E h => ?_) (fun cdv A outer s H vs Q E hr h => ?_)
  · obtain ⟨v, av, bv, T, a, b, F, m, rfl, _⟩ := h
    rfl
  · obtain ⟨v, av, bv, T', a, b, F, m, rfl, O, hv, ha, hb, ok, hsa, hsb, k⟩ := h
    have hu64 := hr.units
    have hpp := page_price ok hsa hsb
    refine ⟨_, 
    (pss_cons (ps_set (i := 3) scPa.nd rfl (Or.inl rfl) (pe_call C__law_begins.ok (hr.mono (by first | decide | omega)) rfl C__law_begins.mg C__law_begins.kp C__law_begins.bi .nil pass0 (pa_cons (pv 1) (pa_cons (pv 2) pa_nil))))
    (Tf.pss_cut (ps_if (PW.pt (pw_or (pt_cmpR op_isNon (pv 3) pe_non (nomark _)) (pw_or (pt_cmpR op_lt (pe_ix (r := rIxT K) ix_tup (pv 2) pe_int (fun _ _ => rfl)) (pe_ix (r := rIxT K) ix_tup (pv 1) pe_int (fun _ _ => rfl)) (nomark _)) (pw_or (pt_cmpR op_lt (pe_ix (r := rIxT K) ix_tup (pv 2) pe_int (fun _ _ => rfl)) (pe_ix (r := rIxT K) ix_tup (pv 1) pe_int (fun _ _ => rfl)) (nomark _)) (pw_or1 (pt_cmpR (op_eqD hu64) (pv 1) (pv 2) (nomark _))))))) 
      (pss_one (ps_ret pe_non)) pss_nil)
    (pss_cons (ps_set (i := 4) scPa.nd rfl (Or.inl rfl) (pe_lst pa_nil))
    (pss_cons (ps_for PassesOwn.never rfl (pi_list (pe_call C__law_fillings.ok (hr.mono (by first | decide | omega)) rfl C__law_fillings.mg C__law_fillings.kp C__law_fillings.bi .nil pass0 (pa_cons (pv 0) (pa_cons (pv 2) (pa_cons (pv 3) pa_nil))))) (pg_name (i := 5) scPa.nd rfl (Or.inl rfl)) 
      (pss_cons (ps_set (i := 6) scPa.nd rfl (Or.inl rfl) (pe_call C__law_units.ok (hr.mono (by first | decide | omega)) rfl C__law_units.mg C__law_units.kp C__law_units.bi .nil pass0 (pa_cons (pv 0) (pa_cons (pv 1) (pa_cons (pv 2) (pa_cons (pv 3) (pa_cons (pv 5) pa_nil)))))))
      (pss_cons (ps_set (i := 7) scPa.nd rfl (Or.inl rfl) (pe_call C__law_price.ok (hr.mono (by first | decide | omega)) rfl C__law_price.mg C__law_price.kp C__law_price.bi .nil pass0 (pa_cons (pv 0) (pa_cons (pv 1) (pa_cons (pv 2) (pa_cons (pe_ix (r := rIxL K) ix_list (pv 6) pe_int (fun _ _ => rfl)) pa_nil))))))
      (pss_one (ps_if (pt_cmpR op_notNon (pv 7) pe_non (nomark _)) 
        (pss_one (ps_expr (pe_bm PySem.F.plainAttrs_list PySem.F.slot_list_append PySem.F.type_list_append mt_append (pv 4) (pa_cons (pe_tup (pa_cons (pe_op op_add (pv 7) (pe_ix (r := rIxL K) ix_list (pv 6) pe_int (fun _ _ => rfl))) (pa_cons (pv 5) pa_nil))) pa_nil)))) pss_nil)))))
    (pss_cons (ps_if (pt_not (pt_tru (pv 4) (by intro _; rfl))) 
      (pss_one (ps_ret pe_non)) pss_nil)
    (pss_one (ps_ret (pe_callB (Tf.cr_minDat rfl hu64) (by rfl) T.b_min (by decide +kernel) (pa_cons (pv 4) pa_nil))))))))), ?_⟩
    walk_at "x"
    refine ⟨av, bv, T', a, b, F, m, rfl, O, ha, hb, ok, hsa.1, hsb.1, fun bg H1 F1 s1 O1 hbg => ?_⟩
    have hno : (¬ (follows a.pl b.pl ∧ a.2.2.2.1 ≤ b.2.2.2.1 ∧ a.2.2.2.2 ≤ b.2.2.2.2 ∧ a ≠ b)) → ∀ H' F', Same F F' → Own H' F' m → Q .non H' := fun h H' F' s' O' => by
      rw [hpp, if_neg h] at k
      exact k .non H' F' s' O' rfl
    walk_at "x"
    have ha1 := up (R := rTup rInt) s1 ha
    have hb1 := up (R := rTup rInt) s1 hb
    have hv1 := up s1 hv
    refine x_cut (fun σ' H' => ∃ (F2 : Hp), σ' = [some v, some av, some bv, some bg, none, none, none, none] ∧ Same F1 F2 ∧ Own H' F2 m ∧ rKs F2 (beginsL a.pl b.pl) bg ∧ follows a.pl b.pl ∧ a.2.2.2.1 ≤ b.2.2.2.1 ∧ a.2.2.2.2 ≤ b.2.2.2.2 ∧ a ≠ b) ?_ ?_
    · walk_at "x"
      by_cases hf : follows a.pl b.pl
      · rw [if_pos hf] at hbg
        have hbg : rKs F1 (beginsL a.pl b.pl) bg := hbg
        obtain ⟨pa, pus, rfl, hpa, hpus⟩ := id hbg
        refine x_iteF rfl ?_
        walk_at "x"
        refine x_ixTI (j := 3) O1 hb1 rfl rfl ?_
        walk_at "x"
        refine x_ixTI (j := 3) O1 ha1 rfl rfl ?_
        walk_at "x"
        refine x_iteD (fun h3 => ?_) (fun h3 => ?_)
        · refine x_iteT rfl ?_
          walk_at "x"
          exact hno (fun z => by
            have := z.2.1
            omega) H1 F1 s1 O1
        walk_at "x"
        refine x_ixTI (j := 4) O1 hb1 rfl rfl ?_
        walk_at "x"
        refine x_ixTI (j := 4) O1 ha1 rfl rfl ?_
        walk_at "x"
        refine x_iteD (fun h4 => ?_) (fun h4 => ?_)
        · refine x_iteT rfl ?_
          walk_at "x"
          exact hno (fun z => by
            have := z.2.2.1
            omega) H1 F1 s1 O1
        walk_at "x"
        refine x_eqD (R := rTup rInt) O1 ha1 hb1 ?_
        rw [dec_iff stL_inj]
        walk_at "x"
        refine x_iteD (fun he => ?_) (fun he => ?_)
        · walk_at "x"
          exact hno (fun z => z.2.2.2 he) H1 F1 s1 O1
        · walk_at "x"
          exact ⟨F1, rfl, Same.refl _, O1, hbg, hf, by omega, by omega, he⟩
      · rw [if_neg hf] at hbg
        have hbg : bg = .non := hbg
        subst hbg
        refine x_iteT rfl ?_
        refine x_iteT rfl ?_
        walk_at "x"
        exact hno (fun z => hf z.1) H1 F1 s1 O1
    · rintro σ' H2 ⟨F2, rfl, s2, O2, hbg2, hf, h3, h4, hne⟩
      rw [hpp, if_pos ⟨hf, h3, h4, hne⟩] at k
      have hfew := begins_few ok hsa.1 hsb.1 hf (beginsL a.pl b.pl).length
      rw [List.take_length] at hfew
      have s12 := s1.trans s2
      walk_at "x"
      refine x_ownL (vs := []) O2 (Nat.zero_le _) (fun fl H3 hn3 O3 => ?_)
      walk_at "x"
      refine ⟨v, bv, bg, T', a.pl, b, F2, _, rfl, O3, up s12 hv, up (R := rTup rInt) s12 hb, hbg2, ok, hsa.1, hsb.1, hf, fun lv H4 F4 s4 O4 hlv => ?_⟩
      have s14 := s12.trans s4
      refine x_doL (R := rTup rInt) O4 hlv (fun i σ F' m' => ∃ (us : List V) (u5 u6 u7 : Option V), σ = [some v, some av, some bv, some bg, some (.ref fl), u5, u6, u7] ∧ m' = (fl, .lst us) :: m ∧ All2 (rPair rInt (rTup rInt) F') (((combos T' b.pl (beginsL a.pl b.pl)).take i).filterMap fun cs => (priceT T' a b (unitsV b.pl (startU T' a.pl b.pl) (beginsL a.pl b.pl) cs)).map fun p => (p + costV cs, fillV cs)) us)
        ⟨[], _, _, _, rfl, rfl, .nil⟩ ?_ ?_
      · rintro i q z σ' H5 F5 m5 hi hz s5 O5 ⟨us, u5, u6, u7, rfl, rfl, hus⟩
        rw [List.getElem?_map] at hi
        obtain ⟨cs, hcs, rfl⟩ := Option.map_eq_some_iff.mp hi
        have il := (List.getElem?_eq_some_iff.mp hcs).1
        have hcm := List.mem_of_getElem? hcs
        have hul : us.length ≤ 30 := by
          rw [← hus.length]
          refine Nat.le_trans (List.length_filterMap_le _ _) ?_
          rw [List.length_take]
          omega
        have s15 := s14.trans s5
        have s25 := s4.trans s5
        walk_at "x"
        refine ⟨v, av, bv, bg, z, T', a, b, cs, F5, _, rfl, O5, up s15 hv, up (R := rTup rInt) s15 ha, up (R := rTup rInt) s15 hb, up s25 hbg2, hz, ok, hsa.1, hsb.1, hcm, fun p u H6 F6 s6 O6 hp6 hu6 => ?_⟩
        walk_at "x"
        refine x_ixF (j := 0) O6 hp6 rfl rfl ?_
        walk_at "x"
        have s16 := s15.trans s6
        refine ⟨v, av, bv, u, T', a, b, _, F6, _, rfl, O6, up s16 hv, up (R := rTup rInt) s16 ha, up (R := rTup rInt) s16 hb, hu6, ok, hsa, hsb, h3, h4, units_nil ok hsa.1 hsb.1 hf hcm, units_ok ok hsa.1 hsb.1 hf hcm, fun H7 F7 s7 O7 => ?_⟩
        walk_at "x"
        have s57 := s6.trans s7
        cases hp : priceT T' a b (unitsV b.pl (startU T' a.pl b.pl) (beginsL a.pl b.pl) cs) with
        | none =>
          refine x_iteF rfl ?_
          walk_at "x"
          refine LI.mk (s5.trans s57) O7 ⟨us, _, _, _, rfl, rfl, ?_⟩
          rw [fm_take hcs, hp]
          show All2 _ (_ ++ []) us
          rw [List.append_nil]
          exact all2_up s57 hus
        | some pr =>
          have eo : optV (some pr) = V.int pr := rfl
          rw [eo]
          refine x_iteT rfl ?_
          walk_at "x"
          refine ⟨ty_list O7.at0, ?_⟩
          walk_at "x"
          refine x_ixF (j := 1) O7 (s7 _ _ hp6) rfl rfl ?_
          walk_at "x"
          refine x_newPair (R := rInt) (S := rTup rInt) (x := pr + costV cs) (y := fillV cs) O7 rfl (up s57 hz) (fun r8 H8 F8 s8 O8 hr8 => ?_)
          walk_at "x"
          refine x_append O8 (by omega) (fun H9 O9 => ?_)
          walk_at "x"
          refine LI.mk (s5.trans (s57.trans s8)) O9 ⟨_, _, _, _, rfl, rfl, ?_⟩
          rw [fm_take hcs, hp]
          exact (all2_up (s57.trans s8) hus).snoc hr8
      · rintro σ' H5 F5 m5 s5 O5 ⟨us, u5, u6, u7, rfl, rfl, hus⟩
        rw [List.length_map, List.take_length] at hus
        have s15 := s14.trans s5
        walk_at "x"
        refine tq_listM O5 List.mem_cons_self ?_
        generalize ((combos T' b.pl (beginsL a.pl b.pl)).filterMap fun cs => (priceT T' a b (unitsV b.pl (startU T' a.pl b.pl) (beginsL a.pl b.pl) cs)).map fun p => (p + costV cs, fillV cs)) = ps at hus k
        cases hus with
        | nil =>
          refine x_iteT rfl ?_
          walk_at "x"
          exact k .non H5 F5 s15 O5.tail rfl
        | @cons p0 v0 ps0 vs0 hp0 hps =>
          refine x_iteF rfl ?_
          have s6 := O5.freeze_same
          have hl6 : rList (rPair rInt (rTup rInt)) (upd F5 fl (.lst (v0 :: vs0))) (p0 :: ps0) (.ref fl) := ⟨fl, _, rfl, upd_same, all2_up s6 (.cons hp0 hps)⟩
          have O6 := O5.freeze
          generalize upd F5 fl (.lst (v0 :: vs0)) = F6 at O6 s6 hl6
          walk_at "x"
          refine x_minDat (R := rPair rInt (rTup rInt)) O6 hl6 (fun wv hwv => ?_)
          exact k wv H5 F6 (s15.trans s6) O6 hwv
abbrev sLst : Stmt := top 44
abbrev NLst : List Str := ["told", "states", "a", "found", "b", "page"]
theorem scLst : FnScope NLst ["told", "states", "a"] (defScope sLst) := ⟨rfl, rfl, rfl, by decide +kernel, rfl, by decide +kernel, by decide +kernel⟩
theorem ok_Lst {f f1 : Addr} {fd fd1 : FuncData} (F : Fun K "_law_steps" "_law_steps" sLst f fd) (T : Bi mg) (C__law_page : Cal P w K mg base "_law_page" 4 f1 fd1 ["told", "a", "b"] spLPage) : FnOk P w K mg base CX0 5 f fd ["told", "states", "a"] spLSteps := by
  refine F.ok scLst (fun vs H Q E h => ?_) (fun cdv A outer s H vs Q E hr h => ?_)
  · obtain ⟨v, sv, av, T, a, F, m, rfl, _⟩ := h
    rfl
  · obtain ⟨v, sv, av, T', a, F, m, rfl, O, hv, hsv, ha, ok, hsa, k⟩ := h
    have hsl := states_len ok
    refine ⟨_, 
    (pss_cons (ps_set (i := 3) scLst.nd rfl (Or.inl rfl) (pe_lst pa_nil))
    (pss_cons (ps_for PassesOwn.never rfl (pi_list (pv 1)) (pg_name (i := 4) scLst.nd rfl (Or.inl rfl)) 
      (pss_cons (ps_set (i := 5) scLst.nd rfl (Or.inl rfl) (pe_call C__law_page.ok (hr.mono (by first | decide | omega)) rfl C__law_page.mg C__law_page.kp C__law_page.bi .nil pass0 (pa_cons (pv 0) (pa_cons (pv 2) (pa_cons (pv 4) pa_nil)))))
      (pss_one (ps_if (pt_cmpR op_notNon (pv 5) pe_non (nomark _)) 
        (pss_one (ps_expr (pe_bm PySem.F.plainAttrs_list PySem.F.slot_list_append PySem.F.type_list_append mt_append (pv 3) (pa_cons (pe_tup (pa_cons (pe_ix (r := rIxT K) ix_tup (pv 5) pe_int (fun _ _ => rfl)) (pa_cons (pv 4) pa_nil))) pa_nil)))) pss_nil))))
    (pss_one (ps_ret (pv 3))))), ?_⟩
    walk_at "x"
    refine x_ownL (vs := []) O (Nat.zero_le _) (fun fl H1 hn1 O1 => ?_)
    walk_at "x"
    refine x_doL (R := rSt) O1 hsv (fun i σ F' m' => ∃ (us : List V) (u4 u5 : Option V), σ = [some v, some sv, some av, some (.ref fl), u4, u5] ∧ m' = (fl, .lst us) :: m ∧ All2 (rPair rInt rSt F') (((states T').take i).filterMap fun b => (pageT T' a b).map fun x => (x.1, b)) us)
      ⟨[], _, _, rfl, rfl, .nil⟩ ?_ ?_
    · rintro i b z σ' H2 F2 m2 hi hz s2 O2 ⟨us, u4, u5, rfl, rfl, hus⟩
      have il := (List.getElem?_eq_some_iff.mp hi).1
      have hsb := states_ok (List.mem_of_getElem? hi)
      have hul : us.length ≤ i := by
        rw [← hus.length]
        refine Nat.le_trans (List.length_filterMap_le _ _) ?_
        rw [List.length_take]
        omega
      walk_at "x"
      refine ⟨v, av, z, T', a, b, F2, _, rfl, O2, up s2 hv, up (R := rTup rInt) s2 ha, hz, ok, hsa, hsb, fun r3 H3 F3 s3 O3 hr3 => ?_⟩
      walk_at "x"
      cases hp : pageT T' a b with
      | none =>
        rw [hp] at hr3
        have hr3 : r3 = .non := hr3
        subst hr3
        refine x_iteF rfl ?_
        walk_at "x"
        refine LI.mk (s2.trans s3) O3 ⟨us, _, _, rfl, rfl, ?_⟩
        rw [fm_take hi, hp]
        show All2 _ (_ ++ []) us
        rw [List.append_nil]
        exact all2_up s3 hus
      | some x =>
        rw [hp] at hr3
        have hr3 : rPair rInt (rTup rInt) F3 x r3 := hr3
        obtain ⟨ra, r1, r2, rfl, hra, hr1, hr2⟩ := id hr3
        refine x_iteT rfl ?_
        walk_at "x"
        refine ⟨ty_list O3.at0, ?_⟩
        walk_at "x"
        refine x_fst O3 hr3 (fun c1 hc1 => ?_)
        walk_at "x"
        refine x_newPair (R := rInt) (S := rSt) (x := x.1) (y := b) O3 hc1 (up (R := rTup rInt) s3 hz) (fun r4 H4 F4 s4 O4 hr4 => ?_)
        walk_at "x"
        refine x_append O4 (by omega) (fun H5 O5 => ?_)
        walk_at "x"
        refine LI.mk (s2.trans (s3.trans s4)) O5 ⟨_, _, _, rfl, rfl, ?_⟩
        rw [fm_take hi, hp]
        exact (all2_up (s3.trans s4) hus).snoc hr4
    · rintro σ' H2 F2 m2 s2 O2 ⟨us, u4, u5, rfl, rfl, hus⟩
      rw [List.take_length] at hus
      walk_at "x"
      have s3 := O2.freeze_same
      exact k (.ref fl) H2 _ (s2.trans s3) O2.freeze ⟨fl, us, rfl, upd_same, all2_up s3 hus⟩
abbrev sLr : Stmt := top 45
abbrev NLr : List Str := ["told", "state", "most", "strand", "variant"]
theorem scLr : FnScope NLr ["told", "state"] (defScope sLr) := ⟨rfl, rfl, rfl, by decide +kernel, rfl, by decide +kernel, by decide +kernel⟩
theorem ok_Lr {f : Addr} {fd : FuncData} (F : Fun K "_law_rank" "_law_rank" sLr f fd) (T : Bi mg) : FnOk P w K mg base CX0 1 f fd ["told", "state"] spLRank := by
  refine F.ok scLr (fun vs H Q E h => ?_) (fun cdv A outer s H vs Q E hr h => ?_)
  · obtain ⟨v, av, T, a, F, m, rfl, _⟩ := h
    rfl
  · obtain ⟨v, av, T', a, F, m, rfl, O, hv, ha, ok, hsa, k⟩ := h
    have hmany := ok.many
    refine ⟨_, 
    (pss_cons (ps_setLc (i := 2) (own := [("strand", 3)]) (g := (gName 3)) (tt := tYes) rfl scLr.nd rfl rfl (sw_true rfl rfl rfl (by decide +kernel)) (pi_tup (pe_slice sl_tupA (pe_ix (r := rIxL K) ix_list (pv 0) pe_int (fun _ _ => rfl)) po_none (po_some (pe_ix (r := rIxT K) ix_tup (pv 1) pe_int (fun _ _ => rfl))))) (blkOk_by (N := NLr) (sc := defScope sLr) (by decide +kernel)) (fun _ _ _ _ _ => (pg_name (i := 3) scLr.nd rfl (by first | exact Or.inl rfl | exact Or.inr rfl))) (fun _ _ _ _ _ => pts_nil) (fun _ _ _ _ _ => (pe_callB (id := "max") (r := rMax K) (cr_max rfl) (by rfl) T.b_max (by decide +kernel) (pa_cons (pe_lc (own := [("variant", 4)]) (g := (gName 4)) (tt := tYes) rfl scLr.nd (Tf.pi_tupK (K := K) (pv 3) rfl) (blkOk_by (N := NLr) (by rfl)) (fun _ _ _ _ _ => (pg_name (i := 4) scLr.nd rfl (by first | exact Or.inl rfl | exact Or.inr rfl))) (fun _ _ _ _ _ => pts_nil) (fun _ _ _ _ _ => (pe_callB (id := "len") (r := rLen K) cr_len (by rfl) T.b_len (by decide +kernel) (pa_cons (pe_ix (r := rIxT K) ix_tup (pv 4) pe_int (fun _ _ => rfl)) pa_nil)))) pa_nil))))
    (pss_one (ps_ret (pe_op op_add (pe_op op_add (pe_op op_add (pe_callB (id := "sum") (r := Tf.rSumT K) (Tf.cr_sumT rfl) (by rfl) T.b_sum (by decide +kernel) (pa_cons (pv 2) pa_nil)) (pe_ix (r := rIxT K) ix_tup (pv 1) pe_int (fun _ _ => rfl))) (pe_ix (r := rIxT K) ix_tup (pv 1) pe_int (fun _ _ => rfl))) (pe_ix (r := rIxT K) ix_tup (pv 1) pe_int (fun _ _ => rfl)))))), ?_⟩
    walk_at "x"
    refine x_lt0 O hv (fun w0 hw0 => ?_)
    walk_at "x"
    refine x_ixTI (j := 0) O ha rfl rfl ?_
    refine ⟨_, rfl, ?_⟩
    refine x_slTA O hw0 (fun r1 H1 F1 s1 O1 hr1 => ?_)
    rw [cutL_to] at hr1
    refine x_docT (R := rStrand) (S := rInt) O1 hr1 (fun i F' m' ys => m' = m ∧ ys = ((T'.strands.take a.1).take i).map mostOf) ⟨rfl, by simp⟩ ?_ ?_
    · rintro D acc i st z H2 F2 m2 ys hi hz s2 O2 hacc hyl ⟨rfl, rfl⟩
      have il := (List.getElem?_eq_some_iff.mp hi).1
      rw [List.length_take] at il
      have S := ok.strands st (List.mem_of_mem_take (List.mem_of_getElem? hi))
      have hfew := S.few
      walk_at "x"
      refine ⟨rfl, ?_⟩
      walk_at "x"
      refine x_iteT rfl ?_
      walk_at "x"
      refine x_docT (R := rVari) (S := rInt) O2 hz (fun j F5 m5 ys => m5 = (D, .lst acc) :: m2 ∧ ys = (st.take j).map fun v => (v.2.1.length : Int)) ⟨rfl, by simp⟩ ?_ ?_
      · rintro D2 acc2 j va x H4 F4 m4 ys hj hx s4 O4 hacc2 hyl2 ⟨rfl, rfl⟩
        have jl := (List.getElem?_eq_some_iff.mp hj).1
        walk_at "x"
        refine ⟨rfl, ?_⟩
        walk_at "x"
        refine x_iteT rfl ?_
        walk_at "x"
        refine x_tri1 O4 hx (fun u1 hu1 => ?_)
        walk_at "x"
        refine x_lenT O4 hu1 ?_
        refine x_keep (S := rInt) (z := (va.2.1.length : Int)) O4 s4 rfl hacc2 hyl2 (by omega) ⟨rfl, ?_⟩
        rw [List.take_add_one, hj, List.map_append]
        rfl
      · rintro zv H4 F4 m4 ys s4 O4 hzv ⟨rfl, rfl⟩
        rw [List.take_length] at hzv
        walk_at "x"
        refine x_maxL O4 hzv (fun e => S.ne (List.map_eq_nil_iff.mp e)) (fun x hx hy => ?_)
        have ex := max_most S hx hy
        subst ex
        refine x_keep (S := rInt) (z := mostOf st) O4 (s2.trans s4) rfl (all2_up s4 hacc) hyl (by omega) ⟨rfl, ?_⟩
        rw [List.take_add_one, hi, List.map_append]
        rfl
    · rintro bv H2 F2 m2 ys s2 O2 hbv ⟨rfl, rfl⟩
      rw [List.take_length] at hbv
      have ha2 := up (R := rTup rInt) (s1.trans s2) ha
      walk_at "x"
      refine x_sumL O2 hbv ?_
      walk_at "x"
      refine x_ixTI (j := 2) O2 ha2 rfl rfl ?_
      walk_at "x"
      refine x_ixTI (j := 3) O2 ha2 rfl rfl ?_
      walk_at "x"
      refine x_ixTI (j := 4) O2 ha2 rfl rfl ?_
      walk_at "x"
      exact k H2 F2 (s1.trans s2) O2
abbrev sLq : Stmt := top 46
abbrev NLq : List Str := ["task", "told", "a", "b", "page"]
theorem scLq : FnScope NLq ["task", "told", "a", "b"] (defScope sLq) := ⟨rfl, rfl, rfl, by decide +kernel, rfl, by decide +kernel, by decide +kernel⟩
theorem ok_Lq {f C f1 f2 f3 f4 : Addr} {fd fd1 fd2 fd3 fd4 : FuncData} (F : Fun K "_law_pair" "_law_pair" sLq f fd) (T : Bi mg) (C__law_page : Cal P w K mg base "_law_page" 4 f1 fd1 ["told", "a", "b"] spLPage) (M_PressTask_page_cost : Met P w K mg base C "page_cost" 8 f2 fd2 ["self", "a", "b"] (spPCost C))
    (M_PressTask_filling : Met P w K mg base C "filling" 8 f3 fd3 ["self", "a", "b"] (spPFill C)) (C__law_same : Cal P w K mg base "_law_same" 9 f4 fd4 ["got", "due"] (spSame 9)) : FnOk P w K mg base CX0 10 f fd ["task", "told", "a", "b"] (spLPair C) := by
  refine F.ok scLq (fun vs H Q E h => ?_) (fun cdv A outer s H vs Q E hr h => ?_)
  · obtain ⟨tv, v, av, bv, T, a, b, F, m, rfl, _⟩ := h
    rfl
  · obtain ⟨tv, v, av, bv, T', a, b, F, m, rfl, O, hm, ht, hv, ha, hb, ok, hsa, hsb, k⟩ := h
    obtain ⟨x, dx, s1, f1, l1, o1, la1, ma1, rfl, hx, h1, h2, h3, h4, h5, h6⟩ := id ht
    refine ⟨_, 
    (pss_cons (ps_set (i := 4) scLq.nd rfl (Or.inl rfl) (pe_call C__law_page.ok (hr.mono (by first | decide | omega)) rfl C__law_page.mg C__law_page.kp C__law_page.bi .nil pass0 (pa_cons (pv 1) (pa_cons (pv 2) (pa_cons (pv 3) pa_nil)))))
    (pss_cons (ps_if (pt_cmpR op_isNon (pv 4) pe_non (nomark _)) 
      (pss_one (ps_ret (pe_and (pe_cmpR op_isNon (pe_meth (pv 0) M_PressTask_page_cost.cl M_PressTask_page_cost.me M_PressTask_page_cost.ok (hr.mono (by first | decide | omega)) M_PressTask_page_cost.bi .nil pass0 (pa_cons (pv 2) (pa_cons (pv 3) pa_nil))) pe_non (nomark _)) (pe_one (pe_cmpR op_isNon (pe_meth (pv 0) M_PressTask_filling.cl M_PressTask_filling.me M_PressTask_filling.ok (hr.mono (by first | decide | omega)) M_PressTask_filling.bi .nil pass0 (pa_cons (pv 2) (pa_cons (pv 3) pa_nil))) pe_non (nomark _)))))) pss_nil)
    (pss_one (ps_ret (pe_and (pe_call C__law_same.ok (hr.mono (by first | decide | omega)) rfl C__law_same.mg C__law_same.kp C__law_same.bi .nil pass0 (pa_cons (pe_meth (pv 0) M_PressTask_page_cost.cl M_PressTask_page_cost.me M_PressTask_page_cost.ok (hr.mono (by first | decide | omega)) M_PressTask_page_cost.bi .nil pass0 (pa_cons (pv 2) (pa_cons (pv 3) pa_nil))) (pa_cons (pe_ix (r := rIxT K) ix_tup (pv 4) pe_int (fun _ _ => rfl)) pa_nil))) (pe_one (pe_call C__law_same.ok (hr.mono (by first | decide | omega)) rfl C__law_same.mg C__law_same.kp C__law_same.bi .nil pass0 (pa_cons (pe_meth (pv 0) M_PressTask_filling.cl M_PressTask_filling.me M_PressTask_filling.ok (hr.mono (by first | decide | omega)) M_PressTask_filling.bi .nil pass0 (pa_cons (pv 2) (pa_cons (pv 3) pa_nil))) (pa_cons (pe_ix (r := rIxT K) ix_tup (pv 4) pe_int (fun _ _ => rfl)) pa_nil))))))))), ?_⟩
    walk_at "x"
    refine ⟨v, av, bv, T', a, b, F, m, rfl, O, hv, ha, hb, ok, hsa, hsb, fun r1 H1 F1 s1 O1 hr1 => ?_⟩
    walk_at "x"
    have ht1 := up s1 ht
    have ha1 := up (R := rTup rInt) s1 ha
    have hb1 := up (R := rTup rInt) s1 hb
    cases hp : pageT T' a b with
    | none =>
      rw [hp] at hr1
      have hr1 : r1 = .non := hr1
      subst hr1
      refine x_iteT rfl ?_
      walk_at "x"
      refine mq_of (O1.frz (s1 _ _ hx)) (pF_non (n := "page_cost") (by decide +kernel)) ?_
      walk_at "x"
      refine ⟨_, av, bv, T', a, b, F1, m, rfl, O1, hm, ht1, ha1, hb1, ok, hsa, hsb, fun H2 F2 s2 O2 => ?_⟩
      rw [hp]
      have eo : optV ((none : Option (Int × List Int)).map (·.1)) = V.non := rfl
      rw [eo]
      walk_at "x"
      refine x_iteT rfl ?_
      have s12 := s1.trans s2
      walk_at "x"
      refine mq_of (O2.frz (s12 _ _ hx)) (pF_non (n := "filling") (by decide +kernel)) ?_
      walk_at "x"
      refine ⟨_, av, bv, T', a, b, F2, m, rfl, O2, hm, up s2 ht1, up (R := rTup rInt) s2 ha1, up (R := rTup rInt) s2 hb1, ok, hsa, hsb, fun r3 H3 F3 s3 O3 hr3 => ?_⟩
      rw [hp] at hr3
      have hr3 : r3 = .non := hr3
      subst hr3
      walk_at "x"
      exact k H3 F3 (s12.trans s3) O3
    | some y =>
      rw [hp] at hr1
      have hr1 : rPair rInt (rTup rInt) F1 y r1 := hr1
      obtain ⟨ra, q1, q2, rfl, hra, hq1, hq2⟩ := id hr1
      have hlen := page_fill_len ok hsa hsb hp
      refine x_iteF rfl ?_
      walk_at "x"
      refine mq_of (O1.frz (s1 _ _ hx)) (pF_non (n := "page_cost") (by decide +kernel)) ?_
      walk_at "x"
      refine ⟨_, av, bv, T', a, b, F1, m, rfl, O1, hm, ht1, ha1, hb1, ok, hsa, hsb, fun H2 F2 s2 O2 => ?_⟩
      rw [hp]
      have eo : optV ((some y).map (·.1)) = V.int y.1 := rfl
      rw [eo]
      walk_at "x"
      refine x_fst O2 (up s2 hr1) (fun c1 hc1 => ?_)
      have hc1 : c1 = .int y.1 := hc1
      subst hc1
      walk_at "x"
      refine ⟨_, _, F2, m, rfl, O2, Sim.le (Nat.zero_le 8) ⟨rfl, rfl⟩, fun H3 O3 => ?_⟩
      walk_at "x"
      refine x_iteT rfl ?_
      have s12 := s1.trans s2
      walk_at "x"
      refine mq_of (O3.frz (s12 _ _ hx)) (pF_non (n := "filling") (by decide +kernel)) ?_
      walk_at "x"
      refine ⟨_, av, bv, T', a, b, F2, m, rfl, O3, hm, up s2 ht1, up (R := rTup rInt) s2 ha1, up (R := rTup rInt) s2 hb1, ok, hsa, hsb, fun r4 H4 F4 s4 O4 hr4 => ?_⟩
      rw [hp] at hr4
      have hr4 : rTup rInt F4 y.2 r4 := hr4
      walk_at "x"
      refine x_snd O4 (up (s2.trans s4) hr1) (fun c2 hc2 => ?_)
      walk_at "x"
      refine ⟨_, _, F4, m, rfl, O4, Sim.le (by decide : 1 ≤ 8) (sim_tup (n := 0) (by omega) hr4 hc2), fun H5 O5 => ?_⟩
      exact k H5 F4 (s12.trans s4) O5
abbrev sLt : Stmt := top 47
abbrev NLt : List Str := ["task", "told", "states", "a", "due", "got"]
theorem scLt : FnScope NLt ["task", "told", "states", "a"] (defScope sLt) := ⟨rfl, rfl, rfl, by decide +kernel, rfl, by decide +kernel, by decide +kernel⟩
theorem ok_Lt {f C f1 f2 f3 f4 f5 : Addr} {fd fd1 fd2 fd3 fd4 fd5 : FuncData} (F : Fun K "_law_state_told" "_law_state_told" sLt f fd) (T : Bi mg) (C__law_steps : Cal P w K mg base "_law_steps" 5 f1 fd1 ["told", "states", "a"] spLSteps) (M_PressTask_steps : Met P w K mg base C "steps" 8 f2 fd2 ["self", "state"] (spSteps C))
    (C__law_same : Cal P w K mg base "_law_same" 9 f3 fd3 ["got", "due"] (spSame 9)) (M_PressTask_rank : Met P w K mg base C "rank" 1 f4 fd4 ["self", "state"] (spPRank C)) (C__law_rank : Cal P w K mg base "_law_rank" 1 f5 fd5 ["told", "state"] spLRank) : FnOk P w K mg base CX0 10 f fd ["task", "told", "states", "a"] (spLTold C) := by
  refine F.ok scLt (fun vs H Q E h => ?_) (fun cdv A outer s H vs Q E hr h => ?_)
  · obtain ⟨tv, v, sv, av, T, a, F, m, rfl, _⟩ := h
    rfl
  · obtain ⟨tv, v, sv, av, T', a, F, m, rfl, O, hm, ht, hv, hsv, ha, ok, hsa, k⟩ := h
    obtain ⟨x, dx, s1, f1, l1, o1, la1, ma1, rfl, hx, h1, h2, h3, h4, h5, h6⟩ := id ht
    have hll := lawSteps_len ok hsa
    refine ⟨_, 
    (pss_cons (ps_set (i := 4) scLt.nd rfl (Or.inl rfl) (pe_call C__law_steps.ok (hr.mono (by first | decide | omega)) rfl C__law_steps.mg C__law_steps.kp C__law_steps.bi .nil pass0 (pa_cons (pv 1) (pa_cons (pv 2) (pa_cons (pv 3) pa_nil)))))
    (pss_cons (ps_set (i := 5) scLt.nd rfl (Or.inl rfl) (pe_meth (pv 0) M_PressTask_steps.cl M_PressTask_steps.me M_PressTask_steps.ok (hr.mono (by first | decide | omega)) M_PressTask_steps.bi .nil pass0 (pa_cons (pv 3) pa_nil)))
    (Tf.pss_cut (ps_if (pt_not (pt_val (pe_call C__law_same.ok (hr.mono (by first | decide | omega)) rfl C__law_same.mg C__law_same.kp C__law_same.bi .nil pass0 (pa_cons (pv 5) (pa_cons (pv 4) pa_nil))))) 
      (pss_one (ps_ret pe_bl)) pss_nil)
    (pss_cons (ps_expr (pe_bm PySem.F.plainAttrs_list PySem.F.slot_list_append PySem.F.type_list_append mt_append (pv 5) (pa_cons (pe_tup (pa_cons pe_int (pa_cons (pv 3) pa_nil))) pa_nil)))
    (pss_one (ps_ret (pe_and (pe_call C__law_same.ok (hr.mono (by first | decide | omega)) rfl C__law_same.mg C__law_same.kp C__law_same.bi .nil pass0 (pa_cons (pe_meth (pv 0) M_PressTask_steps.cl M_PressTask_steps.me M_PressTask_steps.ok (hr.mono (by first | decide | omega)) M_PressTask_steps.bi .nil pass0 (pa_cons (pv 3) pa_nil)) (pa_cons (pv 4) pa_nil))) (pe_one (pe_call C__law_same.ok (hr.mono (by first | decide | omega)) rfl C__law_same.mg C__law_same.kp C__law_same.bi .nil pass0 (pa_cons (pe_meth (pv 0) M_PressTask_rank.cl M_PressTask_rank.me M_PressTask_rank.ok (hr.mono (by first | decide | omega)) M_PressTask_rank.bi .nil pass0 (pa_cons (pv 3) pa_nil)) (pa_cons (pe_call C__law_rank.ok (hr.mono (by first | decide | omega)) rfl C__law_rank.mg C__law_rank.kp C__law_rank.bi .nil pass0 (pa_cons (pv 1) (pa_cons (pv 3) pa_nil))) pa_nil))))))))))), ?_⟩
    walk_at "x"
    refine ⟨v, sv, av, T', a, F, m, rfl, O, hv, hsv, ha, ok, hsa, fun dv H1 F1 s1 O1 hdv => ?_⟩
    walk_at "x"
    refine mq_of (O1.frz (s1 _ _ hx)) (pF_non (n := "steps") (by decide +kernel)) ?_
    walk_at "x"
    refine ⟨_, av, T', a, F1, m, rfl, O1, hm, up s1 ht, up (R := rTup rInt) s1 ha, ok, hsa, fun p H2 F2 us s2 O2 hus => ?_⟩
    have hul := hus.length
    walk_at "x"
    have s12 := s1.trans s2
    have fr2 := O2.fr0
    have s3 := O2.freeze_same
    have O3 := O2.freeze
    have hgot : rList (rPair rInt rSt) (upd F2 p (.lst us)) (lawSteps T' a) (.ref p) := ⟨p, us, rfl, upd_same, all2_up s3 hus⟩
    refine x_cut (fun σ' H' => σ' = [some (.ref x), some v, some sv, some av, some dv, some (.ref p)] ∧ Own H' (upd F2 p (.lst us)) m) ?_ ?_
    · walk_at "x"
      refine ⟨_, _, _, m, rfl, O3, sim_steps (by omega) hgot (up (s2.trans s3) hdv), fun H4 O4 => ?_⟩
      walk_at "x"
      refine x_iteF rfl ?_
      walk_at "x"
      exact ⟨rfl, O4⟩
    · rintro σ' H4 ⟨rfl, O4⟩
      have O5 := O4.thaw fr2
      walk_at "x"
      refine ⟨ty_list O5.at0, ?_⟩
      walk_at "x"
      refine x_newPair (R := rInt) (S := rSt) (x := 0) (y := a) O5 rfl (up (R := rTup rInt) s12 ha) (fun qv H6 F6 s6 O6 hqv => ?_)
      walk_at "x"
      refine x_append O6 (by omega) (fun H7 O7 => ?_)
      walk_at "x"
      have s16 := s12.trans s6
      refine mq_of (O7.frz (s16 _ _ hx)) (pF_non (n := "steps") (by decide +kernel)) ?_
      walk_at "x"
      refine ⟨_, av, T', a, F6, _, rfl, O7, noTup_cons hm, up s16 ht, up (R := rTup rInt) s16 ha, ok, hsa, fun p2 H8 F8 us2 s8 O8 hus2 => ?_⟩
      walk_at "x"
      have s9 := O8.freeze_same
      have O9 := O8.freeze
      have hgot2 : rList (rPair rInt rSt) (upd F8 p2 (.lst us2)) (lawSteps T' a) (.ref p2) := ⟨p2, us2, rfl, upd_same, all2_up s9 hus2⟩
      have s19 := s16.trans (s8.trans s9)
      refine ⟨_, _, _, _, rfl, O9, sim_steps (by omega) hgot2 (up (s2.trans (s6.trans (s8.trans s9))) hdv), fun H10 O10 => ?_⟩
      walk_at "x"
      refine x_iteT rfl ?_
      walk_at "x"
      refine mq_of (O10.frz (s19 _ _ hx)) (pF_non (n := "rank") (by decide +kernel)) ?_
      walk_at "x"
      refine ⟨_, av, T', a, _, _, rfl, O10, up s19 ht, up (R := rTup rInt) s19 ha, hsa.1.le, ?_⟩
      walk_at "x"
      refine ⟨v, av, T', a, _, _, rfl, O10, up s19 hv, up (R := rTup rInt) s19 ha, ok, hsa, fun H11 F11 s11 O11 => ?_⟩
      walk_at "x"
      refine ⟨_, _, F11, _, rfl, O11, Sim.le (Nat.zero_le 8) ⟨rfl, rfl⟩, fun H12 O12 => ?_⟩
      exact k H12 F11 (s19.trans s11) O12.tail
end
end Tf
namespace Tf
open PySem PySem.Spec PyProof.Rows L2
section
variable {K : PySem.W.Frag} {σ : L2.St} {H F : Hp} {m : Mem} {g : TG} {tt : TT} {te : TE} {vs : List Nat} {v : V} {α β : Type} {R : Rp α} {S : Rp β} {xs : List α} {Q : VK}
theorem x_docTO [MonoS R] (O : Own H F m) (h : rTup R F xs v) (P : Nat → Hp → Mem → List β → Prop) (h0 : P 0 F m [])
    (hs : ∀ D acc i x w H' F' m' ys, xs[i]? = some x → R F' x w → Same F F' → Own H' F' ((D, .lst acc) :: m') → All2 (S F') ys acc → ys.length ≤ i → P i F' m' ys →
      g w (wipe σ vs) H' fun σ2 H2 => wipe σ2 vs = wipe σ vs ∧ tt σ2 H2 fun b H3 => if b = true then te σ2 H3 fun y H4 => ∃ acc, H4 D = some (.lst acc) ∧ acc.length < sizeLine ∧ LcP S P F D (i + 1) (upd H4 D (.lst (acc ++ [y]))) else LcP S P F D (i + 1) H3)
    (hd : ∀ D acc H' F' m' ys, Same F F' → Own H' F' ((D, .lst acc) :: m') → All2 (S F') ys acc → P xs.length F' m' ys → Q (.ref D) H') : CT K g tt te vs σ Q v H := by
  obtain ⟨a, us, rfl, ha, r⟩ := h
  refine ⟨a, rfl, ⟨us, .inl (.inl (O.frz ha))⟩, fun D hD => lc_tup (LcP S P F D) ⟨F, m, [], [], Same.refl F, O.own hD, .nil, Nat.zero_le _, h0⟩ (fun i H' _ ⟨F', m', _, _, s, O', _⟩ => .inl (.inl (O'.frz (s _ _ ha)))) (fun i w H' hi ⟨F', m', acc, ys, s, O', hy, hl, p⟩ => ?_) fun H' ⟨F', m', acc, ys, s, O', hy, hl, p⟩ => ?_⟩
  · obtain ⟨x, hx, hr⟩ := r.get' hi
    exact hs D acc i x w H' F' m' ys hx (up s hr) s O' hy hl p
  · exact hd D acc H' F' m' ys s O' hy (by rw [r.length]; exact p)
theorem x_listTO {a : Addr} {us : List V} (O : Own H F m) (h : F a = some (.tup us)) (k : ∀ p H', Own H' F ((p, .lst us) :: m) → Q (.ref p) H') : rListOf K [.ref a] H Q :=
  ⟨a, us, rfl, .inr (.inl (.inl (O.frz h))), fun l hl => k l _ (O.own hl)⟩
theorem x_slRaw {a : Addr} {us : List V} {lo hi : Option Int} (O : Own H F m) (h : F a = some (.lst us)) (k : ∀ p H' F', Same F F' → Own H' F' m → F' p = some (.lst (cutV us lo hi)) → Q (.ref p) H') : rSlL K (.ref a) lo hi H Q :=
  ⟨a, us, rfl, .inl (.inl (O.frz h)), fun p hp => k p _ _ (same_new (O.fresh hp)) (O.new hp) upd_same⟩
end
theorem perm4 {α : Type} {a b c d : α} {m : List α} : (a :: b :: c :: d :: m).Perm (d :: a :: b :: c :: m) := (List.Perm.cons _ ((List.Perm.cons _ (List.Perm.swap _ _ _)).trans (List.Perm.swap _ _ _))).trans (List.Perm.swap _ _ _)
theorem raw_all {F : Hp} : ∀ (vs : List V), All2 (rRaw F) vs vs
  | [] => .nil
  | _ :: vs => .cons rfl (raw_all vs)
/-- a new instance, with keywords -/
def MKK (C : Addr) (n m : Nat) (sp : Sp) (gV : List V → List V → List V) (E : XK) (Q : VK) (vs zs : List V) (H2 : Hp) : Prop := vs.length = n ∧ zs.length = m ∧ ∀ x dx, H2 x = none → H2 dx = none → dx ≠ x →
  sp (gV (.ref x :: vs) zs) (upd (upd H2 dx (.own x)) x (.ins C dx [])) (fun v H3 => v = .non ∧ Q (.ref x) H3) E
theorem x_makeK {C : Addr} {n k : Nat} {sp : Sp} {gV : List V → List V → List V} {E : XK} {t tk : TA} {σ : L2.St} {H : Hp} {Q : VK} (h : t σ H fun vs H1 => tk σ H1 fun zs H2 => MKK C n k sp gV E Q vs zs H2) : tMakeK C n k sp gV E t tk σ H Q := h
theorem mk_ofK {C : Addr} {n k : Nat} {sp : Sp} {gV : List V → List V → List V} {E : XK} {H F : Hp} {m : Mem} {Q : VK} {vs zs : List V} (O : Own H F m) (h1 : vs.length = n) (h2 : zs.length = k)
    (h : ∀ x dx H' F', Same F F' → Own H' F' ((x, .ins C dx []) :: m) → sp (gV (.ref x :: vs) zs) H' (fun v H2 => v = .non ∧ Q (.ref x) H2) E) : MKK C n k sp gV E Q vs zs H := by
  refine ⟨h1, h2, fun x dx hx hdx hne => ?_⟩
  have O1 := O.new (o := .own x) hdx
  have hx1 : upd H dx (.own x) x = none := by rw [upd_ne (Ne.symm hne)]; exact hx
  exact h x dx _ _ (same_new (O.fresh hdx)) (O1.own hx1)
theorem all2_of {α : Type} {R : α → V → Prop} : ∀ {xs : List α} {vs : List V}, xs.length = vs.length → (∀ (j : Nat) (x : α) (v : V), xs[j]? = some x → vs[j]? = some v → R x v) → All2 R xs vs
  | [], [], _, _ => .nil
  | [], _ :: _, h, _ => by cases h
  | _ :: _, [], h, _ => by cases h
  | x :: xs, v :: vs, h, hr => .cons (hr 0 x v rfl rfl) (all2_of (by simpa using h) fun j y w h1 h2 => hr (j + 1) y w h1 h2)
/-- the lists of the strands while they are made: the first one stays ours -/
structure MI (T : Told) (m : Mem) (i : Nat) (F : Hp) (m' : Mem) (ys : List V) : Prop where
  len : ys.length = i
  mem : (i = 0 ∧ m' = m) ∨ ∃ (q : Addr) (ws : List V) (st : StrT), ys[0]? = some (.ref q) ∧ T.strands[0]? = some st ∧ All2 (rVari F) st ws ∧ m' = (q, .lst ws) :: m
  seen : ∀ (j : Nat) (st : StrT), T.strands[j]? = some st → 0 < j → j < i → ∃ (b : Addr) (ws : List V), ys[j]? = some (.ref b) ∧ F b = some (.lst ws) ∧ All2 (rVari F) st ws
theorem MI.given {T : Told} {m m2 : Mem} {F : Hp} {m' : Mem} {ys : List V} {D fl ll : Addr} {fvs lvs : List V} (h : MI T m T.strands.length F m' ys) (hD : (D, HO.lst ys) ∈ m2) (hm : ∀ c ∈ m', c ∈ m2) (hf : (fl, HO.lst fvs) ∈ m2) (hff : All2 (rPair rInt rInt F) T.floats fvs) (hl : (ll, HO.lst lvs) ∈ m2) (hll : All2 (rPair rInt rBool F) T.lines lvs) : GivenT F m2 T D fl ll where
  s := ⟨ys, .inr (.inr hD), all2_of h.len.symm fun j st u h1 h2 => by
    have jl := (List.getElem?_eq_some_iff.mp h1).1
    by_cases hj : j = 0
    · subst hj
      rcases h.mem with ⟨h0, _⟩ | ⟨q, ws, st', e1, e2, e3, e4⟩
      · omega
      · rw [h1] at e2
        cases e2
        rw [h2] at e1
        cases e1
        exact ⟨q, ws, rfl, .inr (.inr (hm _ (by rw [e4]; exact List.mem_cons_self))), e3⟩
    · obtain ⟨b, ws, e1, e2, e3⟩ := h.seen j st h1 (by omega) jl
      rw [h2] at e1
      cases e1
      exact ⟨b, ws, rfl, .inl e2, e3⟩⟩
  f := ⟨fvs, .inr (.inr hf), hff⟩
  l := ⟨lvs, .inr (.inr hl), hll⟩
theorem given_frozen {T : Told} {F : Hp} {m : Mem} {s f l : V} (hs : rStrands F T.strands s) (hf : rFloats F T.floats f) (hl : rLines F T.lines l) : ∃ sa fa la, s = .ref sa ∧ f = .ref fa ∧ l = .ref la ∧ GivenT F m T sa fa la := by
  obtain ⟨sa, svs, rfl, h1, h2⟩ := hs
  obtain ⟨fa, fvs, rfl, h3, h4⟩ := hf
  obtain ⟨la, lvs, rfl, h5, h6⟩ := hl
  exact ⟨sa, fa, la, rfl, rfl, rfl, ⟨svs, .inr (.inl h1), h2.mono fun st u ⟨b, ws, e, hb, r⟩ => ⟨b, ws, e, .inr (.inl hb), r⟩⟩, ⟨fvs, .inr (.inl h3), h4⟩, ⟨lvs, .inr (.inl h5), h6⟩⟩
def plainT (T : Told) : Told := { T with fap := 1, rule := 1, fgap := 1 }
theorem TOk.plain {T : Told} (h : TOk T) : TOk (plainT T) where
  strands := h.strands
  many := h.many
  fills := h.fills
  lines := h.lines
  fewL := h.fewL
  fewF := h.fewF
  floatB := h.floatB
  lineB := h.lineB
  tallB := h.tallB
  fapB := ⟨by show (0 : Int) ≤ 1; decide, by show (1 : Int) ≤ 2; decide⟩
  ruleB := ⟨by show (0 : Int) ≤ 1; decide, by show (1 : Int) < 2 ^ 50; decide⟩
  gapB := ⟨by show (0 : Int) ≤ 1; decide, by show (1 : Int) < 2 ^ 50; decide⟩
theorem states_first {T : Told} : ∃ s0, (states T)[0]? = some s0 := by
  have h : ((0, 0, 0, 0, 0) : Sx) ∈ states T := states_mem ⟨.inl ⟨Nat.zero_le _, rfl, rfl⟩, Nat.zero_le _, Nat.zero_le _⟩
  exact ⟨_, List.getElem?_eq_getElem (List.length_pos_of_mem h)⟩
def spLMade (C : Addr) : Sp := fun vs H Q _ => ∃ v T F m, vs = [v] ∧ Own H F m ∧ rLT F T v ∧ TOk T ∧ ∀ r H' F', Same F F' → Own H' F' m → rPress C F' T r → Q r H'
def spLDef (C : Addr) : Sp := fun vs H Q _ => ∃ v T F m, vs = [v] ∧ Own H F m ∧ NoTup m ∧ rLT F T v ∧ TOk T ∧ ∀ H' F', Same F F' → Own H' F' m → Q (.bl true) H'
section
variable {P : Program} {w : World} {K : PySem.W.Frag} {mg : Str → Option Value} {base : Heap}
abbrev sMd : Stmt := top 48
abbrev NMd : List Str := ["told", "strands", "floats", "lines", "task", "strand"]
theorem scMd : FnScope NMd ["told"] (defScope sMd) := ⟨rfl, rfl, rfl, by decide +kernel, rfl, by decide +kernel, by decide +kernel⟩
theorem ok_Md {f C fP : Addr} {fd fdP : FuncData} (F : Fun K "_law_made" "_law_made" sMd f fd) (T : Bi mg) (L : PCls K C) (MkP : Mk K C fP) (GP : FnOk P w K mg base CX0 2 fP fdP ["self", "strands", "floats", "lines", "height", "floats_a_page", "rule", "float_gap"] (spPInit C)) (mgP : mg "PressTask" = some (.ref C))
    (bKP : KBn K fdP ["self", "strands", "floats", "lines", "height", "floats_a_page", "rule", "float_gap"] 4 ["height", "floats_a_page", "rule", "float_gap"] (fun us ws => us ++ ws) (fun vs zs => vs ++ zs)) : FnOk P w K mg base CX0 4 f fd ["told"] (spLMade C) := by
  refine F.ok scMd (fun vs H Q E h => ?_) (fun cdv A outer s H vs Q E hr h => ?_)
  · obtain ⟨v, T, F, m, rfl, _⟩ := h
    rfl
  · obtain ⟨v, T', F, m, rfl, O, hv, ok, k⟩ := h
    have hmany := ok.many
    refine ⟨_, 
    (pss_cons (ps_setLc (i := 1) (own := [("strand", 5)]) (g := (gName 5)) (tt := tYes) rfl scMd.nd rfl rfl (sw_true rfl rfl rfl (by decide +kernel)) (pi_tup (pe_ix (r := rIxL K) ix_list (pv 0) pe_int (fun _ _ => rfl))) (blkOk_by (N := NMd) (sc := defScope sMd) (by decide +kernel)) (fun _ _ _ _ _ => (pg_name (i := 5) scMd.nd rfl (by first | exact Or.inl rfl | exact Or.inr rfl))) (fun _ _ _ _ _ => pts_nil) (fun _ _ _ _ _ => (pe_callTy (T := "list") (r := rListOf K) cr_list (by rfl) T.b_list (by decide +kernel) (pa_cons (pv 5) pa_nil))))
    (pss_cons (ps_set (i := 2) scMd.nd rfl (Or.inl rfl) (pe_callTy (T := "list") (r := rListOf K) cr_list (by rfl) T.b_list (by decide +kernel) (pa_cons (pe_ix (r := rIxL K) ix_list (pv 0) pe_int (fun _ _ => rfl)) pa_nil)))
    (pss_cons (ps_set (i := 3) scMd.nd rfl (Or.inl rfl) (pe_callTy (T := "list") (r := rListOf K) cr_list (by rfl) T.b_list (by decide +kernel) (pa_cons (pe_ix (r := rIxL K) ix_list (pv 0) pe_int (fun _ _ => rfl)) pa_nil)))
    (pss_cons (ps_set (i := 4) scMd.nd rfl (Or.inl rfl) (pe_makeK MkP GP (hr.mono (by first | decide | omega)) rfl mgP bKP pass0 (pa_cons (pv 1) (pa_cons (pv 2) (pa_cons (pv 3) pa_nil))) (pk_cons (pe_ix (r := rIxL K) ix_list (pv 0) pe_int (fun _ _ => rfl)) (pk_cons (pe_ix (r := rIxL K) ix_list (pv 0) pe_int (fun _ _ => rfl)) (pk_cons (pe_ix (r := rIxL K) ix_list (pv 0) pe_int (fun _ _ => rfl)) (pk_cons (pe_ix (r := rIxL K) ix_list (pv 0) pe_int (fun _ _ => rfl)) pk_nil))))))
    (Tf.pss_cut (ps_if (pt_tru (pv 1) (by intro _; rfl)) 
      (pss_one (ps_expr (pe_bm PySem.F.plainAttrs_list PySem.F.slot_list_append PySem.F.type_list_append mt_append (pe_ix (r := rIxL K) ix_list (pv 1) pe_int (fun _ _ => rfl)) (pa_cons (pe_ix (r := rIxL K) ix_list (pe_ix (r := rIxL K) ix_list (pv 1) pe_int (fun _ _ => rfl)) pe_int (fun _ _ => rfl)) pa_nil)))) pss_nil)
    (pss_cons (ps_expr (pe_bm PySem.F.plainAttrs_list PySem.F.slot_list_append PySem.F.type_list_append mt_append (pv 1) (pa_cons (pe_lst (pa_cons (pe_tup (pa_cons pe_int (pa_cons (pe_tup (pa_cons (pe_tup (pa_cons pe_int (pa_cons (pe_tup (pa_cons pe_int (pa_cons pe_int (pa_cons pe_int pa_nil)))) (pa_cons pe_int pa_nil)))) pa_nil)) (pa_cons (pe_tup (pa_cons pe_int pa_nil)) pa_nil)))) pa_nil)) pa_nil)))
    (pss_cons (ps_expr (pe_bm PySem.F.plainAttrs_list PySem.F.slot_list_append PySem.F.type_list_append mt_append (pv 2) (pa_cons (pe_tup (pa_cons pe_int (pa_cons pe_int pa_nil))) pa_nil)))
    (pss_cons (ps_expr (pe_bm PySem.F.plainAttrs_list PySem.F.slot_list_append PySem.F.type_list_append mt_append (pv 3) (pa_cons (pe_tup (pa_cons pe_int (pa_cons pe_bl pa_nil))) pa_nil)))
    (pss_one (ps_ret (pv 4))))))))))), ?_⟩
    walk_at "x"
    refine x_lt0 O hv (fun w0 hw0 => ?_)
    refine x_docTO (R := rStrand) (S := rRaw) O hw0 (fun i F' m' ys => MI T' m i F' m' ys) ⟨rfl, .inl ⟨rfl, rfl⟩, fun j st _ _ h => absurd h (Nat.not_lt_zero _)⟩ ?_ ?_
    · rintro D acc i st z H1 F1 m1 ys hi hz s1 O1 hacc hyl hmi
      have il := (List.getElem?_eq_some_iff.mp hi).1
      obtain ⟨za, ws, rfl, hza, hws⟩ := id hz
      walk_at "x"
      refine ⟨rfl, ?_⟩
      walk_at "x"
      refine x_iteT rfl ?_
      walk_at "x"
      refine x_listTO O1 hza (fun p H2 O2 => ?_)
      have hlen := hmi.len
      by_cases h0 : i = 0
      · subst h0
        have hm1 : m1 = m := by
          rcases hmi.mem with h | ⟨q, ws, st', e, _⟩
          · exact h.2
          · rw [List.getElem?_eq_none (by omega)] at e
            cases e
        subst hm1
        have hys : ys = [] := List.eq_nil_of_length_eq_zero hlen
        subst hys
        refine x_keep (S := rRaw) (z := .ref p) O2.swap s1 rfl hacc hyl (by omega) ⟨rfl, .inr ⟨p, ws, st, rfl, hi, hws, rfl⟩, fun j st' _ h1 h2 => by omega⟩
      · have s3 := O2.freeze_same
        have hfr : upd F1 p (.lst ws) p = some (.lst ws) := upd_same
        refine x_keep (S := rRaw) (z := .ref p) O2.freeze (s1.trans s3) rfl (all2_up s3 hacc) hyl (by omega) ⟨by rw [List.length_append, hlen]; rfl, ?_, fun j st' hj h1 h2 => ?_⟩
        · rcases hmi.mem with h | ⟨q, ws', st', e1, e2, e3, e4⟩
          · exact absurd h.1 h0
          · exact .inr ⟨q, ws', st', by rw [List.getElem?_append_left (by omega)]; exact e1, e2, all2_up s3 e3, e4⟩
        · by_cases hji : j < i
          · obtain ⟨b, ws', e1, e2, e3⟩ := hmi.seen j st' hj h1 hji
            exact ⟨b, ws', by rw [List.getElem?_append_left (by omega)]; exact e1, s3 _ _ e2, all2_up s3 e3⟩
          · have : j = i := by omega
            subst this
            rw [hi] at hj
            cases hj
            exact ⟨p, ws, by rw [List.getElem?_append_right (by omega), hlen, Nat.sub_self]; rfl, hfr, all2_up s3 hws⟩
    · rintro D acc H1 F1 m1 ys s1 O1 hacc hmi
      have eacc := (raw_of hacc).symm
      subst eacc
      have hv1 := up s1 hv
      walk_at "x"
      refine x_lt1 O1 hv1 (fun w1 hw1 => ?_)
      obtain ⟨fa, fvs, rfl, hfa, hff⟩ := id hw1
      walk_at "x"
      refine x_listTO O1 hfa (fun fl H2 O2 => ?_)
      walk_at "x"
      refine x_lt2 O2 hv1 (fun w2 hw2 => ?_)
      obtain ⟨la, lvs, rfl, hla, hll⟩ := id hw2
      walk_at "x"
      refine x_listTO O2 hla (fun ll H3 O3 => ?_)
      walk_at "x"
      refine x_makeK ?_
      walk_at "x"
      refine x_lt3 O3 hv1 ?_
      walk_at "x"
      refine x_lt4 O3 hv1 ?_
      walk_at "x"
      refine x_lt5 O3 hv1 ?_
      walk_at "x"
      refine x_lt6 O3 hv1 ?_
      walk_at "x"
      refine mk_ofK O3 rfl rfl (fun x dx H4 F4 s4 O4 => ?_)
      have hmi4 : MI T' m T'.strands.length F4 m1 ys := ⟨hmi.len, hmi.mem.imp id fun ⟨q, ws, st, e1, e2, e3, e4⟩ => ⟨q, ws, st, e1, e2, all2_up s4 e3, e4⟩, fun j st h1 h2 h3 => by
        obtain ⟨b, ws, e1, e2, e3⟩ := hmi.seen j st h1 h2 h3
        exact ⟨b, ws, e1, s4 _ _ e2, all2_up s4 e3⟩⟩
      have hgiven : GivenT F4 ((ll, .lst lvs) :: (fl, .lst fvs) :: (D, .lst ys) :: m1) T' D fl ll := hmi4.given (List.mem_cons_of_mem _ (List.mem_cons_of_mem _ List.mem_cons_self)) (fun c hc => List.mem_cons_of_mem _ (List.mem_cons_of_mem _ (List.mem_cons_of_mem _ hc))) (List.mem_cons_of_mem _ List.mem_cons_self) (all2_up s4 hff) List.mem_cons_self (all2_up s4 hll)
      refine ⟨x, dx, D, fl, ll, T', F4, _, rfl, O4, hgiven, ok, fun H5 F5 ps pf pl po ph pm s5 O5 h1 h2 h3 h4 h5 h6 => ⟨rfl, ?_⟩⟩
      have s6 := O5.freeze_same
      have O6 := O5.freeze
      have htask : rPress C (upd F5 x (.ins C dx (pF ps pf pl T'.tall T'.fap T'.rule T'.fgap po ph pm))) T' (.ref x) := ⟨x, dx, ps, pf, pl, po, ph, pm, rfl, upd_same, up (R := rStrands) s6 h1, up s6 h2, up s6 h3, up s6 h4, up s6 h5, up s6 h6⟩
      generalize upd F5 x (.ins C dx (pF ps pf pl T'.tall T'.fap T'.rule T'.fgap po ph pm)) = F6 at O6 s6 htask
      have s16 := s4.trans (s5.trans s6)
      have O7 : Own H5 F6 ((D, .lst ys) :: (fl, .lst fvs) :: (ll, .lst lvs) :: m1) := O6.perm ((List.Perm.swap _ _ _).trans ((List.Perm.cons _ (List.Perm.swap _ _ _)).trans (List.Perm.swap _ _ _)))
      walk_at "x"
      refine x_cut (fun σ' H' => σ' = [some v, some (.ref D), some (.ref fl), some (.ref ll), some (.ref x), none] ∧ Own H' F6 ((D, .lst ys) :: (fl, .lst fvs) :: (ll, .lst lvs) :: m)) ?_ ?_
      · walk_at "x"
        refine tq_listM O7 List.mem_cons_self ?_
        rcases hmi.mem with ⟨h0, rfl⟩ | ⟨q, ws, st, e1, e2, e3, rfl⟩
        · have hys : ys = [] := List.eq_nil_of_length_eq_zero (by rw [hmi.len, h0])
          subst hys
          refine x_iteF rfl ?_
          walk_at "x"
          exact ⟨rfl, O7⟩
        · have hne : (!ys.isEmpty) = true := by
            cases ys with
            | nil => cases e1
            | cons _ _ => rfl
          rw [hne]
          refine x_iteT rfl ?_
          have hst := ok.strands st (List.mem_of_getElem? e2)
          obtain ⟨w0', hw0'⟩ : ∃ w0', ws[0]? = some w0' := ⟨_, List.getElem?_eq_getElem (by rw [← e3.length]; exact List.length_pos_iff.mpr hst.ne)⟩
          have hwl : ws.length ≤ 3 := by
            rw [← e3.length]
            exact hst.few
          walk_at "x"
          refine x_ixM (j := 0) O7 List.mem_cons_self rfl e1 ?_
          have O8 : Own H5 F6 ((q, .lst ws) :: (D, .lst ys) :: (fl, .lst fvs) :: (ll, .lst lvs) :: m) := O7.perm perm4
          refine ⟨ty_list O8.at0, ?_⟩
          walk_at "x"
          refine x_ixM (j := 0) O7 List.mem_cons_self rfl e1 ?_
          walk_at "x"
          refine x_ixM (j := 0) O8 List.mem_cons_self rfl hw0' ?_
          walk_at "x"
          refine x_append O8 (by omega) (fun H9 O9 => ?_)
          walk_at "x"
          exact ⟨rfl, O9.tail⟩
      · rintro σ' H8 ⟨rfl, O8⟩
        walk_at "x"
        refine ⟨ty_list O8.at0, ?_⟩
        walk_at "x"
        refine x_newTri (R := rInt) (S := rInt) (T := rInt) (x := 0) (y := 0) (z := 0) O8 rfl rfl rfl (fun g9 H9 F9 s9 O9 hg9 => ?_)
        walk_at "x"
        refine x_newTri (R := rInt) (S := rTri rInt rInt rInt) (T := rInt) (x := 1) (y := (0, 0, 0)) (z := 0) O9 rfl hg9 rfl (fun g10 H10 F10 s10 O10 hg10 => ?_)
        walk_at "x"
        refine x_newT (R := rUnit) (xs := [(1, (0, 0, 0), 0)]) O10 (by show 1 ≤ _; decide) (.cons hg10 .nil) (fun g11 H11 F11 s11 O11 hg11 => ?_)
        walk_at "x"
        refine x_newT (R := rInt) (xs := [0]) O11 (by show 1 ≤ _; decide) (.cons rfl .nil) (fun g12 H12 F12 s12 O12 hg12 => ?_)
        walk_at "x"
        refine x_newTri (R := rInt) (S := rTup rUnit) (T := rTup rInt) (x := 0) (y := [(1, (0, 0, 0), 0)]) (z := [0]) O12 rfl (up s12 hg11) hg12 (fun g13 H13 F13 s13 O13 hg13 => ?_)
        walk_at "x"
        refine x_rawL O13 (by show 1 ≤ _; decide) (fun g14 H14 F14 s14 hg14 O14 => ?_)
        walk_at "x"
        refine x_append O14 (by have := hmi.len; omega) (fun H15 O15 => ?_)
        walk_at "x"
        have hfF := ok.fewF
        have hfL := ok.fewL
        refine ⟨ty_list O15.swap.at0, ?_⟩
        walk_at "x"
        refine x_newPair (R := rInt) (S := rInt) (x := 1) (y := 0) O15 rfl rfl (fun g16 H16 F16 s16' O16 hg16 => ?_)
        walk_at "x"
        refine x_append O16.swap (by rw [← hff.length]; omega) (fun H17 O17 => ?_)
        walk_at "x"
        have O18 := O17.rot3
        refine ⟨ty_list O18.at0, ?_⟩
        walk_at "x"
        refine x_newPair (R := rInt) (S := rBool) (x := 1) (y := true) O18 rfl rfl (fun g19 H19 F19 s19 O19 hg19 => ?_)
        walk_at "x"
        refine x_append O19 (by rw [← hll.length]; omega) (fun H20 O20 => ?_)
        walk_at "x"
        have s620 := s9.trans (s10.trans (s11.trans (s12.trans (s13.trans (s14.trans (s16'.trans s19))))))
        exact k (.ref x) H20 F19 (s1.trans (s16.trans s620)) O20.tail.tail.tail (up s620 htask)
abbrev sLdf : Stmt := top 49
abbrev NLdf : List Str := ["told", "plain", "task", "states"]
theorem scLdf : FnScope NLdf ["told"] (defScope sLdf) := ⟨rfl, rfl, rfl, by decide +kernel, rfl, by decide +kernel, by decide +kernel⟩
theorem ok_Ldf {f C fP f1 f2 : Addr} {fd fdP fd1 fd2 : FuncData} {mv : List Value} (F : Fun K "_law_default" "_law_default" sLdf f fd) (T : Bi mg) (MkP : Mk K C fP) (GP : FnOk P w K mg base CX0 2 fP fdP ["self", "strands", "floats", "lines", "height", "floats_a_page", "rule", "float_gap"] (spPInit C)) (mgP : mg "PressTask" = some (.ref C))
    (bKD : KBn K fdP ["self", "strands", "floats", "lines", "height", "floats_a_page", "rule", "float_gap"] 4 ["height"] (fun us ws => us ++ (ws ++ mv)) (fun vs zs => vs ++ (zs ++ [.int 1, .int 1, .int 1]))) (C__law_states : Cal P w K mg base "_law_states" 2 f1 fd1 ["told"] spLStates) (C__law_state_told : Cal P w K mg base "_law_state_told" 10 f2 fd2 ["task", "told", "states", "a"] (spLTold C)) :
    FnOk P w K mg base CX0 11 f fd ["told"] (spLDef C) := by
  refine F.ok scLdf (fun vs H Q E h => ?_) (fun cdv A outer s H vs Q E hr h => ?_)
  · obtain ⟨v, T, F, m, rfl, _⟩ := h
    rfl
  · obtain ⟨v, T', F, m, rfl, O, hm, hv, ok, k⟩ := h
    obtain ⟨a, w1, w2, w3, rfl, ha, h1, h2, h3⟩ := id hv
    refine ⟨_, 
    (pss_cons (ps_set (i := 1) scLdf.nd rfl (Or.inl rfl) (pe_op op_cat (pe_slice sl_list (pv 0) po_none (po_some pe_int)) (pe_lst (pa_cons pe_int (pa_cons pe_int (pa_cons pe_int pa_nil))))))
    (pss_cons (ps_set (i := 2) scLdf.nd rfl (Or.inl rfl) (pe_makeK MkP GP (hr.mono (by first | decide | omega)) rfl mgP bKD pass0 (pa_cons (pe_ix (r := rIxL K) ix_list (pv 0) pe_int (fun _ _ => rfl)) (pa_cons (pe_ix (r := rIxL K) ix_list (pv 0) pe_int (fun _ _ => rfl)) (pa_cons (pe_ix (r := rIxL K) ix_list (pv 0) pe_int (fun _ _ => rfl)) pa_nil))) (pk_cons (pe_ix (r := rIxL K) ix_list (pv 0) pe_int (fun _ _ => rfl)) pk_nil)))
    (pss_cons (ps_set (i := 3) scLdf.nd rfl (Or.inl rfl) (pe_call C__law_states.ok (hr.mono (by first | decide | omega)) rfl C__law_states.mg C__law_states.kp C__law_states.bi .nil pass0 (pa_cons (pv 1) pa_nil)))
    (pss_one (ps_ret (pe_call C__law_state_told.ok (hr.mono (by first | decide | omega)) rfl C__law_state_told.mg C__law_state_told.kp C__law_state_told.bi .nil pass0 (pa_cons (pv 2) (pa_cons (pv 1) (pa_cons (pv 3) (pa_cons (pe_ix (r := rIxL K) ix_list (pv 3) pe_int (fun _ _ => rfl)) pa_nil)))))))))), ?_⟩
    walk_at "x"
    refine x_slRaw O ha (fun p H1 F1 s1 O1 hp1 => ?_)
    have hp1 : F1 p = some (.lst [w1, w2, w3, .int T'.tall]) := hp1
    walk_at "x"
    refine x_newL (R := rRaw) (xs := [.int 1, .int 1, .int 1]) O1 (by show 3 ≤ _; decide) (raw_all _) (fun v2 H2 F2 s2 O2 hv2 => ?_)
    walk_at "x"
    refine x_cat (R := rRaw) O2 ⟨p, _, rfl, s2 _ _ hp1, raw_all _⟩ hv2 (by show 4 + 3 ≤ _; decide) (fun v3 H3 F3 s3 O3 hv3 => ?_)
    obtain ⟨pa, pus, rfl, hpa, hpus⟩ := hv3
    have epus := raw_of hpus
    subst epus
    have s13 := s1.trans (s2.trans s3)
    have hplain : rLT F3 (plainT T') (.ref pa) := ⟨pa, w1, w2, w3, rfl, hpa, up (R := rStrands) s13 h1, up s13 h2, up s13 h3⟩
    have hv3 := up s13 hv
    have okp := ok.plain
    walk_at "x"
    refine x_makeK ?_
    walk_at "x"
    refine x_lt0 O3 hv3 (fun t0 ht0 => ?_)
    walk_at "x"
    refine x_lt1 O3 hv3 (fun t1 ht1 => ?_)
    walk_at "x"
    refine x_lt2 O3 hv3 (fun t2 ht2 => ?_)
    walk_at "x"
    refine x_lt3 O3 hv3 ?_
    walk_at "x"
    refine mk_ofK O3 rfl rfl (fun x dx H4 F4 s4 O4 => ?_)
    obtain ⟨sa, fa, la, rfl, rfl, rfl, hg⟩ := given_frozen (T := plainT T') (m := m) (up (R := rStrands) s4 ht0) (up (R := rFloats) s4 ht1) (up (R := rLines) s4 ht2)
    refine ⟨x, dx, sa, fa, la, plainT T', F4, m, rfl, O4, hg, okp, fun H5 F5 ps pf pl po ph pm s5 O5 h1 h2 h3 h4 h5 h6 => ⟨rfl, ?_⟩⟩
    have s6 := O5.freeze_same
    have O6 := O5.freeze
    have htask : rPress C (upd F5 x (.ins C dx (pF ps pf pl (plainT T').tall (plainT T').fap (plainT T').rule (plainT T').fgap po ph pm))) (plainT T') (.ref x) := ⟨x, dx, ps, pf, pl, po, ph, pm, rfl, upd_same, up (R := rStrands) s6 h1, up s6 h2, up s6 h3, up s6 h4, up s6 h5, up s6 h6⟩
    generalize upd F5 x (.ins C dx (pF ps pf pl (plainT T').tall (plainT T').fap (plainT T').rule (plainT T').fgap po ph pm)) = F6 at O6 s6 htask
    have s36 := s4.trans (s5.trans s6)
    walk_at "x"
    refine ⟨_, plainT T', F6, m, rfl, O6, up s36 hplain, okp, fun sv H7 F7 s7 O7 hsv => ?_⟩
    walk_at "x"
    obtain ⟨s0, hs0⟩ := states_first (T := plainT T')
    refine x_ixL (R := rSt) (j := 0) O7 hsv rfl hs0 (fun av hav => ?_)
    walk_at "x"
    refine ⟨_, _, sv, av, plainT T', s0, F7, m, rfl, O7, hm, up s7 htask, up (s36.trans s7) hplain, hsv, hav, okp, states_ok (List.mem_of_getElem? hs0), fun H8 F8 s8 O8 => ?_⟩
    exact k H8 F8 (s13.trans (s36.trans (s7.trans s8))) O8
end
end Tf
namespace Tf
open PySem PySem.Spec PyProof.Rows L2
def spLaw (K : PySem.W.Frag) : Sp := fun vs H Q _ => ∃ (a : Addr) (ns : List Int), vs = [.ref a] ∧ SqL K H a (ns.map V.int) ∧ ns.length ≤ 63 ∧ ∀ H', Q (.bl true) H'
theorem ltL_iff {a b : Int} {x y : List Int} : ltL (a :: x) (b :: y) = true ↔ a < b ∨ (a = b ∧ ltL x y = true) := by
  unfold ltL
  simp only [PySem.W.listLt, PySem.W.DatumOrd.lt]
  by_cases h : a = b
  · rw [if_pos h]
    exact ⟨fun z => .inr ⟨h, z⟩, fun z => z.elim (fun q => absurd h (by omega)) fun q => q.2⟩
  · rw [if_neg h, decide_eq_true_iff]
    exact ⟨.inl, fun z => z.elim id fun q => absurd q.1 h⟩
theorem ltL_nil : ltL [] [] = false := rfl
theorem back_none {T : Told} {x y : Sx} (hx : IsSt T x) (h : ltL (stL y) (stL x) = true) : pageT T x y = none := by
  unfold pageT
  rw [if_neg]
  rintro ⟨hf, hc⟩
  unfold stL at h
  rw [ltL_iff, ltL_iff, ltL_iff, ltL_iff, ltL_iff, ltL_nil] at h
  simp only [Bool.false_eq_true, and_false, or_false] at h
  have h0 : x.2.2.1 = 0 → x.2.1 = 0 := fun z => by
    rcases hx.1 with q | q
    · exact q.2.1
    · have := q.2.1
      have e : x.pl.2.2 = x.2.2.1 := rfl
      omega
  have c1 := hc.1
  have c2 := hc.2.1
  have hf : x.1 < y.1 ∨ (y.1 = x.1 ∧ ((0 < x.2.2.1 ∧ y.2.1 = x.2.1 ∧ x.2.2.1 ≤ y.2.2.1) ∨ x.2.2.1 = 0)) := hf
  omega
theorem same_none {T : Told} {x : Sx} : pageT T x x = none := page_can fun z => z.2.2.1 rfl
def mnS (a b : Sx) : Sx := if ltL (stL b) (stL a) = true then b else a
def mxS (a b : Sx) : Sx := if ltL (stL a) (stL b) = true then b else a
theorem mm_none {T : Told} {a b : Sx} (ha : IsSt T a) (hb : IsSt T b) : pageT T (mxS a b) (mnS a b) = none := by
  unfold mnS mxS
  by_cases h1 : ltL (stL b) (stL a) = true
  · rw [if_pos h1]
    by_cases h2 : ltL (stL a) (stL b) = true
    · rw [if_pos h2]
      exact same_none
    · rw [if_neg h2]
      exact back_none ha h1
  · rw [if_neg h1]
    by_cases h2 : ltL (stL a) (stL b) = true
    · rw [if_pos h2]
      exact back_none hb h2
    · rw [if_neg h2]
      exact same_none
theorem IsSt.mn {T : Told} {a b : Sx} (ha : IsSt T a) (hb : IsSt T b) : IsSt T (mnS a b) := by
  unfold mnS
  split <;> assumption
theorem IsSt.mx {T : Told} {a b : Sx} (ha : IsSt T a) (hb : IsSt T b) : IsSt T (mxS a b) := by
  unfold mxS
  split <;> assumption
theorem last_app {α : Type} (l : List α) (x : α) : (l ++ [x])[(l ++ [x]).length - 1]? = some x := by
  rw [List.length_append, List.length_singleton, Nat.add_sub_cancel, List.getElem?_append_right (Nat.le_refl _), Nat.sub_self]
  rfl
theorem flat_last {α β : Type} (l : List α) (x : α) (f : α → List β) : (l ++ [x]).flatMap f = l.flatMap f ++ f x := by
  rw [List.flatMap_append, List.flatMap_cons, List.flatMap_nil, List.append_nil]
theorem states_last (T : Told) : (states T)[(states T).length - 1]? = some (endS T) := by
  unfold states places
  rw [flat_last, List.range_succ (n := T.floats.length), flat_last, List.range_succ (n := T.lines.length), List.map_append, ← List.append_assoc, ← List.append_assoc]
  exact last_app _ _
theorem end_st (T : Told) : IsSt T (endS T) := states_ok (List.mem_of_getElem? (states_last T))
theorem end_none (T : Told) : lawSteps T (endS T) = [] := by
  unfold lawSteps
  refine List.filterMap_eq_nil_iff.mpr fun b hb => ?_
  have hst := states_ok hb
  rw [show pageT T (endS T) b = none from ?_]
  · rfl
  unfold pageT
  rw [if_neg]
  rintro ⟨hf, hc⟩
  have e1 : (endS T).pl = (T.strands.length, 0, 0) := rfl
  rw [e1] at hf
  have hle := hst.1.le
  have hF := hst.2.1
  have hL := hst.2.2
  have c1 : T.floats.length ≤ b.2.2.2.1 := hc.1
  have c2 : T.lines.length ≤ b.2.2.2.2 := hc.2.1
  refine hc.2.2.1 ?_
  have h1 : b.pl.1 = T.strands.length := by
    rcases hf with hf | hf
    · have hf : T.strands.length < b.pl.1 := hf
      omega
    · exact hf.1
  have h2 : b.pl.2.1 = 0 ∧ b.pl.2.2 = 0 := by
    rcases hst.1 with q | q
    · exact q.2
    · have := q.1
      omega
  obtain ⟨b1, b2, b3, b4, b5⟩ := b
  have h1 : b1 = T.strands.length := h1
  have h21 : b2 = 0 := h2.1
  have h22 : b3 = 0 := h2.2
  dsimp only at hF hL c1 c2
  show endS T = _
  unfold endS
  rw [h1, h21, h22, show b4 = T.floats.length by omega, show b5 = T.lines.length by omega]
section
variable {K : PySem.W.Frag} {H F : Hp} {m : Mem} {Q : VK} {v w : V} {a b : Sx} {α : Type} {R : Rp α} {xs : List α}
theorem x_minS (O : Own H F m) (h : rSt F a v) (h2 : rSt F b w) (k : ∀ z, rSt F (mnS a b) z → Q z H) : rMin2D K [v, w] H Q :=
  x_min2D (R := rTup rInt) O h h2 (fun e => k w (by unfold mnS; rw [if_pos e]; exact h2)) (fun e => k v (by unfold mnS; rw [if_neg (by rw [e]; exact Bool.false_ne_true)]; exact h))
theorem x_maxS (O : Own H F m) (h : rSt F a v) (h2 : rSt F b w) (k : ∀ z, rSt F (mxS a b) z → Q z H) : rMax2D K [v, w] H Q :=
  x_max2D (R := rTup rInt) O h h2 (fun e => k w (by unfold mxS; rw [if_pos e]; exact h2)) (fun e => k v (by unfold mxS; rw [if_neg (by rw [e]; exact Bool.false_ne_true)]; exact h))
theorem x_lastL {x : α} (O : Own H F m) (h : rList R F xs v) (hx : xs[xs.length - 1]? = some x) (k : ∀ w, R F x w → Q w H) : rIxL K v (.int (-1)) H Q := by
  obtain ⟨a, us, rfl, ha, r⟩ := h
  obtain ⟨w, hw, hr⟩ := r.get hx
  exact ⟨a, us, -1, w, rfl, rfl, .inl (.inl (O.frz ha)), atI_last (by rw [← r.length]; exact hw), k w hr⟩
theorem x_eqLI {ns ms : List Int} (O : Own H F m) (h : rList rInt F ns v) (h2 : rList rInt F ms w) (k : Q (.bl (decide (ns = ms))) H) : rEqD K v w H Q := by
  refine ⟨_, _, dp_listI O h, dp_listI O h2, shaped_ints ns, shaped_ints ms, ?_⟩
  have e : PyData.eqv (.list (ns.map PyData.int)) (.list (ms.map PyData.int)) = decide (ns = ms) := by
    rw [← eqvAll_ints]
    unfold PyData.eqv
    rfl
  rw [e]
  exact k
end
/-! the same task twice -/
theorem all2_simM {α : Type} {R : Rp α} {n : Nat} {F : Hp} : ∀ {xs : List α} {vs ws : List V}, (∀ x ∈ xs, ∀ v w, R F x v → R F x w → Sim F n v w) → All2 (R F) xs vs → All2 (R F) xs ws → All2 (Sim F n) vs ws
  | _, _, _, _, .nil, .nil => .nil
  | _ :: _, _, _, hs, .cons h t, .cons h' t' => .cons (hs _ List.mem_cons_self _ _ h h') (all2_simM (fun x hx => hs x (List.mem_cons_of_mem _ hx)) t t')
theorem sim_tupM {α : Type} {R : Rp α} {n : Nat} {F : Hp} {xs : List α} {v w : V} (hl : xs.length < 16777216) (hs : ∀ x ∈ xs, ∀ v w, R F x v → R F x w → Sim F n v w) : rTup R F xs v → rTup R F xs w → Sim F (n + 1) v w := fun ⟨a, vs, e, h, r⟩ ⟨a', vs', e', h', r'⟩ =>
  .inr ⟨a, a', vs, vs', e, e', all2_simM hs r r', by rw [← r.length]; exact hl, .inl ⟨h, h'⟩⟩
theorem sim_tri {α β γ : Type} {R : Rp α} {S : Rp β} {U : Rp γ} {n : Nat} {F : Hp} {p : α × β × γ} {v w : V} (f : ∀ v w, R F p.1 v → R F p.1 w → Sim F n v w) (g : ∀ v w, S F p.2.1 v → S F p.2.1 w → Sim F n v w) (h : ∀ v w, U F p.2.2 v → U F p.2.2 w → Sim F n v w) : rTri R S U F p v → rTri R S U F p w → Sim F (n + 1) v w :=
  fun ⟨a, u, x, z, e, hh, r, s, t⟩ ⟨a', u', x', z', e', hh', r', s', t'⟩ => .inr ⟨a, a', _, _, e, e', .cons (f _ _ r r') (.cons (g _ _ s s') (.cons (h _ _ t t') .nil)), by show 3 < _; decide, .inl ⟨hh, hh'⟩⟩
theorem sim_int {F : Hp} (n : Nat) {x : Int} : ∀ v w, rInt F x v → rInt F x w → Sim F n v w := fun v w h h' => Sim.le (Nat.zero_le n) (SimR.sim (R := rInt) h h')
theorem sim_unit {F : Hp} {u : UnitT} : ∀ v w, rUnit F u v → rUnit F u w → Sim F 2 v w := fun v w => sim_tri (n := 1) (sim_int 1) (fun v w => sim_tri (n := 0) (sim_int 0) (sim_int 0) (sim_int 0)) (sim_int 1)
theorem sim_vari {F : Hp} {x : VarT} (h : VOk x) : ∀ v w, rVari F x v → rVari F x w → Sim F 4 v w := fun v w => sim_tri (n := 3) (sim_int 3) (fun v w => sim_tupM (n := 2) (by have := h.few; omega) fun u _ => sim_unit) (fun v w h1 h2 => Sim.le (by decide : 1 ≤ 3) (sim_tupM (R := rInt) (n := 0) (by have := h.few; have := h.len; omega) (fun y _ => sim_int 0) h1 h2))
theorem sim_strands {F : Hp} {T : Told} (ok : TOk T) {v w : V} (h1 : rStrands F T.strands v) (h2 : rStrands F T.strands w) : Sim F 6 v w :=
  sim_tupM (n := 5) (by have := ok.many; omega) (fun s hs v w => sim_tupM (n := 4) (by have := (ok.strands s hs).few; omega) fun x hx => sim_vari ((ok.strands s hs).vars x hx)) h1 h2
instance simFl : SimR (rPair rInt rInt) 1 := sim_pair (n := 0) (fun h h' => SimR.sim (R := rInt) h h') (fun h h' => SimR.sim (R := rInt) h h')
instance simLi : SimR (rPair rInt rBool) 1 := sim_pair (n := 0) (fun h h' => SimR.sim (R := rInt) h h') (fun h h' => SimR.sim (R := rBool) h h')
/-- what isinstance asks of the class -/
structure PIs (K : PySem.W.Frag) (C CT : Addr) : Prop where
  ca : PySem.W.findIn K (.ref C) "__class__" = some (some (.builtin "object.__class__"))
  cn : PySem.W.specialIn K (.builtin "object.__class__") "__get__" = some (some (.builtin "getset_descriptor.__get__"))
  ct : PySem.W.takesIn K (.builtin "object.__class__") = some true
  cm : PySem.W.mroIn K C (.type "object") = some true
  kit : PySem.W.kitOne K (.ref C) (.ref CT) = some true
theorem x_isiP {K : PySem.W.Frag} {H F : Hp} {m : Mem} {Q : VK} {C CT : Addr} {T : Told} {v : V} (O : Own H F m) (L : PCls K C) (I : PIs K C CT) (h : rPress C F T v) (k : Q (.bl true) H) : rIsi K [v, .ref CT] H Q := by
  obtain ⟨x, dx, s1, f1, l1, o1, la1, ma1, rfl, hx, _⟩ := h
  exact ⟨_, _, .ref C, .ref CT, true, rfl, .own CT, .base (.ins (O.frz hx) L.cl I.ca I.cn I.ct I.cm), I.kit, k⟩
section
variable {P : Program} {w : World} {K : PySem.W.Frag} {mg : Str → Option Value} {base : Heap}
abbrev sLw : Stmt := top 50
abbrev NLw : List Str := ["script", "pool", "told", "states", "task", "k", "a", "b"]
theorem scLw : FnScope NLw ["script"] (defScope sLw) := ⟨rfl, rfl, rfl, by decide +kernel, rfl, by decide +kernel, by decide +kernel⟩
theorem ok_Lw {f C CT f1 f2 f3 f4 f5 f6 f7 f8 f9 fa fb fc fd_ fe ff fg fh : Addr} {fd fd1 fd2 fd3 fd4 fd5 fd6 fd7 fd8 fd9 fda fdb fdc fdd fde fdf fdg fdh : FuncData} (F : Fun K "law" "law" sLw f fd) (T : Bi mg) (L : PCls K C) (I : PIs K C CT) (mgTask : mg "Task" = some (.ref CT)) (C__law_pool : Cal P w K mg base "_law_pool" 1 f1 fd1 ["script"] (spPool K))
    (C__law_told_press : Cal P w K mg base "_law_told_press" 4 f2 fd2 ["pool", "usual", "most"] spToldP) (C__law_rare : Cal P w K mg base "_law_rare" 2 f3 fd3 ["pool", "many"] spRare) (C__law_greater : Cal P w K mg base "_law_greater" 1 f4 fd4 ["told", "by"] spGreat)
    (C__law_many_strands : Cal P w K mg base "_law_many_strands" 3 f5 fd5 ["pool"] spManyS) (C__law_states : Cal P w K mg base "_law_states" 2 f6 fd6 ["told"] spLStates) (C__law_made : Cal P w K mg base "_law_made" 4 f7 fd7 ["told"] (spLMade C)) (C__law_same : Cal P w K mg base "_law_same" 9 f8 fd8 ["got", "due"] (spSame 9))
    (M_PressTask_first : Met P w K mg base C "first" 1 f9 fd9 ["self"] spPFirst) (C__law_pick : Cal P w K mg base "_law_pick" 2 fa fda ["pool", "row"] spPick) (C__law_state_told : Cal P w K mg base "_law_state_told" 10 fb fdb ["task", "told", "states", "a"] (spLTold C))
    (M_PressTask_is_end : Met P w K mg base C "is_end" 1 fc fdc ["self", "state"] (spPEnd C)) (C__law_pair : Cal P w K mg base "_law_pair" 10 fd_ fdd ["task", "told", "a", "b"] (spLPair C)) (M_PressTask_page_cost : Met P w K mg base C "page_cost" 8 fe fde ["self", "a", "b"] (spPCost C))
    (M_PressTask_filling : Met P w K mg base C "filling" 8 ff fdf ["self", "a", "b"] (spPFill C)) (M_PressTask_steps : Met P w K mg base C "steps" 8 fg fdg ["self", "state"] (spSteps C)) (C__law_default : Cal P w K mg base "_law_default" 11 fh fdh ["told"] (spLDef C)) :
    FnOk P w K mg base CX0 12 f fd ["script"] (spLaw K) := by
  refine F.ok scLw (fun vs H Q E h => ?_) (fun cdv A outer s H vs Q E hr h => ?_)
  · obtain ⟨a, ns, rfl, _⟩ := h
    rfl
  · obtain ⟨a, ns, rfl, hS, hlen, k⟩ := h
    have hu64 := hr.units
    refine ⟨_, 
    (pss_cons (ps_set (i := 1) scLw.nd rfl (Or.inr rfl) (pe_call C__law_pool.ok (hr.mono (by first | decide | omega)) rfl C__law_pool.mg C__law_pool.kp C__law_pool.bi .nil pass0 (pa_cons (pv 0) pa_nil)))
    (pss_cons (ps_set (i := 2) scLw.nd rfl (Or.inl rfl) (pe_call C__law_told_press.ok (hr.mono (by first | decide | omega)) rfl C__law_told_press.mg C__law_told_press.kp C__law_told_press.bi .nil pass0 (pa_cons (pv 1) (pa_cons pe_int (pa_cons pe_int pa_nil)))))
    (Tf.pss_cut (ps_if (pt_val (pe_call C__law_rare.ok (hr.mono (by first | decide | omega)) rfl C__law_rare.mg C__law_rare.kp C__law_rare.bi .nil pass0 (pa_cons (pv 1) (pa_cons pe_int pa_nil)))) 
      (pss_one (ps_set (i := 2) scLw.nd rfl (Or.inl rfl) (pe_call C__law_greater.ok (hr.mono (by first | decide | omega)) rfl C__law_greater.mg C__law_greater.kp C__law_greater.bi .nil pass0 (pa_cons (pv 2) (pa_cons (pe_op op_pow pe_int pe_int) pa_nil))))) pss_nil)
    (Tf.pss_cut (ps_if (pt_val (pe_call C__law_rare.ok (hr.mono (by first | decide | omega)) rfl C__law_rare.mg C__law_rare.kp C__law_rare.bi .nil pass0 (pa_cons (pv 1) (pa_cons pe_int pa_nil)))) 
      (pss_one (ps_set (i := 2) scLw.nd rfl (Or.inl rfl) (pe_call C__law_many_strands.ok (hr.mono (by first | decide | omega)) rfl C__law_many_strands.mg C__law_many_strands.kp C__law_many_strands.bi .nil pass0 (pa_cons (pv 1) pa_nil)))) pss_nil)
    (pss_cons (ps_set (i := 3) scLw.nd rfl (Or.inr rfl) (pe_call C__law_states.ok (hr.mono (by first | decide | omega)) rfl C__law_states.mg C__law_states.kp C__law_states.bi .nil pass0 (pa_cons (pv 2) pa_nil)))
    (pss_cons (ps_set (i := 4) scLw.nd rfl (Or.inl rfl) (pe_call C__law_made.ok (hr.mono (by first | decide | omega)) rfl C__law_made.mg C__law_made.kp C__law_made.bi .nil pass0 (pa_cons (pv 2) pa_nil)))
    (Tf.pss_cut (ps_if (PW.pt (pw_or (pt_not (pt_val (pe_callB call_isi (by rfl) T.b_isinstance (by decide +kernel) (pa_cons (pv 4) (pa_cons (pe_glob (v := .ref CT) rfl mgTask rfl) pa_nil))))) (pw_or1 (pt_not (pt_val (pe_call C__law_same.ok (hr.mono (by first | decide | omega)) rfl C__law_same.mg C__law_same.kp C__law_same.bi .nil pass0 (pa_cons (pe_lst (pa_cons (pe_fld (pv 4) rfl) (pa_cons (pe_fld (pv 4) rfl) (pa_cons (pe_fld (pv 4) rfl) pa_nil)))) (pa_cons (pe_slice sl_list (pv 2) po_none (po_some pe_int)) pa_nil)))))))) 
      (pss_one (ps_ret pe_bl)) pss_nil)
    (Tf.pss_cut (ps_if (pt_not (pt_val (pe_call C__law_same.ok (hr.mono (by first | decide | omega)) rfl C__law_same.mg C__law_same.kp C__law_same.bi .nil pass0 (pa_cons (pe_meth0 (pv 4) M_PressTask_first.cl M_PressTask_first.me M_PressTask_first.ok (hr.mono (by first | decide | omega)) M_PressTask_first.bi .nil pass0) (pa_cons (pe_tup (pa_cons pe_int (pa_cons pe_int (pa_cons pe_int (pa_cons pe_int (pa_cons pe_int pa_nil)))))) pa_nil))))) 
      (pss_one (ps_ret pe_bl)) pss_nil)
    (pss_cons (ps_for PassesOwn.never rfl (pi_list (pe_op op_cat (pe_lst (pa_cons (pe_ix (r := rIxL K) ix_list (pv 3) pe_int (fun _ _ => rfl)) pa_nil)) (pe_lc (own := [("k", 5)]) (g := (gName 5)) (tt := tYes) rfl scLw.nd (pi_range1 (by rfl) T.b_range (pa_cons pe_int pa_nil)) (blkOk_by (N := NLw) (sc := defScope sLw) (by decide +kernel)) (fun _ _ _ _ _ => (pg_name (i := 5) scLw.nd rfl (by first | exact Or.inl rfl | exact Or.inr rfl))) (fun _ _ _ _ _ => pts_nil) (fun _ _ _ _ _ => (pe_call C__law_pick.ok (hr.mono (by first | decide | omega)) rfl C__law_pick.mg C__law_pick.kp C__law_pick.bi .nil pass0 (pa_cons (pv 1) (pa_cons (pv 3) pa_nil))))))) (pg_name (i := 6) scLw.nd rfl (Or.inl rfl)) 
      (pss_one (ps_if (PW.pt (pw_or (pt_not (pt_val (pe_call C__law_state_told.ok (hr.mono (by first | decide | omega)) rfl C__law_state_told.mg C__law_state_told.kp C__law_state_told.bi .nil pass0 (pa_cons (pv 4) (pa_cons (pv 2) (pa_cons (pv 3) (pa_cons (pv 6) pa_nil))))))) (pw_or1 (pt_not (pt_val (pe_call C__law_same.ok (hr.mono (by first | decide | omega)) rfl C__law_same.mg C__law_same.kp C__law_same.bi .nil pass0 (pa_cons (pe_meth (pv 4) M_PressTask_is_end.cl M_PressTask_is_end.me M_PressTask_is_end.ok (hr.mono (by first | decide | omega)) M_PressTask_is_end.bi .nil pass0 (pa_cons (pv 6) pa_nil)) (pa_cons (pe_cmpR (op_eqD hu64) (pv 6) (pe_ix (r := rIxL K) ix_list (pv 3) (pe_un un_neg pe_int) (fun _ _ => rfl)) (nomark _)) pa_nil)))))))) 
        (pss_one (ps_ret pe_bl)) pss_nil)))
    (pss_cons (ps_for PassesOwn.never rfl (pi_range1 (by rfl) T.b_range (pa_cons (pe_callB (cr_min2 rfl) (by rfl) T.b_min (by decide +kernel) (pa_cons pe_int (pa_cons (pe_callB (id := "len") (r := rLen K) cr_len (by rfl) T.b_len (by decide +kernel) (pa_cons (pv 3) pa_nil)) pa_nil))) pa_nil)) (pg_name (i := 5) scLw.nd rfl (Or.inl rfl)) 
      (pss_cons (ps_set (i := 6) scLw.nd rfl (Or.inl rfl) (pe_call C__law_pick.ok (hr.mono (by first | decide | omega)) rfl C__law_pick.mg C__law_pick.kp C__law_pick.bi .nil pass0 (pa_cons (pv 1) (pa_cons (pv 3) pa_nil))))
      (pss_cons (ps_set (i := 7) scLw.nd rfl (Or.inl rfl) (pe_call C__law_pick.ok (hr.mono (by first | decide | omega)) rfl C__law_pick.mg C__law_pick.kp C__law_pick.bi .nil pass0 (pa_cons (pv 1) (pa_cons (pv 3) pa_nil))))
      (Tf.pss_cut (ps_if (PW.pt (pw_or (pt_not (pt_val (pe_call C__law_pair.ok (hr.mono (by first | decide | omega)) rfl C__law_pair.mg C__law_pair.kp C__law_pair.bi .nil pass0 (pa_cons (pv 4) (pa_cons (pv 2) (pa_cons (pe_callB (Tf.cr_min2D rfl hu64) (by rfl) T.b_min (by decide +kernel) (pa_cons (pv 6) (pa_cons (pv 7) pa_nil))) (pa_cons (pe_callB (Tf.cr_max2D rfl hu64) (by rfl) T.b_max (by decide +kernel) (pa_cons (pv 6) (pa_cons (pv 7) pa_nil))) pa_nil))))))) (pw_or1 (pt_not (pt_val (pe_call C__law_pair.ok (hr.mono (by first | decide | omega)) rfl C__law_pair.mg C__law_pair.kp C__law_pair.bi .nil pass0 (pa_cons (pv 4) (pa_cons (pv 2) (pa_cons (pv 6) (pa_cons (pv 6) pa_nil)))))))))) 
        (pss_one (ps_ret pe_bl)) pss_nil)
      (pss_one (ps_if (PW.pt (pw_and (pt_cmpR (op_neD hu64) (pv 6) (pv 7) (nomark _)) (pw_and1 (PW.pt (pw_or (pt_cmpR op_notNon (pe_meth (pv 4) M_PressTask_page_cost.cl M_PressTask_page_cost.me M_PressTask_page_cost.ok (hr.mono (by first | decide | omega)) M_PressTask_page_cost.bi .nil pass0 (pa_cons (pe_callB (Tf.cr_max2D rfl hu64) (by rfl) T.b_max (by decide +kernel) (pa_cons (pv 6) (pa_cons (pv 7) pa_nil))) (pa_cons (pe_callB (Tf.cr_min2D rfl hu64) (by rfl) T.b_min (by decide +kernel) (pa_cons (pv 6) (pa_cons (pv 7) pa_nil))) pa_nil))) pe_non (nomark _)) (pw_or1 (pt_cmpR op_notNon (pe_meth (pv 4) M_PressTask_filling.cl M_PressTask_filling.me M_PressTask_filling.ok (hr.mono (by first | decide | omega)) M_PressTask_filling.bi .nil pass0 (pa_cons (pe_callB (Tf.cr_max2D rfl hu64) (by rfl) T.b_max (by decide +kernel) (pa_cons (pv 6) (pa_cons (pv 7) pa_nil))) (pa_cons (pe_callB (Tf.cr_min2D rfl hu64) (by rfl) T.b_min (by decide +kernel) (pa_cons (pv 6) (pa_cons (pv 7) pa_nil))) pa_nil))) pe_non (nomark _)))))))) 
        (pss_one (ps_ret pe_bl)) pss_nil))))))
    (pss_one (ps_ret (pe_and (pe_cmpR op_isB (pe_meth (pv 4) M_PressTask_is_end.cl M_PressTask_is_end.me M_PressTask_is_end.ok (hr.mono (by first | decide | omega)) M_PressTask_is_end.bi .nil pass0 (pa_cons (pe_ix (r := rIxL K) ix_list (pv 3) (pe_un un_neg pe_int) (fun _ _ => rfl)) pa_nil)) pe_bl (nomark _)) (pe_and (pe_cmpR (op_eqD hu64) (pe_meth (pv 4) M_PressTask_steps.cl M_PressTask_steps.me M_PressTask_steps.ok (hr.mono (by first | decide | omega)) M_PressTask_steps.bi .nil pass0 (pa_cons (pe_ix (r := rIxL K) ix_list (pv 3) (pe_un un_neg pe_int) (fun _ _ => rfl)) pa_nil)) (pe_lst pa_nil) (nomark _)) (pe_one (pe_call C__law_default.ok (hr.mono (by first | decide | omega)) rfl C__law_default.mg C__law_default.kp C__law_default.bi .nil pass0 (pa_cons (pv 2) pa_nil))))))))))))))))), ?_⟩
    walk_at "x"
    refine ⟨a, ns, H, [], rfl, hS, Own.refl H, fun p H1 F1 o1 s1 O1 hp1 => ?_⟩
    walk_at "x"
    refine ⟨p, o1, 2, 3, F1, [], rfl, O1, hp1, by decide, by decide, by decide, by decide, fun tv H2 F2 o2 T0 s2 O2 hp2 htv td => ?_⟩
    walk_at "x"
    refine x_cut (fun σ' H' => ∃ (tv : V) (T1 : Told) (F3 : Hp) (o3 : HO), σ' = [some (.ref a), some (.ref p), some tv, none, none, none, none, none] ∧ Own H' F3 [(p, o3)] ∧ PoolOk F3 o3 ∧ rLT F3 T1 tv ∧ TOk T1) ?_ ?_
    · walk_at "x"
      refine ⟨p, o2, _, F2, _, rfl, O2, hp2, by decide, by decide, fun b H3 o3 O3 hp3 => ?_⟩
      walk_at "x"
      refine x_ite (fun _ => ?_) (fun _ => ?_)
      · walk_at "x"
        refine ⟨tv, _, T0, F2, _, rfl, by decide, O3, htv, td, fun r H4 F4 s4 O4 hr4 => ?_⟩
        walk_at "x"
        have hb : (10 : Int) ^ (12 : Int).toNat = 1000000000000 := by decide
        rw [hb] at hr4
        exact ⟨r, _, F4, o3, rfl, O4, hp3.up s4, hr4, td.gr⟩
      · walk_at "x"
        exact ⟨tv, T0, F2, o3, rfl, O3, hp3, htv, td.ok⟩
    · rintro σ' H3 ⟨tv3, T1, F3, o3, rfl, O3, hp3, htv3, ok1⟩
      walk_at "x"
      refine x_cut (fun σ' H' => ∃ (tv : V) (T1 : Told) (F3 : Hp) (o3 : HO), σ' = [some (.ref a), some (.ref p), some tv, none, none, none, none, none] ∧ Own H' F3 [(p, o3)] ∧ PoolOk F3 o3 ∧ rLT F3 T1 tv ∧ TOk T1) ?_ ?_
      · walk_at "x"
        refine ⟨p, o3, _, F3, _, rfl, O3, hp3, by decide, by decide, fun b H4 o4 O4 hp4 => ?_⟩
        walk_at "x"
        refine x_ite (fun _ => ?_) (fun _ => ?_)
        · walk_at "x"
          refine ⟨p, o4, F3, _, rfl, O4, hp4, fun r H5 F5 o5 T5 s5 O5 hp5 hr5 td5 => ?_⟩
          walk_at "x"
          exact ⟨r, _, F5, o5, rfl, O5, hp5, hr5, td5.ok⟩
        · walk_at "x"
          exact ⟨tv3, T1, F3, o4, rfl, O4, hp4, htv3, ok1⟩
      · rintro σ' H4 ⟨tv4, T', F4, o4, rfl, O4, hp4, htv4, ok⟩
        have nt : ∀ {F : Hp} {o : HO}, PoolOk F o → NoTup [(p, o)] := fun {F o} h c hc xs => by
          rw [List.mem_singleton.mp hc]
          obtain ⟨q1, q2, q3, q4, q5, q6, e, _⟩ := h
          rw [e]
          exact fun z => by cases z
        have hsl := states_len ok
        obtain ⟨s0, hs0⟩ := states_first (T := T')
        have hst0 := states_ok (List.mem_of_getElem? hs0)
        walk_at "x"
        refine ⟨tv4, T', F4, _, rfl, O4, htv4, ok, fun sv H5 F5 s5 O5 hsv => ?_⟩
        walk_at "x"
        refine ⟨tv4, T', F5, _, rfl, O5, up s5 htv4, ok, fun kv H6 F6 s6 O6 hkv => ?_⟩
        walk_at "x"
        have htv6 := up (s5.trans s6) htv4
        have hsv6 := up (R := rList rSt) s6 hsv
        have hp6 := hp4.up (s5.trans s6)
        obtain ⟨x, dx, t1, t2, t3, t4, t5, t6, rfl, hx, h1, h2, h3, h4, h5, h6⟩ := id hkv
        obtain ⟨ta, w1, w2, w3, rfl, hta, g1, g2, g3⟩ := id htv6
        obtain ⟨sa, sus, rfl, hsa, hsus⟩ := id hsv6
        have hsul := hsus.length
        have pick : ∀ {us' : List V} {w : V}, us' = sus → w ∈ us' → ∃ b, IsSt T' b ∧ rSt F6 b w := fun {us' w} e hw => by
          rw [e] at hw
          obtain ⟨i, hi, hiw⟩ := List.getElem_of_mem hw
          obtain ⟨b, hb, hbr⟩ := all2_get hsus (by rw [List.getElem?_eq_getElem hi, hiw])
          exact ⟨b, states_ok (List.mem_of_getElem? hb), hbr⟩
        have hsne : sus ≠ [] := fun e => by
          rw [e] at hsul
          have := (List.getElem?_eq_some_iff.mp hs0).1
          have e2 : ([] : List V).length = 0 := rfl
          omega
        refine x_cut (fun σ' H' => ∃ (F7 : Hp), σ' = [some (.ref a), some (.ref p), some (.ref ta), some (.ref sa), some (.ref x), none, none, none] ∧ Same F6 F7 ∧ Own H' F7 [(p, o4)]) ?_ ?_
        · walk_at "x"
          refine x_isiP O6 L I hkv ?_
          walk_at "x"
          refine x_iteF rfl ?_
          walk_at "x"
          refine x_fldF O6 hx L.cl L.n1 pF_1 ?_
          walk_at "x"
          refine x_fldF O6 hx L.cl L.n2 pF_2 ?_
          walk_at "x"
          refine x_fldF O6 hx L.cl L.n3 pF_3 ?_
          walk_at "x"
          refine x_rawL O6 (by show 3 ≤ _; decide) (fun q1 H7 F7 s7 hq1 O7 => ?_)
          walk_at "x"
          refine x_slRaw O7 (s7 _ _ hta) (fun q2 H8 F8 s8 O8 hq2 => ?_)
          have hq2 : F8 q2 = some (.lst [w1, w2, w3]) := hq2
          walk_at "x"
          have s68 := s7.trans s8
          refine ⟨_, _, F8, _, rfl, O8, .inr ⟨q1, q2, _, _, rfl, rfl, .cons (Sim.le (by decide : 6 ≤ 7) (sim_strands ok (up (R := rStrands) s68 h1) (up (R := rStrands) s68 g1))) (.cons (Sim.le (by decide : 2 ≤ 7) (sim_tup (n := 1) (by have := ok.fewF; omega) (up s68 h2) (up s68 g2))) (.cons (Sim.le (by decide : 2 ≤ 7) (sim_tup (n := 1) (by have := ok.fewL; omega) (up s68 h3) (up s68 g3))) .nil)), by show 3 < _; decide, .inr ⟨s8 _ _ hq1, hq2⟩⟩, fun H9 O9 => ?_⟩
          walk_at "x"
          refine x_iteF rfl ?_
          walk_at "x"
          exact ⟨F8, rfl, s68, O9⟩
        · rintro σ' H7 ⟨F7, rfl, s7, O7⟩
          walk_at "x"
          refine x_cut (fun σ' H' => ∃ (F8 : Hp), σ' = [some (.ref a), some (.ref p), some (.ref ta), some (.ref sa), some (.ref x), none, none, none] ∧ Same F6 F8 ∧ Own H' F8 [(p, o4)]) ?_ ?_
          · walk_at "x"
            refine mq_of (O7.frz (s7 _ _ hx)) (pF_non (n := "first") (by decide +kernel)) ?_
            walk_at "x"
            refine ⟨_, F7, _, rfl, O7, fun r H8 F8 s8 O8 hr8 => ?_⟩
            walk_at "x"
            refine x_newT (R := rInt) (xs := stL (0, 0, 0, 0, 0)) O8 (by show 5 ≤ _; decide) (All2.ofmap (f := V.int)) (fun tz H9 F9 s9 O9 htz => ?_)
            walk_at "x"
            refine ⟨_, _, F9, _, rfl, O9, Sim.le (by decide : 1 ≤ 8) (SimR.sim (R := rSt) (up (R := rTup rInt) s9 hr8) htz), fun H10 O10 => ?_⟩
            walk_at "x"
            refine x_iteF rfl ?_
            walk_at "x"
            exact ⟨F9, rfl, s7.trans (s8.trans s9), O10⟩
          · rintro σ' H8 ⟨F8, rfl, s8, O8⟩
            have hp8 := hp6.up s8
            have hkv8 := up s8 hkv
            have htv8 := up s8 htv6
            have hsv8 := up (R := rList rSt) s8 hsv6
            walk_at "x"
            refine x_ixL (R := rSt) (j := 0) O8 hsv8 rfl hs0 (fun av hav => ?_)
            walk_at "x"
            refine x_newL (R := rSt) (xs := [s0]) O8 (by show 1 ≤ _; decide) (.cons hav .nil) (fun l9 H9 F9 s9 O9 hl9 => ?_)
            walk_at "x"
            refine x_docR1 (S := rSt) (n := 3) O9 rfl (by decide) (by decide) (fun i F5 m5 ys => ∃ o5, m5 = [(p, o5)] ∧ PoolOk F5 o5 ∧ ys.length = i ∧ ∀ y ∈ ys, IsSt T' y) ⟨o4, rfl, hp8.up s9, rfl, fun y hy => (nomatch hy)⟩ ?_ ?_ ?_
            · rintro D acc i H10 F10 m10 ys hi s10 O10 hacc hyl ⟨o10, rfl, hp10, hyi, hyb⟩
              walk_at "x"
              refine ⟨rfl, ?_⟩
              walk_at "x"
              refine x_iteT rfl ?_
              walk_at "x"
              have s610 := s8.trans (s9.trans s10)
              refine ⟨p, o10, sa, sus, F10, _, rfl, O10.swap, hp10, s610 _ _ hsa, hsne, by omega, fun w11 H11 o11 hw11 O11 hp11 => ?_⟩
              obtain ⟨b11, hb11, hbr11⟩ := pick rfl hw11
              refine x_keep (S := rSt) O11.swap s10 (up (R := rTup rInt) s610 hbr11) hacc hyl (by omega) ⟨o11, rfl, hp11, by rw [List.length_append, hyi]; rfl, fun y hy => ?_⟩
              rcases List.mem_append.mp hy with hy | hy
              · exact hyb y hy
              · rw [List.mem_singleton.mp hy]
                exact hb11
            · rintro l10 H10 F10 m10 ys s10 O10 hl10 ⟨o10, rfl, hp10, hyi, hyb⟩
              walk_at "x"
              refine x_cat (R := rSt) O10 (up (R := rList rSt) s10 hl9) hl10 (by show 1 + _ ≤ _; omega) (fun l11 H11 F11 s11 O11 hl11 => ?_)
              have hp11 := hp10.up s11
              have s811 := s9.trans (s10.trans s11)
              refine x_doL (R := rSt) O11 hl11 (fun i σ F' m' => ∃ (u5 u6 u7 : Option V), σ = [some (.ref a), some (.ref p), some (.ref ta), some (.ref sa), some (.ref x), u5, u6, u7] ∧ m' = [(p, o10)]) ⟨_, _, _, rfl, rfl⟩ ?_ ?_
              · rintro i st z σ' H12 F12 m12 hi hz s12 O12 ⟨u5, u6, u7, rfl, rfl⟩
                have hst : IsSt T' st := by
                  rcases List.mem_append.mp (List.mem_of_getElem? hi) with h | h
                  · rw [List.mem_singleton.mp h]
                    exact hst0
                  · exact hyb _ h
                have s812 := s811.trans s12
                walk_at "x"
                refine ⟨_, _, _, z, T', st, F12, _, rfl, O12, nt hp11, up s812 hkv8, up s812 htv8, up (R := rList rSt) s812 hsv8, hz, ok, hst, fun H13 F13 s13 O13 => ?_⟩
                walk_at "x"
                refine x_iteF rfl ?_
                have s813 := s812.trans s13
                walk_at "x"
                refine mq_of (O13.frz ((s8.trans s813) _ _ hx)) (pF_non (n := "is_end") (by decide +kernel)) ?_
                walk_at "x"
                refine ⟨_, z, T', st, F13, _, rfl, O13, up s813 hkv8, up (R := rTup rInt) s13 hz, fun H14 F14 s14 O14 => ?_⟩
                walk_at "x"
                refine x_lastL (R := rSt) O14 (up (R := rList rSt) (s813.trans s14) hsv8) (states_last T') (fun ev hev => ?_)
                refine x_eqD (R := rTup rInt) O14 (up (R := rTup rInt) (s13.trans s14) hz) hev ?_
                rw [dec_iff stL_inj]
                walk_at "x"
                refine ⟨_, _, F14, _, rfl, O14, Sim.le (Nat.zero_le 8) ⟨rfl, rfl⟩, fun H15 O15 => ?_⟩
                walk_at "x"
                refine x_iteF rfl ?_
                walk_at "x"
                exact LI.mk (s12.trans (s13.trans s14)) O15 ⟨_, _, _, rfl, rfl⟩
              · rintro σ' H12 F12 m12 s12 O12 ⟨u5, u6, u7, rfl, rfl⟩
                have s812 := s811.trans s12
                have hp12 := hp11.up s12
                walk_at "x"
                refine x_lenL (R := rSt) O12 (up (R := rList rSt) s812 hsv8) ?_
                walk_at "x"
                refine x_doR1 (n := (if ((states T').length : Int) < 30 then ((states T').length : Int) else 30).toNat) O12 rfl (by split <;> omega) (by split <;> omega) (fun i σ F' m' => ∃ (o' : HO) (u5 u6 u7 : Option V), σ = [some (.ref a), some (.ref p), some (.ref ta), some (.ref sa), some (.ref x), u5, u6, u7] ∧ m' = [(p, o')] ∧ PoolOk F' o') ⟨o10, _, _, _, rfl, rfl, hp12⟩ ?_ ?_
                · rintro i σ' H13 F13 m13 hi s13 O13 ⟨o13, u5', u6', u7', rfl, rfl, hp13⟩
                  have s613 := s8.trans (s812.trans s13)
                  walk_at "x"
                  refine ⟨p, o13, sa, sus, F13, _, rfl, O13, hp13, s613 _ _ hsa, hsne, by omega, fun av' H14 o14 hw14 O14 hp14 => ?_⟩
                  obtain ⟨sx, hsx, hsr⟩ := pick rfl hw14
                  walk_at "x"
                  refine ⟨p, o14, sa, sus, F13, _, rfl, O14, hp14, s613 _ _ hsa, hsne, by omega, fun bv' H15 o15 hw15 O15 hp15 => ?_⟩
                  obtain ⟨sy, hsy, hsr2⟩ := pick rfl hw15
                  have ha15 := up (R := rTup rInt) s613 hsr
                  have hb15 := up (R := rTup rInt) s613 hsr2
                  have hkv15 := up s613 hkv
                  have htv15 := up s613 htv6
                  have hmn := hsx.mn hsy
                  have hmx := hsx.mx hsy
                  walk_at "x"
                  refine x_cut (fun σ' H' => ∃ (F16 : Hp), σ' = [some (.ref a), some (.ref p), some (.ref ta), some (.ref sa), some (.ref x), some (.int (i : Int)), some av', some bv'] ∧ Same F13 F16 ∧ Own H' F16 [(p, o15)]) ?_ ?_
                  · walk_at "x"
                    refine x_minS O15 ha15 hb15 (fun mnv hmnv => ?_)
                    walk_at "x"
                    refine x_maxS O15 ha15 hb15 (fun mxv hmxv => ?_)
                    walk_at "x"
                    refine ⟨_, _, mnv, mxv, T', mnS sx sy, mxS sx sy, F13, _, rfl, O15, nt hp15, hkv15, htv15, hmnv, hmxv, ok, hmn, hmx, fun H16 F16 s16 O16 => ?_⟩
                    walk_at "x"
                    refine x_iteF rfl ?_
                    walk_at "x"
                    refine ⟨_, _, av', av', T', sx, sx, F16, _, rfl, O16, nt hp15, up s16 hkv15, up s16 htv15, up (R := rTup rInt) s16 ha15, up (R := rTup rInt) s16 ha15, ok, hsx, hsx, fun H17 F17 s17 O17 => ?_⟩
                    walk_at "x"
                    refine x_iteF rfl ?_
                    walk_at "x"
                    exact ⟨F17, rfl, s16.trans s17, O17⟩
                  · rintro σ' H16 ⟨F16, rfl, s16, O16⟩
                    have s616 := s613.trans s16
                    have ha16 := up (R := rTup rInt) s16 ha15
                    have hb16 := up (R := rTup rInt) s16 hb15
                    have hkv16 := up s16 hkv15
                    walk_at "x"
                    walk_at "x"
                    refine x_neD (R := rTup rInt) O16 ha16 hb16 ?_
                    rw [dec_iff stL_inj]
                    walk_at "x"
                    refine x_iteDn (fun hne => ?_) (fun hne => ?_)
                    · walk_at "x"
                      refine mq_of (O16.frz (s616 _ _ hx)) (pF_non (n := "page_cost") (by decide +kernel)) ?_
                      walk_at "x"
                      refine x_maxS O16 ha16 hb16 (fun mxv hmxv => ?_)
                      walk_at "x"
                      refine x_minS O16 ha16 hb16 (fun mnv hmnv => ?_)
                      walk_at "x"
                      refine ⟨_, mxv, mnv, T', mxS sx sy, mnS sx sy, F16, _, rfl, O16, nt hp15, hkv16, hmxv, hmnv, ok, hmx, hmn, fun H17 F17 s17 O17 => ?_⟩
                      rw [mm_none hsx hsy]
                      have eo : optV ((none : Option (Int × List Int)).map (·.1)) = V.non := rfl
                      rw [eo]
                      walk_at "x"
                      refine x_iteF rfl ?_
                      walk_at "x"
                      refine mq_of (O17.frz ((s616.trans s17) _ _ hx)) (pF_non (n := "filling") (by decide +kernel)) ?_
                      walk_at "x"
                      refine x_maxS O17 (up (R := rTup rInt) s17 ha16) (up (R := rTup rInt) s17 hb16) (fun mxv2 hmxv2 => ?_)
                      walk_at "x"
                      refine x_minS O17 (up (R := rTup rInt) s17 ha16) (up (R := rTup rInt) s17 hb16) (fun mnv2 hmnv2 => ?_)
                      walk_at "x"
                      refine ⟨_, mxv2, mnv2, T', mxS sx sy, mnS sx sy, F17, _, rfl, O17, nt hp15, up s17 hkv16, hmxv2, hmnv2, ok, hmx, hmn, fun r18 H18 F18 s18 O18 hr18 => ?_⟩
                      rw [mm_none hsx hsy] at hr18
                      have hr18 : r18 = .non := hr18
                      subst hr18
                      walk_at "x"
                      refine x_iteF rfl ?_
                      walk_at "x"
                      exact LI.mk (s13.trans (s16.trans (s17.trans s18))) O18 ⟨o15, _, _, _, rfl, rfl, hp15.up (s16.trans (s17.trans s18))⟩
                    · refine x_iteF rfl ?_
                      walk_at "x"
                      exact LI.mk (s13.trans s16) O16 ⟨o15, _, _, _, rfl, rfl, hp15.up s16⟩
                · rintro σ' H13 F13 m13 s13 O13 ⟨o13, u5', u6', u7', rfl, rfl, hp13⟩
                  have s813 := s812.trans s13
                  have hkv13 := up s813 hkv8
                  have hsv13 := up (R := rList rSt) s813 hsv8
                  walk_at "x"
                  refine mq_of (O13.frz ((s8.trans s813) _ _ hx)) (pF_non (n := "is_end") (by decide +kernel)) ?_
                  walk_at "x"
                  refine x_lastL (R := rSt) O13 hsv13 (states_last T') (fun ev hev => ?_)
                  walk_at "x"
                  refine ⟨_, ev, T', endS T', F13, _, rfl, O13, hkv13, hev, fun H14 F14 s14 O14 => ?_⟩
                  rw [decide_eq_true rfl]
                  walk_at "x"
                  refine x_iteT rfl ?_
                  walk_at "x"
                  refine mq_of (O14.frz ((s8.trans (s813.trans s14)) _ _ hx)) (pF_non (n := "steps") (by decide +kernel)) ?_
                  walk_at "x"
                  refine x_lastL (R := rSt) O14 (up (R := rList rSt) s14 hsv13) (states_last T') (fun ev2 hev2 => ?_)
                  walk_at "x"
                  refine ⟨_, ev2, T', endS T', F14, _, rfl, O14, nt hp13, up s14 hkv13, hev2, ok, end_st T', fun q15 H15 F15 us15 s15 O15 hus15 => ?_⟩
                  rw [end_none] at hus15
                  cases hus15
                  have s16 := O15.freeze_same
                  have O16 := O15.freeze
                  have hq16 : rList rInt (upd F15 q15 (.lst [])) [] (.ref q15) := ⟨q15, [], rfl, upd_same, .nil⟩
                  generalize upd F15 q15 (.lst []) = F16 at O16 s16 hq16
                  walk_at "x"
                  refine x_newL (R := rInt) (xs := []) O16 (Nat.zero_le _) .nil (fun e17 H17 F17 s17 O17 he17 => ?_)
                  walk_at "x"
                  refine x_eqLI O17 (up s17 hq16) he17 ?_
                  walk_at "x"
                  refine x_iteT rfl ?_
                  walk_at "x"
                  refine ⟨_, T', F17, _, rfl, O17, nt hp13, up (s813.trans (s14.trans (s15.trans (s16.trans s17)))) htv8, ok, fun H18 F18 s18 O18 => ?_⟩
                  exact k H18
            · rintro F6' F7' m6 ys j s6' ⟨o6, e6, h6', h7'⟩
              exact ⟨o6, e6, h6'.up s6', h7'⟩
end
end Tf
namespace Tf
open PySem PySem.Spec PyProof.Rows L2
abbrev psPI : List Str := ["self", "strands", "floats", "lines", "height", "floats_a_page", "rule", "float_gap"]
abbrev kwPI : List (Str × V) := [("floats_a_page", .int 1), ("rule", .int 1), ("float_gap", .int 1)]
theorem kb_full {K : PySem.W.Frag} {f : Addr} {fd : FuncData} (FD : FunD K "__init__" "PressTask.__init__" (defArgs sPI) (defBody sPI) (defScope sPI) [] kwPI f fd) : KBn K fd psPI 4 ["height", "floats_a_page", "rule", "float_gap"] (fun us ws => us ++ ws) (fun vs zs => vs ++ zs) := by
  obtain ⟨mv, h⟩ := FD.kbinds0 (ps := psPI) 4 ["height", "floats_a_page", "rule", "float_gap"] [] (fun us mv ws => us ++ ws) (by simp) (fun q hq => (nomatch hq)) (fun r1 _ r3 => r1.append r3) (fun D doc pm an cdv ct us mv ws h1 h2 h3 => match us, ws, mv, h1, h3, h2 with
    | [_, _, _, _], [_, _, _, _], [], _, _, _ => rfl)
  exact h
theorem kb_def {K : PySem.W.Frag} {f : Addr} {fd : FuncData} (FD : FunD K "__init__" "PressTask.__init__" (defArgs sPI) (defBody sPI) (defScope sPI) [] kwPI f fd) : ∃ mv : List Value, KBn K fd psPI 4 ["height"] (fun us ws => us ++ (ws ++ mv)) (fun vs zs => vs ++ (zs ++ [.int 1, .int 1, .int 1])) :=
  FD.kbinds0 (ps := psPI) 4 ["height"] kwPI (fun us mv ws => us ++ (ws ++ mv)) (by simp) (fun q hq => hq) (fun r1 r2 r3 => r1.append (r3.append r2)) (fun D doc pm an cdv ct us mv ws h1 h2 h3 => match us, ws, mv, h1, h3, h2 with
    | [_, _, _, _], [_], [_, _, _], _, _, _ => ⟨_, _, _, _, _, _, rfl, rfl, _, _, _, _, _, _, rfl, rfl, _, _, _, _, _, _, rfl, rfl, rfl⟩)
theorem kit_sub {K : PySem.W.Frag} {C CT : Addr} (h1 : PySem.W.hasDictIn K CT = true) (h2 : PySem.W.typeIn K (.ref CT) = some (.type "type")) (h3 : PySem.W.subIn K (.ref C) (.ref CT) = some true) : PySem.W.kitOne K (.ref C) (.ref CT) = some true := by
  obtain ⟨cd, hc, _⟩ := PySem.W.any_some h1
  unfold PySem.W.kitOne PySem.W.kitCls
  split
  · rfl
  · dsimp only
    rw [if_pos (by
      rw [hc, h2]
      simp)]
    exact h3
end Tf
namespace Tf
open PySem PySem.Spec PyProof.Rows L2
theorem all_mk {l : PySem.W.OpenLaw} {w : World} {K : PySem.W.Frag} {h : Heap} {mg : Str → Option Value} {fa cGlue cPressTask fDr fPo fPi fRa fFe fSa fGI fGA fGP fBn fFc fWt fRc fPF fPE fPR fVa fDf fDl fNc fLo fWu fTh fLe fOg fEc fBe fSp fPg fSn fPc fFl fPI fCu fSt fTp fMs fGr fLv fLp fLs fLd fLn fLb fLf fLu fLx fPr fPa fLst fLr fLq fLt fMd fLdf fLw : Addr} (X : K.In h) (G : h.Ns mainGlobals mg) (hfa : mg "law" = some (.ref fa))
    {odDr anDr odPo anPo odPi anPi odRa anRa odFe anFe odSa anSa odGI anGI odGA anGA odGP anGP odBn anBn odFc anFc odWt anWt odRc anRc odPF anPF odPE anPE odPR anPR odVa anVa odDf anDf odDl anDl odNc anNc odLo anLo odWu anWu odTh anTh odLe anLe odOg anOg odEc anEc odBe anBe odSp anSp odPg anPg odSn anSn odPc anPc odFl anFl odPI anPI odCu anCu odSt anSt odTp anTp odMs anMs odGr anGr odLv anLv odLp anLp odLs anLs odLd anLd odLn anLn odLb anLb odLf anLf odLu anLu odLx anLx odPr anPr odPa anPa odLst anLst odLr anLr odLq anLq odLt anLt odMd anMd odLdf anLdf odLw anLw : Option Addr} {slDr slPo slPi slRa slFe slSa slGI slGA slGP slBn slFc slWt slRc slPF slPE slPR slVa slDf slDl slNc slLo slWu slTh slLe slOg slEc slBe slSp slPg slSn slPc slFl slPI slCu slSt slTp slMs slGr slLv slLp slLs slLd slLn slLb slLf slLu slLx slPr slPa slLst slLr slLq slLt slMd slLdf slLw : Array (Option Value)} {ocDr kVDr dcDr pmDr cdDr ctDr ocPo kVPo dcPo pmPo cdPo ctPo ocPi kVPi dcPi pmPi cdPi ctPi ocRa kVRa dcRa pmRa cdRa ctRa ocFe kVFe dcFe pmFe cdFe ctFe ocSa kVSa dcSa pmSa cdSa ctSa ocGI kVGI dcGI pmGI cdGI ctGI ocGA kVGA dcGA pmGA cdGA ctGA ocGP kVGP dcGP pmGP cdGP ctGP ocBn kVBn dcBn pmBn cdBn ctBn ocFc kVFc dcFc pmFc cdFc ctFc ocWt kVWt dcWt pmWt cdWt ctWt ocRc kVRc dcRc pmRc cdRc ctRc ocPF kVPF dcPF pmPF cdPF ctPF ocPE kVPE dcPE pmPE cdPE ctPE ocPR kVPR dcPR pmPR cdPR ctPR ocVa kVVa dcVa pmVa cdVa ctVa ocDf kVDf dcDf pmDf cdDf ctDf ocDl kVDl dcDl pmDl cdDl ctDl ocNc kVNc dcNc pmNc cdNc ctNc ocLo kVLo dcLo pmLo cdLo ctLo ocWu kVWu dcWu pmWu cdWu ctWu ocTh kVTh dcTh pmTh cdTh ctTh ocLe kVLe dcLe pmLe cdLe ctLe ocOg kVOg dcOg pmOg cdOg ctOg ocEc kVEc dcEc pmEc cdEc ctEc ocBe kVBe dcBe pmBe cdBe ctBe ocSp kVSp dcSp pmSp cdSp ctSp ocPg kVPg dcPg pmPg cdPg ctPg ocSn kVSn dcSn pmSn cdSn ctSn ocPc kVPc dcPc pmPc cdPc ctPc ocFl kVFl dcFl pmFl cdFl ctFl ocPI dcPI pmPI cdPI ctPI ocCu kVCu dcCu pmCu cdCu ctCu ocSt kVSt dcSt pmSt cdSt ctSt ocTp kVTp dcTp pmTp cdTp ctTp ocMs kVMs dcMs pmMs cdMs ctMs ocGr kVGr dcGr pmGr cdGr ctGr ocLv kVLv dcLv pmLv cdLv ctLv ocLp kVLp dcLp pmLp cdLp ctLp ocLs kVLs dcLs pmLs cdLs ctLs ocLd kVLd dcLd pmLd cdLd ctLd ocLn kVLn dcLn pmLn cdLn ctLn ocLb kVLb dcLb pmLb cdLb ctLb ocLf kVLf dcLf pmLf cdLf ctLf ocLu kVLu dcLu pmLu cdLu ctLu ocLx kVLx dcLx pmLx cdLx ctLx ocPr kVPr dcPr pmPr cdPr ctPr ocPa kVPa dcPa pmPa cdPa ctPa ocLst kVLst dcLst pmLst cdLst ctLst ocLr kVLr dcLr pmLr cdLr ctLr ocLq kVLq dcLq pmLq cdLq ctLq ocLt kVLt dcLt pmLt cdLt ctLt ocMd kVMd dcMd pmMd cdMd ctMd ocLdf kVLdf dcLdf pmLdf cdLdf ctLdf ocLw kVLw dcLw pmLw cdLw ctLw : Value}
    {cTask pGL kDPI : Addr} {restGL : List Value} {tcMUST tcNO_UNIT_SET tc_FLOAT_WAITS tc_NOTES_WAIT tc_LINE_WAITS tc_FIRST_LINE_WAITS tcMOST_BADNESS tkfloats_a_page tkrule tkfloat_gap : Tok} {fGL : Addr} {odGL anGL : Option Addr} {slGL : Array (Option Value)} {ocGL kVGL dcGL pmGL cdGL ctGL : Value}
    (CGlue : PySem.W.nsIn K mainGlobals "Glue" = some (some (.ref cGlue)))
    (CPressTask : PySem.W.nsIn K mainGlobals "PressTask" = some (some (.ref cPressTask)))
    (aDr : PySem.W.nsIn K mainGlobals "_law_draw" = some (some (.ref fDr)))
    (lDr : K.lookup fDr = some ⟨ocDr, odDr, .func (PySem.W.fnOf "_law_draw" "_law_draw" (defArgs sDr) (defBody sDr) (defScope sDr) .none kVDr dcDr pmDr anDr cdDr ctDr), slDr⟩)
    (cDr : PySem.W.codeIn K cdDr "_law_draw" = true)
    (kDr : PySem.W.keepIn K (.ref fDr) = true)
    (aPo : PySem.W.nsIn K mainGlobals "_law_pool" = some (some (.ref fPo)))
    (lPo : K.lookup fPo = some ⟨ocPo, odPo, .func (PySem.W.fnOf "_law_pool" "_law_pool" (defArgs sPo) (defBody sPo) (defScope sPo) .none kVPo dcPo pmPo anPo cdPo ctPo), slPo⟩)
    (cPo : PySem.W.codeIn K cdPo "_law_pool" = true)
    (kPo : PySem.W.keepIn K (.ref fPo) = true)
    (aPi : PySem.W.nsIn K mainGlobals "_law_pick" = some (some (.ref fPi)))
    (lPi : K.lookup fPi = some ⟨ocPi, odPi, .func (PySem.W.fnOf "_law_pick" "_law_pick" (defArgs sPi) (defBody sPi) (defScope sPi) .none kVPi dcPi pmPi anPi cdPi ctPi), slPi⟩)
    (cPi : PySem.W.codeIn K cdPi "_law_pick" = true)
    (kPi : PySem.W.keepIn K (.ref fPi) = true)
    (aRa : PySem.W.nsIn K mainGlobals "_law_rare" = some (some (.ref fRa)))
    (lRa : K.lookup fRa = some ⟨ocRa, odRa, .func (PySem.W.fnOf "_law_rare" "_law_rare" (defArgs sRa) (defBody sRa) (defScope sRa) .none kVRa dcRa pmRa anRa cdRa ctRa), slRa⟩)
    (cRa : PySem.W.codeIn K cdRa "_law_rare" = true)
    (kRa : PySem.W.keepIn K (.ref fRa) = true)
    (aFe : PySem.W.nsIn K mainGlobals "_law_few" = some (some (.ref fFe)))
    (lFe : K.lookup fFe = some ⟨ocFe, odFe, .func (PySem.W.fnOf "_law_few" "_law_few" (defArgs sFe) (defBody sFe) (defScope sFe) .none kVFe dcFe pmFe anFe cdFe ctFe), slFe⟩)
    (cFe : PySem.W.codeIn K cdFe "_law_few" = true)
    (kFe : PySem.W.keepIn K (.ref fFe) = true)
    (aSa : PySem.W.nsIn K mainGlobals "_law_same" = some (some (.ref fSa)))
    (lSa : K.lookup fSa = some ⟨ocSa, odSa, .func (PySem.W.fnOf "_law_same" "_law_same" (defArgs sSa) (defBody sSa) (defScope sSa) .none kVSa dcSa pmSa anSa cdSa ctSa), slSa⟩)
    (cSa : PySem.W.codeIn K cdSa "_law_same" = true)
    (kSa : PySem.W.keepIn K (.ref fSa) = true)
    (aGI : PySem.W.findIn K (.ref cGlue) "__init__" = some (some (.ref fGI)))
    (iGI : PySem.W.isFn K (.ref fGI) = true)
    (lGI : K.lookup fGI = some ⟨ocGI, odGI, .func (PySem.W.fnOf "__init__" "Glue.__init__" (defArgs sGI) (defBody sGI) (defScope sGI) .none kVGI dcGI pmGI anGI cdGI ctGI), slGI⟩)
    (cGI : PySem.W.codeIn K cdGI "Glue.__init__" = true)
    (kGI : PySem.W.keepIn K (.ref fGI) = true)
    (aGA : PySem.W.findIn K (.ref cGlue) "__add__" = some (some (.ref fGA)))
    (iGA : PySem.W.isFn K (.ref fGA) = true)
    (lGA : K.lookup fGA = some ⟨ocGA, odGA, .func (PySem.W.fnOf "__add__" "Glue.__add__" (defArgs sGA) (defBody sGA) (defScope sGA) .none kVGA dcGA pmGA anGA cdGA ctGA), slGA⟩)
    (cGA : PySem.W.codeIn K cdGA "Glue.__add__" = true)
    (kGA : PySem.W.keepIn K (.ref fGA) = true)
    (aGP : PySem.W.findIn K (.ref cGlue) "plain" = some (some (.ref fGP)))
    (iGP : PySem.W.isFn K (.ref fGP) = true)
    (lGP : K.lookup fGP = some ⟨ocGP, odGP, .func (PySem.W.fnOf "plain" "Glue.plain" (defArgs sGP) (defBody sGP) (defScope sGP) .none kVGP dcGP pmGP anGP cdGP ctGP), slGP⟩)
    (cGP : PySem.W.codeIn K cdGP "Glue.plain" = true)
    (kGP : PySem.W.keepIn K (.ref fGP) = true)
    (aBn : PySem.W.nsIn K mainGlobals "badness" = some (some (.ref fBn)))
    (lBn : K.lookup fBn = some ⟨ocBn, odBn, .func (PySem.W.fnOf "badness" "badness" (defArgs sBn) (defBody sBn) (defScope sBn) .none kVBn dcBn pmBn anBn cdBn ctBn), slBn⟩)
    (cBn : PySem.W.codeIn K cdBn "badness" = true)
    (kBn : PySem.W.keepIn K (.ref fBn) = true)
    (aFc : PySem.W.nsIn K mainGlobals "fill_cost" = some (some (.ref fFc)))
    (lFc : K.lookup fFc = some ⟨ocFc, odFc, .func (PySem.W.fnOf "fill_cost" "fill_cost" (defArgs sFc) (defBody sFc) (defScope sFc) .none kVFc dcFc pmFc anFc cdFc ctFc), slFc⟩)
    (cFc : PySem.W.codeIn K cdFc "fill_cost" = true)
    (kFc : PySem.W.keepIn K (.ref fFc) = true)
    (aWt : PySem.W.nsIn K mainGlobals "wait_cost" = some (some (.ref fWt)))
    (lWt : K.lookup fWt = some ⟨ocWt, odWt, .func (PySem.W.fnOf "wait_cost" "wait_cost" (defArgs sWt) (defBody sWt) (defScope sWt) .none kVWt dcWt pmWt anWt cdWt ctWt), slWt⟩)
    (cWt : PySem.W.codeIn K cdWt "wait_cost" = true)
    (kWt : PySem.W.keepIn K (.ref fWt) = true)
    (aRc : PySem.W.nsIn K mainGlobals "running_counts" = some (some (.ref fRc)))
    (lRc : K.lookup fRc = some ⟨ocRc, odRc, .func (PySem.W.fnOf "running_counts" "running_counts" (defArgs sRc) (defBody sRc) (defScope sRc) .none kVRc dcRc pmRc anRc cdRc ctRc), slRc⟩)
    (cRc : PySem.W.codeIn K cdRc "running_counts" = true)
    (kRc : PySem.W.keepIn K (.ref fRc) = true)
    (aPF : PySem.W.findIn K (.ref cPressTask) "first" = some (some (.ref fPF)))
    (iPF : PySem.W.isFn K (.ref fPF) = true)
    (lPF : K.lookup fPF = some ⟨ocPF, odPF, .func (PySem.W.fnOf "first" "PressTask.first" (defArgs sPF) (defBody sPF) (defScope sPF) .none kVPF dcPF pmPF anPF cdPF ctPF), slPF⟩)
    (cPF : PySem.W.codeIn K cdPF "PressTask.first" = true)
    (kPF : PySem.W.keepIn K (.ref fPF) = true)
    (aPE : PySem.W.findIn K (.ref cPressTask) "is_end" = some (some (.ref fPE)))
    (iPE : PySem.W.isFn K (.ref fPE) = true)
    (lPE : K.lookup fPE = some ⟨ocPE, odPE, .func (PySem.W.fnOf "is_end" "PressTask.is_end" (defArgs sPE) (defBody sPE) (defScope sPE) .none kVPE dcPE pmPE anPE cdPE ctPE), slPE⟩)
    (cPE : PySem.W.codeIn K cdPE "PressTask.is_end" = true)
    (kPE : PySem.W.keepIn K (.ref fPE) = true)
    (aPR : PySem.W.findIn K (.ref cPressTask) "rank" = some (some (.ref fPR)))
    (iPR : PySem.W.isFn K (.ref fPR) = true)
    (lPR : K.lookup fPR = some ⟨ocPR, odPR, .func (PySem.W.fnOf "rank" "PressTask.rank" (defArgs sPR) (defBody sPR) (defScope sPR) .none kVPR dcPR pmPR anPR cdPR ctPR), slPR⟩)
    (cPR : PySem.W.codeIn K cdPR "PressTask.rank" = true)
    (kPR : PySem.W.keepIn K (.ref fPR) = true)
    (aVa : PySem.W.findIn K (.ref cPressTask) "_variant" = some (some (.ref fVa)))
    (iVa : PySem.W.isFn K (.ref fVa) = true)
    (lVa : K.lookup fVa = some ⟨ocVa, odVa, .func (PySem.W.fnOf "_variant" "PressTask._variant" (defArgs sVa) (defBody sVa) (defScope sVa) .none kVVa dcVa pmVa anVa cdVa ctVa), slVa⟩)
    (cVa : PySem.W.codeIn K cdVa "PressTask._variant" = true)
    (kVa : PySem.W.keepIn K (.ref fVa) = true)
    (aDf : PySem.W.findIn K (.ref cPressTask) "_due_floats" = some (some (.ref fDf)))
    (iDf : PySem.W.isFn K (.ref fDf) = true)
    (lDf : K.lookup fDf = some ⟨ocDf, odDf, .func (PySem.W.fnOf "_due_floats" "PressTask._due_floats" (defArgs sDf) (defBody sDf) (defScope sDf) .none kVDf dcDf pmDf anDf cdDf ctDf), slDf⟩)
    (cDf : PySem.W.codeIn K cdDf "PressTask._due_floats" = true)
    (kDf : PySem.W.keepIn K (.ref fDf) = true)
    (aDl : PySem.W.findIn K (.ref cPressTask) "_due_lines" = some (some (.ref fDl)))
    (iDl : PySem.W.isFn K (.ref fDl) = true)
    (lDl : K.lookup fDl = some ⟨ocDl, odDl, .func (PySem.W.fnOf "_due_lines" "PressTask._due_lines" (defArgs sDl) (defBody sDl) (defScope sDl) .none kVDl dcDl pmDl anDl cdDl ctDl), slDl⟩)
    (cDl : PySem.W.codeIn K cdDl "PressTask._due_lines" = true)
    (kDl : PySem.W.keepIn K (.ref fDl) = true)
    (aNc : PySem.W.findIn K (.ref cPressTask) "_next_cost" = some (some (.ref fNc)))
    (iNc : PySem.W.isFn K (.ref fNc) = true)
    (lNc : K.lookup fNc = some ⟨ocNc, odNc, .func (PySem.W.fnOf "_next_cost" "PressTask._next_cost" (defArgs sNc) (defBody sNc) (defScope sNc) .none kVNc dcNc pmNc anNc cdNc ctNc), slNc⟩)
    (cNc : PySem.W.codeIn K cdNc "PressTask._next_cost" = true)
    (kNc : PySem.W.keepIn K (.ref fNc) = true)
    (aLo : PySem.W.findIn K (.ref cPressTask) "_loose" = some (some (.ref fLo)))
    (iLo : PySem.W.isFn K (.ref fLo) = true)
    (lLo : K.lookup fLo = some ⟨ocLo, odLo, .func (PySem.W.fnOf "_loose" "PressTask._loose" (defArgs sLo) (defBody sLo) (defScope sLo) .none kVLo dcLo pmLo anLo cdLo ctLo), slLo⟩)
    (cLo : PySem.W.codeIn K cdLo "PressTask._loose" = true)
    (kLo : PySem.W.keepIn K (.ref fLo) = true)
    (aWu : PySem.W.findIn K (.ref cPressTask) "_with_unit" = some (some (.ref fWu)))
    (iWu : PySem.W.isFn K (.ref fWu) = true)
    (lWu : K.lookup fWu = some ⟨ocWu, odWu, .func (PySem.W.fnOf "_with_unit" "PressTask._with_unit" (defArgs sWu) (defBody sWu) (defScope sWu) .none kVWu dcWu pmWu anWu cdWu ctWu), slWu⟩)
    (cWu : PySem.W.codeIn K cdWu "PressTask._with_unit" = true)
    (kWu : PySem.W.keepIn K (.ref fWu) = true)
    (aTh : PySem.W.findIn K (.ref cPressTask) "_through" = some (some (.ref fTh)))
    (iTh : PySem.W.isFn K (.ref fTh) = true)
    (lTh : K.lookup fTh = some ⟨ocTh, odTh, .func (PySem.W.fnOf "_through" "PressTask._through" (defArgs sTh) (defBody sTh) (defScope sTh) .none kVTh dcTh pmTh anTh cdTh ctTh), slTh⟩)
    (cTh : PySem.W.codeIn K cdTh "PressTask._through" = true)
    (kTh : PySem.W.keepIn K (.ref fTh) = true)
    (aLe : PySem.W.nsIn K mainGlobals "_least_fills" = some (some (.ref fLe)))
    (lLe : K.lookup fLe = some ⟨ocLe, odLe, .func (PySem.W.fnOf "_least_fills" "_least_fills" (defArgs sLe) (defBody sLe) (defScope sLe) .none kVLe dcLe pmLe anLe cdLe ctLe), slLe⟩)
    (cLe : PySem.W.codeIn K cdLe "_least_fills" = true)
    (kLe : PySem.W.keepIn K (.ref fLe) = true)
    (aOg : PySem.W.findIn K (.ref cPressTask) "_other_glue" = some (some (.ref fOg)))
    (iOg : PySem.W.isFn K (.ref fOg) = true)
    (lOg : K.lookup fOg = some ⟨ocOg, odOg, .func (PySem.W.fnOf "_other_glue" "PressTask._other_glue" (defArgs sOg) (defBody sOg) (defScope sOg) .none kVOg dcOg pmOg anOg cdOg ctOg), slOg⟩)
    (cOg : PySem.W.codeIn K cdOg "PressTask._other_glue" = true)
    (kOg : PySem.W.keepIn K (.ref fOg) = true)
    (aEc : PySem.W.findIn K (.ref cPressTask) "_end_cost" = some (some (.ref fEc)))
    (iEc : PySem.W.isFn K (.ref fEc) = true)
    (lEc : K.lookup fEc = some ⟨ocEc, odEc, .func (PySem.W.fnOf "_end_cost" "PressTask._end_cost" (defArgs sEc) (defBody sEc) (defScope sEc) .none kVEc dcEc pmEc anEc cdEc ctEc), slEc⟩)
    (cEc : PySem.W.codeIn K cdEc "PressTask._end_cost" = true)
    (kEc : PySem.W.keepIn K (.ref fEc) = true)
    (aBe : PySem.W.findIn K (.ref cPressTask) "_best" = some (some (.ref fBe)))
    (iBe : PySem.W.isFn K (.ref fBe) = true)
    (lBe : K.lookup fBe = some ⟨ocBe, odBe, .func (PySem.W.fnOf "_best" "PressTask._best" (defArgs sBe) (defBody sBe) (defScope sBe) .none kVBe dcBe pmBe anBe cdBe ctBe), slBe⟩)
    (cBe : PySem.W.codeIn K cdBe "PressTask._best" = true)
    (kBe : PySem.W.keepIn K (.ref fBe) = true)
    (aSp : PySem.W.findIn K (.ref cPressTask) "_spots" = some (some (.ref fSp)))
    (iSp : PySem.W.isFn K (.ref fSp) = true)
    (lSp : K.lookup fSp = some ⟨ocSp, odSp, .func (PySem.W.fnOf "_spots" "PressTask._spots" (defArgs sSp) (defBody sSp) (defScope sSp) .none kVSp dcSp pmSp anSp cdSp ctSp), slSp⟩)
    (cSp : PySem.W.codeIn K cdSp "PressTask._spots" = true)
    (kSp : PySem.W.keepIn K (.ref fSp) = true)
    (aPg : PySem.W.findIn K (.ref cPressTask) "_pages" = some (some (.ref fPg)))
    (iPg : PySem.W.isFn K (.ref fPg) = true)
    (lPg : K.lookup fPg = some ⟨ocPg, odPg, .func (PySem.W.fnOf "_pages" "PressTask._pages" (defArgs sPg) (defBody sPg) (defScope sPg) .none kVPg dcPg pmPg anPg cdPg ctPg), slPg⟩)
    (cPg : PySem.W.codeIn K cdPg "PressTask._pages" = true)
    (kPg : PySem.W.keepIn K (.ref fPg) = true)
    (aSn : PySem.W.findIn K (.ref cPressTask) "steps" = some (some (.ref fSn)))
    (iSn : PySem.W.isFn K (.ref fSn) = true)
    (lSn : K.lookup fSn = some ⟨ocSn, odSn, .func (PySem.W.fnOf "steps" "PressTask.steps" (defArgs sSn) (defBody sSn) (defScope sSn) .none kVSn dcSn pmSn anSn cdSn ctSn), slSn⟩)
    (cSn : PySem.W.codeIn K cdSn "PressTask.steps" = true)
    (kSn : PySem.W.keepIn K (.ref fSn) = true)
    (aPc : PySem.W.findIn K (.ref cPressTask) "page_cost" = some (some (.ref fPc)))
    (iPc : PySem.W.isFn K (.ref fPc) = true)
    (lPc : K.lookup fPc = some ⟨ocPc, odPc, .func (PySem.W.fnOf "page_cost" "PressTask.page_cost" (defArgs sPc) (defBody sPc) (defScope sPc) .none kVPc dcPc pmPc anPc cdPc ctPc), slPc⟩)
    (cPc : PySem.W.codeIn K cdPc "PressTask.page_cost" = true)
    (kPc : PySem.W.keepIn K (.ref fPc) = true)
    (aFl : PySem.W.findIn K (.ref cPressTask) "filling" = some (some (.ref fFl)))
    (iFl : PySem.W.isFn K (.ref fFl) = true)
    (lFl : K.lookup fFl = some ⟨ocFl, odFl, .func (PySem.W.fnOf "filling" "PressTask.filling" (defArgs sFl) (defBody sFl) (defScope sFl) .none kVFl dcFl pmFl anFl cdFl ctFl), slFl⟩)
    (cFl : PySem.W.codeIn K cdFl "PressTask.filling" = true)
    (kFl : PySem.W.keepIn K (.ref fFl) = true)
    (aPI : PySem.W.findIn K (.ref cPressTask) "__init__" = some (some (.ref fPI)))
    (iPI : PySem.W.isFn K (.ref fPI) = true)
    (lPI : K.lookup fPI = some ⟨ocPI, odPI, .func (PySem.W.fnOf "__init__" "PressTask.__init__" (defArgs sPI) (defBody sPI) (defScope sPI) .none (.ref kDPI) dcPI pmPI anPI cdPI ctPI), slPI⟩)
    (cPI : PySem.W.codeIn K cdPI "PressTask.__init__" = true)
    (kPI : PySem.W.keepIn K (.ref fPI) = true)
    (aCu : PySem.W.nsIn K mainGlobals "_law_cut" = some (some (.ref fCu)))
    (lCu : K.lookup fCu = some ⟨ocCu, odCu, .func (PySem.W.fnOf "_law_cut" "_law_cut" (defArgs sCu) (defBody sCu) (defScope sCu) .none kVCu dcCu pmCu anCu cdCu ctCu), slCu⟩)
    (cCu : PySem.W.codeIn K cdCu "_law_cut" = true)
    (kCu : PySem.W.keepIn K (.ref fCu) = true)
    (aSt : PySem.W.nsIn K mainGlobals "_law_strand" = some (some (.ref fSt)))
    (lSt : K.lookup fSt = some ⟨ocSt, odSt, .func (PySem.W.fnOf "_law_strand" "_law_strand" (defArgs sSt) (defBody sSt) (defScope sSt) .none kVSt dcSt pmSt anSt cdSt ctSt), slSt⟩)
    (cSt : PySem.W.codeIn K cdSt "_law_strand" = true)
    (kSt : PySem.W.keepIn K (.ref fSt) = true)
    (aTp : PySem.W.nsIn K mainGlobals "_law_told_press" = some (some (.ref fTp)))
    (lTp : K.lookup fTp = some ⟨ocTp, odTp, .func (PySem.W.fnOf "_law_told_press" "_law_told_press" (defArgs sTp) (defBody sTp) (defScope sTp) .none kVTp dcTp pmTp anTp cdTp ctTp), slTp⟩)
    (cTp : PySem.W.codeIn K cdTp "_law_told_press" = true)
    (kTp : PySem.W.keepIn K (.ref fTp) = true)
    (aMs : PySem.W.nsIn K mainGlobals "_law_many_strands" = some (some (.ref fMs)))
    (lMs : K.lookup fMs = some ⟨ocMs, odMs, .func (PySem.W.fnOf "_law_many_strands" "_law_many_strands" (defArgs sMs) (defBody sMs) (defScope sMs) .none kVMs dcMs pmMs anMs cdMs ctMs), slMs⟩)
    (cMs : PySem.W.codeIn K cdMs "_law_many_strands" = true)
    (kMs : PySem.W.keepIn K (.ref fMs) = true)
    (aGr : PySem.W.nsIn K mainGlobals "_law_greater" = some (some (.ref fGr)))
    (lGr : K.lookup fGr = some ⟨ocGr, odGr, .func (PySem.W.fnOf "_law_greater" "_law_greater" (defArgs sGr) (defBody sGr) (defScope sGr) .none kVGr dcGr pmGr anGr cdGr ctGr), slGr⟩)
    (cGr : PySem.W.codeIn K cdGr "_law_greater" = true)
    (kGr : PySem.W.keepIn K (.ref fGr) = true)
    (aLv : PySem.W.nsIn K mainGlobals "_law_variant" = some (some (.ref fLv)))
    (lLv : K.lookup fLv = some ⟨ocLv, odLv, .func (PySem.W.fnOf "_law_variant" "_law_variant" (defArgs sLv) (defBody sLv) (defScope sLv) .none kVLv dcLv pmLv anLv cdLv ctLv), slLv⟩)
    (cLv : PySem.W.codeIn K cdLv "_law_variant" = true)
    (kLv : PySem.W.keepIn K (.ref fLv) = true)
    (aLp : PySem.W.nsIn K mainGlobals "_law_places" = some (some (.ref fLp)))
    (lLp : K.lookup fLp = some ⟨ocLp, odLp, .func (PySem.W.fnOf "_law_places" "_law_places" (defArgs sLp) (defBody sLp) (defScope sLp) .none kVLp dcLp pmLp anLp cdLp ctLp), slLp⟩)
    (cLp : PySem.W.codeIn K cdLp "_law_places" = true)
    (kLp : PySem.W.keepIn K (.ref fLp) = true)
    (aLs : PySem.W.nsIn K mainGlobals "_law_states" = some (some (.ref fLs)))
    (lLs : K.lookup fLs = some ⟨ocLs, odLs, .func (PySem.W.fnOf "_law_states" "_law_states" (defArgs sLs) (defBody sLs) (defScope sLs) .none kVLs dcLs pmLs anLs cdLs ctLs), slLs⟩)
    (cLs : PySem.W.codeIn K cdLs "_law_states" = true)
    (kLs : PySem.W.keepIn K (.ref fLs) = true)
    (aLd : PySem.W.nsIn K mainGlobals "_law_due" = some (some (.ref fLd)))
    (lLd : K.lookup fLd = some ⟨ocLd, odLd, .func (PySem.W.fnOf "_law_due" "_law_due" (defArgs sLd) (defBody sLd) (defScope sLd) .none kVLd dcLd pmLd anLd cdLd ctLd), slLd⟩)
    (cLd : PySem.W.codeIn K cdLd "_law_due" = true)
    (kLd : PySem.W.keepIn K (.ref fLd) = true)
    (aLn : PySem.W.nsIn K mainGlobals "_law_next" = some (some (.ref fLn)))
    (lLn : K.lookup fLn = some ⟨ocLn, odLn, .func (PySem.W.fnOf "_law_next" "_law_next" (defArgs sLn) (defBody sLn) (defScope sLn) .none kVLn dcLn pmLn anLn cdLn ctLn), slLn⟩)
    (cLn : PySem.W.codeIn K cdLn "_law_next" = true)
    (kLn : PySem.W.keepIn K (.ref fLn) = true)
    (aLb : PySem.W.nsIn K mainGlobals "_law_begins" = some (some (.ref fLb)))
    (lLb : K.lookup fLb = some ⟨ocLb, odLb, .func (PySem.W.fnOf "_law_begins" "_law_begins" (defArgs sLb) (defBody sLb) (defScope sLb) .none kVLb dcLb pmLb anLb cdLb ctLb), slLb⟩)
    (cLb : PySem.W.codeIn K cdLb "_law_begins" = true)
    (kLb : PySem.W.keepIn K (.ref fLb) = true)
    (aLf : PySem.W.nsIn K mainGlobals "_law_fillings" = some (some (.ref fLf)))
    (lLf : K.lookup fLf = some ⟨ocLf, odLf, .func (PySem.W.fnOf "_law_fillings" "_law_fillings" (defArgs sLf) (defBody sLf) (defScope sLf) .none kVLf dcLf pmLf anLf cdLf ctLf), slLf⟩)
    (cLf : PySem.W.codeIn K cdLf "_law_fillings" = true)
    (kLf : PySem.W.keepIn K (.ref fLf) = true)
    (aLu : PySem.W.nsIn K mainGlobals "_law_units" = some (some (.ref fLu)))
    (lLu : K.lookup fLu = some ⟨ocLu, odLu, .func (PySem.W.fnOf "_law_units" "_law_units" (defArgs sLu) (defBody sLu) (defScope sLu) .none kVLu dcLu pmLu anLu cdLu ctLu), slLu⟩)
    (cLu : PySem.W.codeIn K cdLu "_law_units" = true)
    (kLu : PySem.W.keepIn K (.ref fLu) = true)
    (aLx : PySem.W.nsIn K mainGlobals "_law_badness" = some (some (.ref fLx)))
    (lLx : K.lookup fLx = some ⟨ocLx, odLx, .func (PySem.W.fnOf "_law_badness" "_law_badness" (defArgs sLx) (defBody sLx) (defScope sLx) .none kVLx dcLx pmLx anLx cdLx ctLx), slLx⟩)
    (cLx : PySem.W.codeIn K cdLx "_law_badness" = true)
    (kLx : PySem.W.keepIn K (.ref fLx) = true)
    (aPr : PySem.W.nsIn K mainGlobals "_law_price" = some (some (.ref fPr)))
    (lPr : K.lookup fPr = some ⟨ocPr, odPr, .func (PySem.W.fnOf "_law_price" "_law_price" (defArgs sPr) (defBody sPr) (defScope sPr) .none kVPr dcPr pmPr anPr cdPr ctPr), slPr⟩)
    (cPr : PySem.W.codeIn K cdPr "_law_price" = true)
    (kPr : PySem.W.keepIn K (.ref fPr) = true)
    (aPa : PySem.W.nsIn K mainGlobals "_law_page" = some (some (.ref fPa)))
    (lPa : K.lookup fPa = some ⟨ocPa, odPa, .func (PySem.W.fnOf "_law_page" "_law_page" (defArgs sPa) (defBody sPa) (defScope sPa) .none kVPa dcPa pmPa anPa cdPa ctPa), slPa⟩)
    (cPa : PySem.W.codeIn K cdPa "_law_page" = true)
    (kPa : PySem.W.keepIn K (.ref fPa) = true)
    (aLst : PySem.W.nsIn K mainGlobals "_law_steps" = some (some (.ref fLst)))
    (lLst : K.lookup fLst = some ⟨ocLst, odLst, .func (PySem.W.fnOf "_law_steps" "_law_steps" (defArgs sLst) (defBody sLst) (defScope sLst) .none kVLst dcLst pmLst anLst cdLst ctLst), slLst⟩)
    (cLst : PySem.W.codeIn K cdLst "_law_steps" = true)
    (kLst : PySem.W.keepIn K (.ref fLst) = true)
    (aLr : PySem.W.nsIn K mainGlobals "_law_rank" = some (some (.ref fLr)))
    (lLr : K.lookup fLr = some ⟨ocLr, odLr, .func (PySem.W.fnOf "_law_rank" "_law_rank" (defArgs sLr) (defBody sLr) (defScope sLr) .none kVLr dcLr pmLr anLr cdLr ctLr), slLr⟩)
    (cLr : PySem.W.codeIn K cdLr "_law_rank" = true)
    (kLr : PySem.W.keepIn K (.ref fLr) = true)
    (aLq : PySem.W.nsIn K mainGlobals "_law_pair" = some (some (.ref fLq)))
    (lLq : K.lookup fLq = some ⟨ocLq, odLq, .func (PySem.W.fnOf "_law_pair" "_law_pair" (defArgs sLq) (defBody sLq) (defScope sLq) .none kVLq dcLq pmLq anLq cdLq ctLq), slLq⟩)
    (cLq : PySem.W.codeIn K cdLq "_law_pair" = true)
    (kLq : PySem.W.keepIn K (.ref fLq) = true)
    (aLt : PySem.W.nsIn K mainGlobals "_law_state_told" = some (some (.ref fLt)))
    (lLt : K.lookup fLt = some ⟨ocLt, odLt, .func (PySem.W.fnOf "_law_state_told" "_law_state_told" (defArgs sLt) (defBody sLt) (defScope sLt) .none kVLt dcLt pmLt anLt cdLt ctLt), slLt⟩)
    (cLt : PySem.W.codeIn K cdLt "_law_state_told" = true)
    (kLt : PySem.W.keepIn K (.ref fLt) = true)
    (aMd : PySem.W.nsIn K mainGlobals "_law_made" = some (some (.ref fMd)))
    (lMd : K.lookup fMd = some ⟨ocMd, odMd, .func (PySem.W.fnOf "_law_made" "_law_made" (defArgs sMd) (defBody sMd) (defScope sMd) .none kVMd dcMd pmMd anMd cdMd ctMd), slMd⟩)
    (cMd : PySem.W.codeIn K cdMd "_law_made" = true)
    (kMd : PySem.W.keepIn K (.ref fMd) = true)
    (aLdf : PySem.W.nsIn K mainGlobals "_law_default" = some (some (.ref fLdf)))
    (lLdf : K.lookup fLdf = some ⟨ocLdf, odLdf, .func (PySem.W.fnOf "_law_default" "_law_default" (defArgs sLdf) (defBody sLdf) (defScope sLdf) .none kVLdf dcLdf pmLdf anLdf cdLdf ctLdf), slLdf⟩)
    (cLdf : PySem.W.codeIn K cdLdf "_law_default" = true)
    (kLdf : PySem.W.keepIn K (.ref fLdf) = true)
    (aLw : PySem.W.nsIn K mainGlobals "law" = some (some (.ref fLw)))
    (lLw : K.lookup fLw = some ⟨ocLw, odLw, .func (PySem.W.fnOf "law" "law" (defArgs sLw) (defBody sLw) (defScope sLw) .none kVLw dcLw pmLw anLw cdLw ctLw), slLw⟩)
    (cLw : PySem.W.codeIn K cdLw "law" = true)
    (kLw : PySem.W.keepIn K (.ref fLw) = true)
    (pgGlue : PySem.W.plainGet K cGlue Str.empty = true)
    (hdGlue : PySem.W.hasDictIn K cGlue = true)
    (poGlue : PySem.W.plainOver K cGlue = true)
    (saGlue : PySem.W.findIn K (.ref cGlue) "__setattr__" = some (some (.builtin "object.__setattr__")))
    (mkGlue : PySem.W.makesIn K cGlue = true)
    (kcGlue : PySem.W.keepIn K (.ref cGlue) = true)
    (nGluenatural : PySem.W.findIn K (.ref cGlue) "natural" = some none)
    (nGluestretch : PySem.W.findIn K (.ref cGlue) "stretch" = some none)
    (nGlueshrink : PySem.W.findIn K (.ref cGlue) "shrink" = some none)
    (pgPressTask : PySem.W.plainGet K cPressTask Str.empty = true)
    (hdPressTask : PySem.W.hasDictIn K cPressTask = true)
    (poPressTask : PySem.W.plainOver K cPressTask = true)
    (saPressTask : PySem.W.findIn K (.ref cPressTask) "__setattr__" = some (some (.builtin "object.__setattr__")))
    (mkPressTask : PySem.W.makesIn K cPressTask = true)
    (kcPressTask : PySem.W.keepIn K (.ref cPressTask) = true)
    (nPressTaskstrands : PySem.W.findIn K (.ref cPressTask) "strands" = some none)
    (nPressTaskfloats : PySem.W.findIn K (.ref cPressTask) "floats" = some none)
    (nPressTasklines : PySem.W.findIn K (.ref cPressTask) "lines" = some none)
    (nPressTaskheight : PySem.W.findIn K (.ref cPressTask) "height" = some none)
    (nPressTaskfloats_a_page : PySem.W.findIn K (.ref cPressTask) "floats_a_page" = some none)
    (nPressTaskrule : PySem.W.findIn K (.ref cPressTask) "rule" = some none)
    (nPressTaskfloat_gap : PySem.W.findIn K (.ref cPressTask) "float_gap" = some none)
    (nPressTask_opened : PySem.W.findIn K (.ref cPressTask) "_opened" = some none)
    (nPressTask_lines_ahead : PySem.W.findIn K (.ref cPressTask) "_lines_ahead" = some none)
    (nPressTask_most_ahead : PySem.W.findIn K (.ref cPressTask) "_most_ahead" = some none)
    (CTask : PySem.W.nsIn K mainGlobals "Task" = some (some (.ref cTask)))
    (conMUST : PySem.W.nsIn K mainGlobals "MUST" = some (some (.int (-1) tcMUST)))
    (conNO_UNIT_SET : PySem.W.nsIn K mainGlobals "NO_UNIT_SET" = some (some (.int (4000) tcNO_UNIT_SET)))
    (con_FLOAT_WAITS : PySem.W.nsIn K mainGlobals "_FLOAT_WAITS" = some (some (.int (5000) tc_FLOAT_WAITS)))
    (con_NOTES_WAIT : PySem.W.nsIn K mainGlobals "_NOTES_WAIT" = some (some (.int (2000) tc_NOTES_WAIT)))
    (con_LINE_WAITS : PySem.W.nsIn K mainGlobals "_LINE_WAITS" = some (some (.int (100) tc_LINE_WAITS)))
    (con_FIRST_LINE_WAITS : PySem.W.nsIn K mainGlobals "_FIRST_LINE_WAITS" = some (some (.int (1000000000) tc_FIRST_LINE_WAITS)))
    (conMOST_BADNESS : PySem.W.nsIn K mainGlobals "MOST_BADNESS" = some (some (.int (10000) tcMOST_BADNESS)))
    (kwdfloats_a_page : PySem.W.nsIn K kDPI "floats_a_page" = some (some (.int 1 tkfloats_a_page)))
    (kwdrule : PySem.W.nsIn K kDPI "rule" = some (some (.int 1 tkrule)))
    (kwdfloat_gap : PySem.W.nsIn K kDPI "float_gap" = some (some (.int 1 tkfloat_gap)))
    (prA : PySem.W.findIn K (.ref cGlue) "least" = some (some (.ref pGL)))
    (prG : PySem.W.specialIn K (.ref pGL) "__get__" = some (some (.builtin "property.__get__")))
    (prT : PySem.W.takesIn K (.ref pGL) = some true)
    (prR : PySem.W.recIn K pGL "property" = some (.ref fGL :: restGL))
    (lGL : K.lookup fGL = some ⟨ocGL, odGL, .func (PySem.W.fnOf "least" "Glue.least" (defArgs sGL) (defBody sGL) (defScope sGL) .none kVGL dcGL pmGL anGL cdGL ctGL), slGL⟩)
    (cGL : PySem.W.codeIn K cdGL "Glue.least" = true)
    (kGL : PySem.W.keepIn K (.ref fGL) = true)
    (sfG : PySem.W.selfFirst K cGlue = true)
    (isA : PySem.W.findIn K (.ref cPressTask) "__class__" = some (some (.builtin "object.__class__")))
    (isN : PySem.W.specialIn K (.builtin "object.__class__") "__get__" = some (some (.builtin "getset_descriptor.__get__")))
    (isT : PySem.W.takesIn K (.builtin "object.__class__") = some true)
    (isM : PySem.W.mroIn K cPressTask (.type "object") = some true)
    (isD : PySem.W.hasDictIn K cTask = true)
    (isY : PySem.W.typeIn K (.ref cTask) = some (.type "type"))
    (isS : PySem.W.subIn K (.ref cPressTask) (.ref cTask) = some true)
    (zlen : PySem.W.nsIn K mainGlobals "len" = some none)
    (zabs : PySem.W.nsIn K mainGlobals "abs" = some none)
    (zint : PySem.W.nsIn K mainGlobals "int" = some none)
    (zlist : PySem.W.nsIn K mainGlobals "list" = some none)
    (ztuple : PySem.W.nsIn K mainGlobals "tuple" = some none)
    (zrange : PySem.W.nsIn K mainGlobals "range" = some none)
    (zsorted : PySem.W.nsIn K mainGlobals "sorted" = some none)
    (zisinstance : PySem.W.nsIn K mainGlobals "isinstance" = some none)
    (zmin : PySem.W.nsIn K mainGlobals "min" = some none)
    (zmax : PySem.W.nsIn K mainGlobals "max" = some none)
    (zenumerate : PySem.W.nsIn K mainGlobals "enumerate" = some none)
    (zzip : PySem.W.nsIn K mainGlobals "zip" = some none)
    (zsum : PySem.W.nsIn K mainGlobals "sum" = some none)
    (zall : PySem.W.nsIn K mainGlobals "all" = some none)
    (zstr : PySem.W.nsIn K mainGlobals "str" = some none)
    (zbool : PySem.W.nsIn K mainGlobals "bool" = some none)
    : ∃ fd : FuncData, (∀ (s : Shared) (v : Value), BindsTo s fd ⟨[v], []⟩ [("script", v)]) ∧ ∀ base : Heap, K.In base → base.Ns mainGlobals mg → FnOk l.prog w K mg base CX0 12 fa fd ["script"] (spLaw K) := by
  have e := hfa.symm.trans (PySem.W.mg_of X G aLw)
  cases e
  have T : Bi mg := ⟨PySem.W.mg_none_of X G zlen, PySem.W.mg_none_of X G zabs, PySem.W.mg_none_of X G zint, PySem.W.mg_none_of X G zlist, PySem.W.mg_none_of X G ztuple, PySem.W.mg_none_of X G zrange, PySem.W.mg_none_of X G zsorted, PySem.W.mg_none_of X G zisinstance, PySem.W.mg_none_of X G zmin, PySem.W.mg_none_of X G zmax, PySem.W.mg_none_of X G zenumerate, PySem.W.mg_none_of X G zzip, PySem.W.mg_none_of X G zsum, PySem.W.mg_none_of X G zall, PySem.W.mg_none_of X G zstr, PySem.W.mg_none_of X G zbool⟩
  have clGlue : Cls K cGlue := ⟨pgGlue, hdGlue, poGlue, saGlue⟩
  have mGlue := PySem.W.mg_of X G CGlue
  have clPressTask : Cls K cPressTask := ⟨pgPressTask, hdPressTask, poPressTask, saPressTask⟩
  have mPressTask := PySem.W.mg_of X G CPressTask
  have FDr := fun_mk (st := sDr) lDr cDr kDr
  have bDr := FDr.binds (ps := ["pool", "many"]) fun _ _ _ _ _ _ us hl => match us, hl with | [_, _], _ => rfl
  have mDr := PySem.W.mg_of X G aDr
  have FPo := fun_mk (st := sPo) lPo cPo kPo
  have bPo := FPo.binds (ps := ["script"]) fun _ _ _ _ _ _ us hl => match us, hl with | [_], _ => rfl
  have mPo := PySem.W.mg_of X G aPo
  have FPi := fun_mk (st := sPi) lPi cPi kPi
  have bPi := FPi.binds (ps := ["pool", "row"]) fun _ _ _ _ _ _ us hl => match us, hl with | [_, _], _ => rfl
  have mPi := PySem.W.mg_of X G aPi
  have FRa := fun_mk (st := sRa) lRa cRa kRa
  have bRa := FRa.binds (ps := ["pool", "many"]) fun _ _ _ _ _ _ us hl => match us, hl with | [_, _], _ => rfl
  have mRa := PySem.W.mg_of X G aRa
  have FFe := fun_mk (st := sFe) lFe cFe kFe
  have bFe := FFe.binds (ps := ["pool", "usual", "most"]) fun _ _ _ _ _ _ us hl => match us, hl with | [_, _, _], _ => rfl
  have mFe := PySem.W.mg_of X G aFe
  have FSa := fun_mk (st := sSa) lSa cSa kSa
  have bSa := FSa.binds (ps := ["got", "due"]) fun _ _ _ _ _ _ us hl => match us, hl with | [_, _], _ => rfl
  have mSa := PySem.W.mg_of X G aSa
  have FGI := fun_mk (st := sGI) lGI cGI kGI
  have bGI := FGI.binds (ps := ["self", "natural", "stretch", "shrink"]) fun _ _ _ _ _ _ us hl => match us, hl with | [_, _, _, _], _ => rfl
  have MGI : Mk K cGlue fGI := ⟨mkGlue, aGI, iGI, kcGlue⟩
  have FGA := fun_mk (st := sGA) lGA cGA kGA
  have bGA := FGA.binds (ps := ["self", "other"]) fun _ _ _ _ _ _ us hl => match us, hl with | [_, _], _ => rfl
  have eGA : Meth K cGlue "__add__" fGA := ⟨aGA, iGA, kGA⟩
  have FGP := fun_mk (st := sGP) lGP cGP kGP
  have bGP := FGP.binds (ps := ["self"]) fun _ _ _ _ _ _ us hl => match us, hl with | [_], _ => rfl
  have eGP : Meth K cGlue "plain" fGP := ⟨aGP, iGP, kGP⟩
  have FBn := fun_mk (st := sBn) lBn cBn kBn
  have bBn := FBn.binds (ps := ["slack", "room"]) fun _ _ _ _ _ _ us hl => match us, hl with | [_, _], _ => rfl
  have mBn := PySem.W.mg_of X G aBn
  have FFc := fun_mk (st := sFc) lFc cFc kFc
  have bFc := FFc.binds (ps := ["height", "glue", "loose"]) fun _ _ _ _ _ _ us hl => match us, hl with | [_, _, _], _ => rfl
  have mFc := PySem.W.mg_of X G aFc
  have FWt := fun_mk (st := sWt) lWt cWt kWt
  have bWt := FWt.binds (ps := ["floats", "lines", "notes"]) fun _ _ _ _ _ _ us hl => match us, hl with | [_, _, _], _ => rfl
  have mWt := PySem.W.mg_of X G aWt
  have FRc := fun_mk (st := sRc) lRc cRc kRc
  have bRc := FRc.binds (ps := ["flags"]) fun _ _ _ _ _ _ us hl => match us, hl with | [_], _ => rfl
  have mRc := PySem.W.mg_of X G aRc
  have FPF := fun_mk (st := sPF) lPF cPF kPF
  have bPF := FPF.binds (ps := ["self"]) fun _ _ _ _ _ _ us hl => match us, hl with | [_], _ => rfl
  have ePF : Meth K cPressTask "first" fPF := ⟨aPF, iPF, kPF⟩
  have FPE := fun_mk (st := sPE) lPE cPE kPE
  have bPE := FPE.binds (ps := ["self", "state"]) fun _ _ _ _ _ _ us hl => match us, hl with | [_, _], _ => rfl
  have ePE : Meth K cPressTask "is_end" fPE := ⟨aPE, iPE, kPE⟩
  have FPR := fun_mk (st := sPR) lPR cPR kPR
  have bPR := FPR.binds (ps := ["self", "state"]) fun _ _ _ _ _ _ us hl => match us, hl with | [_, _], _ => rfl
  have ePR : Meth K cPressTask "rank" fPR := ⟨aPR, iPR, kPR⟩
  have FVa := fun_mk (st := sVa) lVa cVa kVa
  have bVa := FVa.binds (ps := ["self", "k", "m"]) fun _ _ _ _ _ _ us hl => match us, hl with | [_, _, _], _ => rfl
  have eVa : Meth K cPressTask "_variant" fVa := ⟨aVa, iVa, kVa⟩
  have FDf := fun_mk (st := sDf) lDf cDf kDf
  have bDf := FDf.binds (ps := ["self", "place"]) fun _ _ _ _ _ _ us hl => match us, hl with | [_, _], _ => rfl
  have eDf : Meth K cPressTask "_due_floats" fDf := ⟨aDf, iDf, kDf⟩
  have FDl := fun_mk (st := sDl) lDl cDl kDl
  have bDl := FDl.binds (ps := ["self", "place"]) fun _ _ _ _ _ _ us hl => match us, hl with | [_, _], _ => rfl
  have eDl : Meth K cPressTask "_due_lines" fDl := ⟨aDl, iDl, kDl⟩
  have FNc := fun_mk (st := sNc) lNc cNc kNc
  have bNc := FNc.binds (ps := ["self", "state"]) fun _ _ _ _ _ _ us hl => match us, hl with | [_, _], _ => rfl
  have eNc : Meth K cPressTask "_next_cost" fNc := ⟨aNc, iNc, kNc⟩
  have FLo := fun_mk (st := sLo) lLo cLo kLo
  have bLo := FLo.binds (ps := ["self", "state"]) fun _ _ _ _ _ _ us hl => match us, hl with | [_, _], _ => rfl
  have eLo : Meth K cPressTask "_loose" fLo := ⟨aLo, iLo, kLo⟩
  have FWu := fun_mk (st := sWu) lWu cWu kWu
  have bWu := FWu.binds (ps := ["self", "fills", "unit"]) fun _ _ _ _ _ _ us hl => match us, hl with | [_, _, _], _ => rfl
  have eWu : Meth K cPressTask "_with_unit" fWu := ⟨aWu, iWu, kWu⟩
  have FTh := fun_mk (st := sTh) lTh cTh kTh
  have bTh := FTh.binds (ps := ["self", "spots", "k", "units", "start", "fills"]) fun _ _ _ _ _ _ us hl => match us, hl with | [_, _, _, _, _, _], _ => rfl
  have eTh : Meth K cPressTask "_through" fTh := ⟨aTh, iTh, kTh⟩
  have FLe := fun_mk (st := sLe) lLe cLe kLe
  have bLe := FLe.binds (ps := ["fills"]) fun _ _ _ _ _ _ us hl => match us, hl with | [_], _ => rfl
  have mLe := PySem.W.mg_of X G aLe
  have FOg := fun_mk (st := sOg) lOg cOg kOg
  have bOg := FOg.binds (ps := ["self", "a", "b"]) fun _ _ _ _ _ _ us hl => match us, hl with | [_, _, _], _ => rfl
  have eOg : Meth K cPressTask "_other_glue" fOg := ⟨aOg, iOg, kOg⟩
  have FEc := fun_mk (st := sEc) lEc cEc kEc
  have bEc := FEc.binds (ps := ["self", "a", "b"]) fun _ _ _ _ _ _ us hl => match us, hl with | [_, _, _], _ => rfl
  have eEc : Meth K cPressTask "_end_cost" fEc := ⟨aEc, iEc, kEc⟩
  have FBe := fun_mk (st := sBe) lBe cBe kBe
  have bBe := FBe.binds (ps := ["self", "a", "b", "fills"]) fun _ _ _ _ _ _ us hl => match us, hl with | [_, _, _, _], _ => rfl
  have eBe : Meth K cPressTask "_best" fBe := ⟨aBe, iBe, kBe⟩
  have FSp := fun_mk (st := sSp) lSp cSp kSp
  have bSp := FSp.binds (ps := ["self", "state"]) fun _ _ _ _ _ _ us hl => match us, hl with | [_, _], _ => rfl
  have eSp : Meth K cPressTask "_spots" fSp := ⟨aSp, iSp, kSp⟩
  have FPg := fun_mk (st := sPg) lPg cPg kPg
  have bPg := FPg.binds (ps := ["self", "state"]) fun _ _ _ _ _ _ us hl => match us, hl with | [_, _], _ => rfl
  have ePg : Meth K cPressTask "_pages" fPg := ⟨aPg, iPg, kPg⟩
  have FSn := fun_mk (st := sSn) lSn cSn kSn
  have bSn := FSn.binds (ps := ["self", "state"]) fun _ _ _ _ _ _ us hl => match us, hl with | [_, _], _ => rfl
  have eSn : Meth K cPressTask "steps" fSn := ⟨aSn, iSn, kSn⟩
  have FPc := fun_mk (st := sPc) lPc cPc kPc
  have bPc := FPc.binds (ps := ["self", "a", "b"]) fun _ _ _ _ _ _ us hl => match us, hl with | [_, _, _], _ => rfl
  have ePc : Meth K cPressTask "page_cost" fPc := ⟨aPc, iPc, kPc⟩
  have FFl := fun_mk (st := sFl) lFl cFl kFl
  have bFl := FFl.binds (ps := ["self", "a", "b"]) fun _ _ _ _ _ _ us hl => match us, hl with | [_, _, _], _ => rfl
  have eFl : Meth K cPressTask "filling" fFl := ⟨aFl, iFl, kFl⟩
  have FPI := fun_mk (st := sPI) lPI cPI kPI
  have MPI : Mk K cPressTask fPI := ⟨mkPressTask, aPI, iPI, kcPressTask⟩
  have FCu := fun_mk (st := sCu) lCu cCu kCu
  have bCu := FCu.binds (ps := ["pool", "many", "parts"]) fun _ _ _ _ _ _ us hl => match us, hl with | [_, _, _], _ => rfl
  have mCu := PySem.W.mg_of X G aCu
  have FSt := fun_mk (st := sSt) lSt cSt kSt
  have bSt := FSt.binds (ps := ["pool", "tall", "many", "alike"]) fun _ _ _ _ _ _ us hl => match us, hl with | [_, _, _, _], _ => rfl
  have mSt := PySem.W.mg_of X G aSt
  have FTp := fun_mk (st := sTp) lTp cTp kTp
  have bTp := FTp.binds (ps := ["pool", "usual", "most"]) fun _ _ _ _ _ _ us hl => match us, hl with | [_, _, _], _ => rfl
  have mTp := PySem.W.mg_of X G aTp
  have FMs := fun_mk (st := sMs) lMs cMs kMs
  have bMs := FMs.binds (ps := ["pool"]) fun _ _ _ _ _ _ us hl => match us, hl with | [_], _ => rfl
  have mMs := PySem.W.mg_of X G aMs
  have FGr := fun_mk (st := sGr) lGr cGr kGr
  have bGr := FGr.binds (ps := ["told", "by"]) fun _ _ _ _ _ _ us hl => match us, hl with | [_, _], _ => rfl
  have mGr := PySem.W.mg_of X G aGr
  have FLv := fun_mk (st := sLv) lLv cLv kLv
  have bLv := FLv.binds (ps := ["told", "k", "m"]) fun _ _ _ _ _ _ us hl => match us, hl with | [_, _, _], _ => rfl
  have mLv := PySem.W.mg_of X G aLv
  have FLp := fun_mk (st := sLp) lLp cLp kLp
  have bLp := FLp.binds (ps := ["told"]) fun _ _ _ _ _ _ us hl => match us, hl with | [_], _ => rfl
  have mLp := PySem.W.mg_of X G aLp
  have FLs := fun_mk (st := sLs) lLs cLs kLs
  have bLs := FLs.binds (ps := ["told"]) fun _ _ _ _ _ _ us hl => match us, hl with | [_], _ => rfl
  have mLs := PySem.W.mg_of X G aLs
  have FLd := fun_mk (st := sLd) lLd cLd kLd
  have bLd := FLd.binds (ps := ["told", "state"]) fun _ _ _ _ _ _ us hl => match us, hl with | [_, _], _ => rfl
  have mLd := PySem.W.mg_of X G aLd
  have FLn := fun_mk (st := sLn) lLn cLn kLn
  have bLn := FLn.binds (ps := ["told", "state"]) fun _ _ _ _ _ _ us hl => match us, hl with | [_, _], _ => rfl
  have mLn := PySem.W.mg_of X G aLn
  have FLb := fun_mk (st := sLb) lLb cLb kLb
  have bLb := FLb.binds (ps := ["a", "b"]) fun _ _ _ _ _ _ us hl => match us, hl with | [_, _], _ => rfl
  have mLb := PySem.W.mg_of X G aLb
  have FLf := fun_mk (st := sLf) lLf cLf kLf
  have bLf := FLf.binds (ps := ["told", "b", "begins"]) fun _ _ _ _ _ _ us hl => match us, hl with | [_, _, _], _ => rfl
  have mLf := PySem.W.mg_of X G aLf
  have FLu := fun_mk (st := sLu) lLu cLu kLu
  have bLu := FLu.binds (ps := ["told", "a", "b", "begins", "filling"]) fun _ _ _ _ _ _ us hl => match us, hl with | [_, _, _, _, _], _ => rfl
  have mLu := PySem.W.mg_of X G aLu
  have FLx := fun_mk (st := sLx) lLx cLx kLx
  have bLx := FLx.binds (ps := ["slack", "room"]) fun _ _ _ _ _ _ us hl => match us, hl with | [_, _], _ => rfl
  have mLx := PySem.W.mg_of X G aLx
  have FPr := fun_mk (st := sPr) lPr cPr kPr
  have bPr := FPr.binds (ps := ["told", "a", "b", "units"]) fun _ _ _ _ _ _ us hl => match us, hl with | [_, _, _, _], _ => rfl
  have mPr := PySem.W.mg_of X G aPr
  have FPa := fun_mk (st := sPa) lPa cPa kPa
  have bPa := FPa.binds (ps := ["told", "a", "b"]) fun _ _ _ _ _ _ us hl => match us, hl with | [_, _, _], _ => rfl
  have mPa := PySem.W.mg_of X G aPa
  have FLst := fun_mk (st := sLst) lLst cLst kLst
  have bLst := FLst.binds (ps := ["told", "states", "a"]) fun _ _ _ _ _ _ us hl => match us, hl with | [_, _, _], _ => rfl
  have mLst := PySem.W.mg_of X G aLst
  have FLr := fun_mk (st := sLr) lLr cLr kLr
  have bLr := FLr.binds (ps := ["told", "state"]) fun _ _ _ _ _ _ us hl => match us, hl with | [_, _], _ => rfl
  have mLr := PySem.W.mg_of X G aLr
  have FLq := fun_mk (st := sLq) lLq cLq kLq
  have bLq := FLq.binds (ps := ["task", "told", "a", "b"]) fun _ _ _ _ _ _ us hl => match us, hl with | [_, _, _, _], _ => rfl
  have mLq := PySem.W.mg_of X G aLq
  have FLt := fun_mk (st := sLt) lLt cLt kLt
  have bLt := FLt.binds (ps := ["task", "told", "states", "a"]) fun _ _ _ _ _ _ us hl => match us, hl with | [_, _, _, _], _ => rfl
  have mLt := PySem.W.mg_of X G aLt
  have FMd := fun_mk (st := sMd) lMd cMd kMd
  have bMd := FMd.binds (ps := ["told"]) fun _ _ _ _ _ _ us hl => match us, hl with | [_], _ => rfl
  have mMd := PySem.W.mg_of X G aMd
  have FLdf := fun_mk (st := sLdf) lLdf cLdf kLdf
  have bLdf := FLdf.binds (ps := ["told"]) fun _ _ _ _ _ _ us hl => match us, hl with | [_], _ => rfl
  have mLdf := PySem.W.mg_of X G aLdf
  have L : PCls K cPressTask := ⟨clPressTask, nPressTaskstrands, nPressTaskfloats, nPressTasklines, nPressTaskheight, nPressTaskfloats_a_page, nPressTaskrule, nPressTaskfloat_gap, nPressTask_opened, nPressTask_lines_ahead, nPressTask_most_ahead⟩
  have LG : GCls K cGlue := ⟨clGlue, nGluenatural, nGluestretch, nGlueshrink⟩
  have FGL := fun_mk (st := sGL) lGL cGL kGL
  have bGL := FGL.binds (ps := ["self"]) fun _ _ _ _ _ _ us hl => match us, hl with | [_], _ => rfl
  have IP : PIs K cPressTask cTask := ⟨isA, isN, isT, isM, kit_sub isD isY isS⟩
  have mTask := PySem.W.mg_of X G CTask
  have xMUST : ∃ t, mg "MUST" = some (.int (-1) t) := ⟨_, PySem.W.mg_of X G conMUST⟩
  have xNO_UNIT_SET : ∃ t, mg "NO_UNIT_SET" = some (.int (4000) t) := ⟨_, PySem.W.mg_of X G conNO_UNIT_SET⟩
  have x_FLOAT_WAITS : ∃ t, mg "_FLOAT_WAITS" = some (.int (5000) t) := ⟨_, PySem.W.mg_of X G con_FLOAT_WAITS⟩
  have x_NOTES_WAIT : ∃ t, mg "_NOTES_WAIT" = some (.int (2000) t) := ⟨_, PySem.W.mg_of X G con_NOTES_WAIT⟩
  have x_LINE_WAITS : ∃ t, mg "_LINE_WAITS" = some (.int (100) t) := ⟨_, PySem.W.mg_of X G con_LINE_WAITS⟩
  have x_FIRST_LINE_WAITS : ∃ t, mg "_FIRST_LINE_WAITS" = some (.int (1000000000) t) := ⟨_, PySem.W.mg_of X G con_FIRST_LINE_WAITS⟩
  have xMOST_BADNESS : ∃ t, mg "MOST_BADNESS" = some (.int (10000) t) := ⟨_, PySem.W.mg_of X G conMOST_BADNESS⟩
  have FD : FunD K "__init__" "PressTask.__init__" (defArgs sPI) (defBody sPI) (defScope sPI) [] kwPI fPI _ := ⟨⟨_, _, .none, .ref kDPI, _, _, _, _, _, _, rfl, lPI, cPI, .inl ⟨rfl, rfl⟩, .inr ⟨kDPI, rfl, fun q hq => by
    rcases List.mem_cons.mp hq with rfl | hq
    · exact ⟨_, kwdfloats_a_page, _, rfl⟩
    · rcases List.mem_cons.mp hq with rfl | hq
      · exact ⟨_, kwdrule, _, rfl⟩
      · rw [List.mem_singleton.mp hq]
        exact ⟨_, kwdfloat_gap, _, rfl⟩⟩⟩, kPI⟩
  have bKP := kb_full FD
  obtain ⟨mvD, bKD⟩ := kb_def FD
  refine ⟨PySem.W.fnOf "law" "law" (defArgs sLw) (defBody sLw) (defScope sLw) .none kVLw dcLw pmLw anLw cdLw ctLw, fun s v => .of_eq rfl, fun base _ _ => ?_⟩
  have GDr : FnOk l.prog w K mg base CX0 1 fDr _ ["pool", "many"] (spDraw) := ok_Dr FDr T
  have CDr : Cal l.prog w K mg base "_law_draw" 1 fDr _ ["pool", "many"] (spDraw) := ⟨GDr, mDr, kDr, bDr⟩
  have GPo : FnOk l.prog w K mg base CX0 1 fPo _ ["script"] (spPool K) := ok_Po FPo T
  have CPo : Cal l.prog w K mg base "_law_pool" 1 fPo _ ["script"] (spPool K) := ⟨GPo, mPo, kPo, bPo⟩
  have GPi : FnOk l.prog w K mg base CX0 2 fPi _ ["pool", "row"] (spPick) := ok_Pi FPi T CDr
  have CPi : Cal l.prog w K mg base "_law_pick" 2 fPi _ ["pool", "row"] (spPick) := ⟨GPi, mPi, kPi, bPi⟩
  have GRa : FnOk l.prog w K mg base CX0 2 fRa _ ["pool", "many"] (spRare) := ok_Ra FRa T CDr
  have CRa : Cal l.prog w K mg base "_law_rare" 2 fRa _ ["pool", "many"] (spRare) := ⟨GRa, mRa, kRa, bRa⟩
  have GFe : FnOk l.prog w K mg base CX0 3 fFe _ ["pool", "usual", "most"] (spFew) := ok_Fe FFe T CDr CRa
  have CFe : Cal l.prog w K mg base "_law_few" 3 fFe _ ["pool", "usual", "most"] (spFew) := ⟨GFe, mFe, kFe, bFe⟩
  have GSa : FnOk l.prog w K mg base CX0 9 fSa _ ["got", "due"] (spSame 9) := ok_Sa FSa T mSa bSa 9
  have CSa : Cal l.prog w K mg base "_law_same" 9 fSa _ ["got", "due"] (spSame 9) := ⟨GSa, mSa, kSa, bSa⟩
  have GGI : FnOk l.prog w K mg base CX0 1 fGI _ ["self", "natural", "stretch", "shrink"] (spGInit cGlue) := ok_GI FGI LG
  have GGA : FnOk l.prog w K mg base CX0 3 fGA _ ["self", "other"] (spGAdd cGlue) := ok_GA FGA LG MGI GGI mGlue bGI
  have CGA : Met l.prog w K mg base cGlue "__add__" 3 fGA _ ["self", "other"] (spGAdd cGlue) := ⟨GGA, clGlue, eGA, bGA⟩
  have ADG : Adp l.prog w K mg base cGlue 3 fGA (spGAdd cGlue) := ⟨⟨sfG, aGA, iGA⟩, by
    have z := GGA.raw bGA .nil
    have e : (fun vs H Q E => spGAdd cGlue (vs ++ []) H Q E) = spGAdd cGlue := by
      funext vs H Q E
      rw [List.append_nil]
    rw [e] at z
    exact z⟩
  have PRG : Prp l.prog w K mg base cGlue "least" 1 pGL fGL _ (spGLeast cGlue) := ⟨ok_GL FGL LG, clGlue, ⟨prA, prG, prT, _, prR⟩, bGL⟩
  have GGP : FnOk l.prog w K mg base CX0 1 fGP _ ["self"] (spGPlain cGlue) := ok_GP FGP LG
  have CGP : Met l.prog w K mg base cGlue "plain" 1 fGP _ ["self"] (spGPlain cGlue) := ⟨GGP, clGlue, eGP, bGP⟩
  have GBn : FnOk l.prog w K mg base CX0 1 fBn _ ["slack", "room"] (spBadn) := ok_Bn FBn T xMOST_BADNESS
  have CBn : Cal l.prog w K mg base "badness" 1 fBn _ ["slack", "room"] (spBadn) := ⟨GBn, mBn, kBn, bBn⟩
  have GFc : FnOk l.prog w K mg base CX0 2 fFc _ ["height", "glue", "loose"] (spFill cGlue) := ok_Fc FFc LG CBn
  have CFc : Cal l.prog w K mg base "fill_cost" 2 fFc _ ["height", "glue", "loose"] (spFill cGlue) := ⟨GFc, mFc, kFc, bFc⟩
  have GWt : FnOk l.prog w K mg base CX0 1 fWt _ ["floats", "lines", "notes"] (spWait) := ok_Wt FWt x_FLOAT_WAITS x_NOTES_WAIT x_LINE_WAITS x_FIRST_LINE_WAITS
  have CWt : Cal l.prog w K mg base "wait_cost" 1 fWt _ ["floats", "lines", "notes"] (spWait) := ⟨GWt, mWt, kWt, bWt⟩
  have GRc : FnOk l.prog w K mg base CX0 1 fRc _ ["flags"] (spCounts) := ok_Rc FRc
  have CRc : Cal l.prog w K mg base "running_counts" 1 fRc _ ["flags"] (spCounts) := ⟨GRc, mRc, kRc, bRc⟩
  have GPF : FnOk l.prog w K mg base CX0 1 fPF _ ["self"] (spPFirst) := ok_PF FPF
  have CPF : Met l.prog w K mg base cPressTask "first" 1 fPF _ ["self"] (spPFirst) := ⟨GPF, clPressTask, ePF, bPF⟩
  have GPE : FnOk l.prog w K mg base CX0 1 fPE _ ["self", "state"] (spPEnd cPressTask) := ok_PE FPE T L
  have CPE : Met l.prog w K mg base cPressTask "is_end" 1 fPE _ ["self", "state"] (spPEnd cPressTask) := ⟨GPE, clPressTask, ePE, bPE⟩
  have GPR : FnOk l.prog w K mg base CX0 1 fPR _ ["self", "state"] (spPRank cPressTask) := ok_PR FPR L
  have CPR : Met l.prog w K mg base cPressTask "rank" 1 fPR _ ["self", "state"] (spPRank cPressTask) := ⟨GPR, clPressTask, ePR, bPR⟩
  have GVa : FnOk l.prog w K mg base CX0 1 fVa _ ["self", "k", "m"] (spVar cPressTask) := ok_Va FVa T L
  have CVa : Met l.prog w K mg base cPressTask "_variant" 1 fVa _ ["self", "k", "m"] (spVar cPressTask) := ⟨GVa, clPressTask, eVa, bVa⟩
  have GDf : FnOk l.prog w K mg base CX0 1 fDf _ ["self", "place"] (spDueF cPressTask) := ok_Df FDf T L
  have CDf : Met l.prog w K mg base cPressTask "_due_floats" 1 fDf _ ["self", "place"] (spDueF cPressTask) := ⟨GDf, clPressTask, eDf, bDf⟩
  have GDl : FnOk l.prog w K mg base CX0 2 fDl _ ["self", "place"] (spDueL cPressTask) := ok_Dl FDl T L CVa
  have CDl : Met l.prog w K mg base cPressTask "_due_lines" 2 fDl _ ["self", "place"] (spDueL cPressTask) := ⟨GDl, clPressTask, eDl, bDl⟩
  have GNc : FnOk l.prog w K mg base CX0 2 fNc _ ["self", "state"] (spNextC cPressTask) := ok_Nc FNc T L CVa
  have CNc : Met l.prog w K mg base cPressTask "_next_cost" 2 fNc _ ["self", "state"] (spNextC cPressTask) := ⟨GNc, clPressTask, eNc, bNc⟩
  have GLo : FnOk l.prog w K mg base CX0 3 fLo _ ["self", "state"] (spLoose cPressTask) := ok_Lo FLo xMUST CPE CNc
  have CLo : Met l.prog w K mg base cPressTask "_loose" 3 fLo _ ["self", "state"] (spLoose cPressTask) := ⟨GLo, clPressTask, eLo, bLo⟩
  have GWu : FnOk l.prog w K mg base CX0 4 fWu _ ["self", "fills", "unit"] (spWithU cPressTask cGlue) := ok_Wu (fd2 := PySem.W.fnOf "law" "law" (defArgs sLw) (defBody sLw) (defScope sLw) .none kVLw dcLw pmLw anLw cdLw ctLw) FWu T L xMUST MGI GGI mGlue bGI ADG PRG
  have CWu : Met l.prog w K mg base cPressTask "_with_unit" 4 fWu _ ["self", "fills", "unit"] (spWithU cPressTask cGlue) := ⟨GWu, clPressTask, eWu, bWu⟩
  have GTh : FnOk l.prog w K mg base CX0 5 fTh _ ["self", "spots", "k", "units", "start", "fills"] (spThrough cPressTask cGlue) := ok_Th FTh T L CWu
  have CTh : Met l.prog w K mg base cPressTask "_through" 5 fTh _ ["self", "spots", "k", "units", "start", "fills"] (spThrough cPressTask cGlue) := ⟨GTh, clPressTask, eTh, bTh⟩
  have GLe : FnOk l.prog w K mg base CX0 3 fLe _ ["fills"] (spLeastF cGlue) := ok_Le FLe LG CGP MGI GGI mGlue bGI
  have CLe : Cal l.prog w K mg base "_least_fills" 3 fLe _ ["fills"] (spLeastF cGlue) := ⟨GLe, mLe, kLe, bLe⟩
  have GOg : FnOk l.prog w K mg base CX0 3 fOg _ ["self", "a", "b"] (spOther cPressTask cGlue) := ok_Og FOg T L MGI GGI mGlue bGI
  have COg : Met l.prog w K mg base cPressTask "_other_glue" 3 fOg _ ["self", "a", "b"] (spOther cPressTask cGlue) := ⟨GOg, clPressTask, eOg, bOg⟩
  have GEc : FnOk l.prog w K mg base CX0 3 fEc _ ["self", "a", "b"] (spEndC cPressTask) := ok_Ec FEc T L xMUST xNO_UNIT_SET CDl CDf CWt CNc
  have CEc : Met l.prog w K mg base cPressTask "_end_cost" 3 fEc _ ["self", "a", "b"] (spEndC cPressTask) := ⟨GEc, clPressTask, eEc, bEc⟩
  have GBe : FnOk l.prog w K mg base CX0 5 fBe _ ["self", "a", "b", "fills"] (spBest cPressTask cGlue) := ok_Be (fd3 := PySem.W.fnOf "law" "law" (defArgs sLw) (defBody sLw) (defScope sLw) .none kVLw dcLw pmLw anLw cdLw ctLw) FBe T L COg CLo ADG PRG CFc CEc
  have CBe : Met l.prog w K mg base cPressTask "_best" 5 fBe _ ["self", "a", "b", "fills"] (spBest cPressTask cGlue) := ⟨GBe, clPressTask, eBe, bBe⟩
  have GSp : FnOk l.prog w K mg base CX0 6 fSp _ ["self", "state"] (spSpots cPressTask cGlue) := ok_Sp FSp T L CVa CTh CLe
  have CSp : Met l.prog w K mg base cPressTask "_spots" 6 fSp _ ["self", "state"] (spSpots cPressTask cGlue) := ⟨GSp, clPressTask, eSp, bSp⟩
  have GPg : FnOk l.prog w K mg base CX0 7 fPg _ ["self", "state"] (spPages cPressTask) := ok_Pg FPg T L CSp CDf CDl CBe
  have CPg : Met l.prog w K mg base cPressTask "_pages" 7 fPg _ ["self", "state"] (spPages cPressTask) := ⟨GPg, clPressTask, ePg, bPg⟩
  have GSn : FnOk l.prog w K mg base CX0 8 fSn _ ["self", "state"] (spSteps cPressTask) := ok_Sn FSn CPg
  have CSn : Met l.prog w K mg base cPressTask "steps" 8 fSn _ ["self", "state"] (spSteps cPressTask) := ⟨GSn, clPressTask, eSn, bSn⟩
  have GPc : FnOk l.prog w K mg base CX0 8 fPc _ ["self", "a", "b"] (spPCost cPressTask) := ok_Pc FPc CPg
  have CPc : Met l.prog w K mg base cPressTask "page_cost" 8 fPc _ ["self", "a", "b"] (spPCost cPressTask) := ⟨GPc, clPressTask, ePc, bPc⟩
  have GFl : FnOk l.prog w K mg base CX0 8 fFl _ ["self", "a", "b"] (spPFill cPressTask) := ok_Fl FFl CPg
  have CFl : Met l.prog w K mg base cPressTask "filling" 8 fFl _ ["self", "a", "b"] (spPFill cPressTask) := ⟨GFl, clPressTask, eFl, bFl⟩
  have GPI : FnOk l.prog w K mg base CX0 2 fPI _ ["self", "strands", "floats", "lines", "height", "floats_a_page", "rule", "float_gap"] (spPInit cPressTask) := ok_PI FPI T L CRc
  have GCu : FnOk l.prog w K mg base CX0 2 fCu _ ["pool", "many", "parts"] (spCut) := ok_Cu FCu T CDr
  have CCu : Cal l.prog w K mg base "_law_cut" 2 fCu _ ["pool", "many", "parts"] (spCut) := ⟨GCu, mCu, kCu, bCu⟩
  have GSt : FnOk l.prog w K mg base CX0 3 fSt _ ["pool", "tall", "many", "alike"] (spStrand) := ok_St FSt T CDr CPi CRa CCu
  have CSt : Cal l.prog w K mg base "_law_strand" 3 fSt _ ["pool", "tall", "many", "alike"] (spStrand) := ⟨GSt, mSt, kSt, bSt⟩
  have GTp : FnOk l.prog w K mg base CX0 4 fTp _ ["pool", "usual", "most"] (spToldP) := ok_Tp FTp T CDr CPi CFe CSt
  have CTp : Cal l.prog w K mg base "_law_told_press" 4 fTp _ ["pool", "usual", "most"] (spToldP) := ⟨GTp, mTp, kTp, bTp⟩
  have GMs : FnOk l.prog w K mg base CX0 3 fMs _ ["pool"] (spManyS) := ok_Ms FMs T CDr CPi
  have CMs : Cal l.prog w K mg base "_law_many_strands" 3 fMs _ ["pool"] (spManyS) := ⟨GMs, mMs, kMs, bMs⟩
  have GGr : FnOk l.prog w K mg base CX0 1 fGr _ ["told", "by"] (spGreat) := ok_Gr FGr T
  have CGr : Cal l.prog w K mg base "_law_greater" 1 fGr _ ["told", "by"] (spGreat) := ⟨GGr, mGr, kGr, bGr⟩
  have GLv : FnOk l.prog w K mg base CX0 1 fLv _ ["told", "k", "m"] (spLVar) := ok_Lv FLv T
  have CLv : Cal l.prog w K mg base "_law_variant" 1 fLv _ ["told", "k", "m"] (spLVar) := ⟨GLv, mLv, kLv, bLv⟩
  have GLp : FnOk l.prog w K mg base CX0 1 fLp _ ["told"] (spLPlaces) := ok_Lp FLp T
  have CLp : Cal l.prog w K mg base "_law_places" 1 fLp _ ["told"] (spLPlaces) := ⟨GLp, mLp, kLp, bLp⟩
  have GLs : FnOk l.prog w K mg base CX0 2 fLs _ ["told"] (spLStates) := ok_Ls FLs T CLp
  have CLs : Cal l.prog w K mg base "_law_states" 2 fLs _ ["told"] (spLStates) := ⟨GLs, mLs, kLs, bLs⟩
  have GLd : FnOk l.prog w K mg base CX0 2 fLd _ ["told", "state"] (spLDue) := ok_Ld FLd T CLv
  have CLd : Cal l.prog w K mg base "_law_due" 2 fLd _ ["told", "state"] (spLDue) := ⟨GLd, mLd, kLd, bLd⟩
  have GLn : FnOk l.prog w K mg base CX0 2 fLn _ ["told", "state"] (spLNext) := ok_Ln FLn T CLv
  have CLn : Cal l.prog w K mg base "_law_next" 2 fLn _ ["told", "state"] (spLNext) := ⟨GLn, mLn, kLn, bLn⟩
  have GLb : FnOk l.prog w K mg base CX0 1 fLb _ ["a", "b"] (spLBegins) := ok_Lb FLb T
  have CLb : Cal l.prog w K mg base "_law_begins" 1 fLb _ ["a", "b"] (spLBegins) := ⟨GLb, mLb, kLb, bLb⟩
  have GLf : FnOk l.prog w K mg base CX0 1 fLf _ ["told", "b", "begins"] (spLFills) := ok_Lf FLf T
  have CLf : Cal l.prog w K mg base "_law_fillings" 1 fLf _ ["told", "b", "begins"] (spLFills) := ⟨GLf, mLf, kLf, bLf⟩
  have GLu : FnOk l.prog w K mg base CX0 2 fLu _ ["told", "a", "b", "begins", "filling"] (spLUnits) := ok_Lu FLu T CLv
  have CLu : Cal l.prog w K mg base "_law_units" 2 fLu _ ["told", "a", "b", "begins", "filling"] (spLUnits) := ⟨GLu, mLu, kLu, bLu⟩
  have GLx : FnOk l.prog w K mg base CX0 1 fLx _ ["slack", "room"] (spBadn) := ok_Lx FLx T
  have CLx : Cal l.prog w K mg base "_law_badness" 1 fLx _ ["slack", "room"] (spBadn) := ⟨GLx, mLx, kLx, bLx⟩
  have GPr : FnOk l.prog w K mg base CX0 3 fPr _ ["told", "a", "b", "units"] (spLPrice) := ok_Pr FPr T CLd CLn CLx
  have CPr : Cal l.prog w K mg base "_law_price" 3 fPr _ ["told", "a", "b", "units"] (spLPrice) := ⟨GPr, mPr, kPr, bPr⟩
  have GPa : FnOk l.prog w K mg base CX0 4 fPa _ ["told", "a", "b"] (spLPage) := ok_Pa FPa T CLb CLf CLu CPr
  have CPa : Cal l.prog w K mg base "_law_page" 4 fPa _ ["told", "a", "b"] (spLPage) := ⟨GPa, mPa, kPa, bPa⟩
  have GLst : FnOk l.prog w K mg base CX0 5 fLst _ ["told", "states", "a"] (spLSteps) := ok_Lst FLst T CPa
  have CLst : Cal l.prog w K mg base "_law_steps" 5 fLst _ ["told", "states", "a"] (spLSteps) := ⟨GLst, mLst, kLst, bLst⟩
  have GLr : FnOk l.prog w K mg base CX0 1 fLr _ ["told", "state"] (spLRank) := ok_Lr FLr T
  have CLr : Cal l.prog w K mg base "_law_rank" 1 fLr _ ["told", "state"] (spLRank) := ⟨GLr, mLr, kLr, bLr⟩
  have GLq : FnOk l.prog w K mg base CX0 10 fLq _ ["task", "told", "a", "b"] (spLPair cPressTask) := ok_Lq FLq T CPa CPc CFl CSa
  have CLq : Cal l.prog w K mg base "_law_pair" 10 fLq _ ["task", "told", "a", "b"] (spLPair cPressTask) := ⟨GLq, mLq, kLq, bLq⟩
  have GLt : FnOk l.prog w K mg base CX0 10 fLt _ ["task", "told", "states", "a"] (spLTold cPressTask) := ok_Lt FLt T CLst CSn CSa CPR CLr
  have CLt : Cal l.prog w K mg base "_law_state_told" 10 fLt _ ["task", "told", "states", "a"] (spLTold cPressTask) := ⟨GLt, mLt, kLt, bLt⟩
  have GMd : FnOk l.prog w K mg base CX0 4 fMd _ ["told"] (spLMade cPressTask) := ok_Md FMd T L MPI GPI mPressTask bKP
  have CMd : Cal l.prog w K mg base "_law_made" 4 fMd _ ["told"] (spLMade cPressTask) := ⟨GMd, mMd, kMd, bMd⟩
  have GLdf : FnOk l.prog w K mg base CX0 11 fLdf _ ["told"] (spLDef cPressTask) := ok_Ldf FLdf T MPI GPI mPressTask bKD CLs CLt
  have CLdf : Cal l.prog w K mg base "_law_default" 11 fLdf _ ["told"] (spLDef cPressTask) := ⟨GLdf, mLdf, kLdf, bLdf⟩
  exact ok_Lw (fun_mk (st := sLw) lLw cLw kLw) T L IP mTask CPo CTp CRa CGr CMs CLs CMd CSa CPF CPi CLt CPE CLq CPc CFl CSn CLdf
theorem walk {l : PySem.W.OpenLaw} {q : Program} {loose : List Str} {XP : (Str → Option Value) → Heap → Prop} {YP : World → Heap → Prop} {d : DefRec} {K : Params → PySem.W.Frag} (hn : l.most = some 63) (hdf : d.params.defaults = [])
    (hY : ∀ (w : World) (h : Heap), YP w h → (K w.params).In h)
    (F : ∀ (w : World) (mg : Str → Option Value) (fa : Addr) (h : Heap), (K w.params).In h → h.Ns mainGlobals mg → mg d.name = some (.ref fa) →
      ∃ fd : FuncData, (∀ (s : Shared) (u : Value), BindsTo s fd ⟨[u], []⟩ [("script", u)]) ∧ ∀ base : Heap, (K w.params).In base → base.Ns mainGlobals mg → FnOk l.prog w (K w.params) mg base CX0 12 fa fd ["script"] (spLaw (K w.params))) :
    PySem.W.WalkO q loose XP YP l.row.toRowW d [] (fun f vs => PySem.call f vs) :=
  L2.walk_of (n := 63) (k := 12) (x := "script") (CX := fun _ => CX0) (sp := fun w => spLaw (K w.params)) hn (by decide) hdf ⟨rfl, by decide, by decide⟩ hY F (fun _ _ a ns hl _ hS => ⟨a, ns, rfl, hS, hl, fun _ => rfl⟩) fun _ _ _ _ _ z => z
end Tf
open PySem PySem.W PyProof.Rows in
set_option maxRecDepth 100000 in
set_option maxHeartbeats 0 in
theorem PySem.Challenge.cw_typeforge_k80_press_pages_and_fillings_holds : PySem.Challenge.rw_typeforge_k80_press_pages_and_fillings.Holds := by
  w_on; o_law; k_head; (case hw => w_witness2)
  k_fill
  refine Tf.walk (l := PySem.Challenge.rw_typeforge_k80_press_pages_and_fillings) rfl rfl (fun w h Y => PySem.W.kIn_of Y) ?F
  case F =>
    intro w mg fa h KX G hmg
    refine' Tf.all_mk KX G hmg ?CGlue ?CPressTask ?aDr ?lDr ?cDr ?kDr ?aPo ?lPo ?cPo ?kPo ?aPi ?lPi ?cPi ?kPi ?aRa ?lRa ?cRa ?kRa ?aFe ?lFe ?cFe ?kFe ?aSa ?lSa ?cSa ?kSa ?aGI ?iGI ?lGI ?cGI ?kGI ?aGA ?iGA ?lGA ?cGA ?kGA ?aGP ?iGP ?lGP ?cGP ?kGP ?aBn ?lBn ?cBn ?kBn ?aFc ?lFc ?cFc ?kFc ?aWt ?lWt ?cWt ?kWt ?aRc ?lRc ?cRc ?kRc ?aPF ?iPF ?lPF ?cPF ?kPF ?aPE ?iPE ?lPE ?cPE ?kPE ?aPR ?iPR ?lPR ?cPR ?kPR ?aVa ?iVa ?lVa ?cVa ?kVa ?aDf ?iDf ?lDf ?cDf ?kDf ?aDl ?iDl ?lDl ?cDl ?kDl ?aNc ?iNc ?lNc ?cNc ?kNc ?aLo ?iLo ?lLo ?cLo ?kLo ?aWu ?iWu ?lWu ?cWu ?kWu ?aTh ?iTh ?lTh ?cTh ?kTh ?aLe ?lLe ?cLe ?kLe ?aOg ?iOg ?lOg ?cOg ?kOg ?aEc ?iEc ?lEc ?cEc ?kEc ?aBe ?iBe ?lBe ?cBe ?kBe ?aSp ?iSp ?lSp ?cSp ?kSp ?aPg ?iPg ?lPg ?cPg ?kPg ?aSn ?iSn ?lSn ?cSn ?kSn ?aPc ?iPc ?lPc ?cPc ?kPc ?aFl ?iFl ?lFl ?cFl ?kFl ?aPI ?iPI ?lPI ?cPI ?kPI ?aCu ?lCu ?cCu ?kCu ?aSt ?lSt ?cSt ?kSt ?aTp ?lTp ?cTp ?kTp ?aMs ?lMs ?cMs ?kMs ?aGr ?lGr ?cGr ?kGr ?aLv ?lLv ?cLv ?kLv ?aLp ?lLp ?cLp ?kLp ?aLs ?lLs ?cLs ?kLs ?aLd ?lLd ?cLd ?kLd ?aLn ?lLn ?cLn ?kLn ?aLb ?lLb ?cLb ?kLb ?aLf ?lLf ?cLf ?kLf ?aLu ?lLu ?cLu ?kLu ?aLx ?lLx ?cLx ?kLx ?aPr ?lPr ?cPr ?kPr ?aPa ?lPa ?cPa ?kPa ?aLst ?lLst ?cLst ?kLst ?aLr ?lLr ?cLr ?kLr ?aLq ?lLq ?cLq ?kLq ?aLt ?lLt ?cLt ?kLt ?aMd ?lMd ?cMd ?kMd ?aLdf ?lLdf ?cLdf ?kLdf ?aLw ?lLw ?cLw ?kLw ?pgGlue ?hdGlue ?poGlue ?saGlue ?mkGlue ?kcGlue ?nGluenatural ?nGluestretch ?nGlueshrink ?pgPressTask ?hdPressTask ?poPressTask ?saPressTask ?mkPressTask ?kcPressTask ?nPressTaskstrands ?nPressTaskfloats ?nPressTasklines ?nPressTaskheight ?nPressTaskfloats_a_page ?nPressTaskrule ?nPressTaskfloat_gap ?nPressTask_opened ?nPressTask_lines_ahead ?nPressTask_most_ahead ?CTask ?conMUST ?conNO_UNIT_SET ?con_FLOAT_WAITS ?con_NOTES_WAIT ?con_LINE_WAITS ?con_FIRST_LINE_WAITS ?conMOST_BADNESS ?kwdfloats_a_page ?kwdrule ?kwdfloat_gap ?prA ?prG ?prT ?prR ?lGL ?cGL ?kGL ?sfG ?isA ?isN ?isT ?isM ?isD ?isY ?isS ?zlen ?zabs ?zint ?zlist ?ztuple ?zrange ?zsorted ?zisinstance ?zmin ?zmax ?zenumerate ?zzip ?zsum ?zall ?zstr ?zbool
    (case CGlue => k_is)
    (case CPressTask => k_is)
    (case aDr => k_is)
    (case lDr => k_is)
    (case cDr => k_is)
    (case kDr => k_is)
    (case aPo => k_is)
    (case lPo => k_is)
    (case cPo => k_is)
    (case kPo => k_is)
    (case aPi => k_is)
    (case lPi => k_is)
    (case cPi => k_is)
    (case kPi => k_is)
    (case aRa => k_is)
    (case lRa => k_is)
    (case cRa => k_is)
    (case kRa => k_is)
    (case aFe => k_is)
    (case lFe => k_is)
    (case cFe => k_is)
    (case kFe => k_is)
    (case aSa => k_is)
    (case lSa => k_is)
    (case cSa => k_is)
    (case kSa => k_is)
    (case aGI => k_is)
    (case iGI => k_is)
    (case lGI => k_is)
    (case cGI => k_is)
    (case kGI => k_is)
    (case aGA => k_is)
    (case iGA => k_is)
    (case lGA => k_is)
    (case cGA => k_is)
    (case kGA => k_is)
    (case aGP => k_is)
    (case iGP => k_is)
    (case lGP => k_is)
    (case cGP => k_is)
    (case kGP => k_is)
    (case aBn => k_is)
    (case lBn => k_is)
    (case cBn => k_is)
    (case kBn => k_is)
    (case aFc => k_is)
    (case lFc => k_is)
    (case cFc => k_is)
    (case kFc => k_is)
    (case aWt => k_is)
    (case lWt => k_is)
    (case cWt => k_is)
    (case kWt => k_is)
    (case aRc => k_is)
    (case lRc => k_is)
    (case cRc => k_is)
    (case kRc => k_is)
    (case aPF => k_is)
    (case iPF => k_is)
    (case lPF => k_is)
    (case cPF => k_is)
    (case kPF => k_is)
    (case aPE => k_is)
    (case iPE => k_is)
    (case lPE => k_is)
    (case cPE => k_is)
    (case kPE => k_is)
    (case aPR => k_is)
    (case iPR => k_is)
    (case lPR => k_is)
    (case cPR => k_is)
    (case kPR => k_is)
    (case aVa => k_is)
    (case iVa => k_is)
    (case lVa => k_is)
    (case cVa => k_is)
    (case kVa => k_is)
    (case aDf => k_is)
    (case iDf => k_is)
    (case lDf => k_is)
    (case cDf => k_is)
    (case kDf => k_is)
    (case aDl => k_is)
    (case iDl => k_is)
    (case lDl => k_is)
    (case cDl => k_is)
    (case kDl => k_is)
    (case aNc => k_is)
    (case iNc => k_is)
    (case lNc => k_is)
    (case cNc => k_is)
    (case kNc => k_is)
    (case aLo => k_is)
    (case iLo => k_is)
    (case lLo => k_is)
    (case cLo => k_is)
    (case kLo => k_is)
    (case aWu => k_is)
    (case iWu => k_is)
    (case lWu => k_is)
    (case cWu => k_is)
    (case kWu => k_is)
    (case aTh => k_is)
    (case iTh => k_is)
    (case lTh => k_is)
    (case cTh => k_is)
    (case kTh => k_is)
    (case aLe => k_is)
    (case lLe => k_is)
    (case cLe => k_is)
    (case kLe => k_is)
    (case aOg => k_is)
    (case iOg => k_is)
    (case lOg => k_is)
    (case cOg => k_is)
    (case kOg => k_is)
    (case aEc => k_is)
    (case iEc => k_is)
    (case lEc => k_is)
    (case cEc => k_is)
    (case kEc => k_is)
    (case aBe => k_is)
    (case iBe => k_is)
    (case lBe => k_is)
    (case cBe => k_is)
    (case kBe => k_is)
    (case aSp => k_is)
    (case iSp => k_is)
    (case lSp => k_is)
    (case cSp => k_is)
    (case kSp => k_is)
    (case aPg => k_is)
    (case iPg => k_is)
    (case lPg => k_is)
    (case cPg => k_is)
    (case kPg => k_is)
    (case aSn => k_is)
    (case iSn => k_is)
    (case lSn => k_is)
    (case cSn => k_is)
    (case kSn => k_is)
    (case aPc => k_is)
    (case iPc => k_is)
    (case lPc => k_is)
    (case cPc => k_is)
    (case kPc => k_is)
    (case aFl => k_is)
    (case iFl => k_is)
    (case lFl => k_is)
    (case cFl => k_is)
    (case kFl => k_is)
    (case aPI => k_is)
    (case iPI => k_is)
    (case lPI => k_is)
    (case cPI => k_is)
    (case kPI => k_is)
    (case aCu => k_is)
    (case lCu => k_is)
    (case cCu => k_is)
    (case kCu => k_is)
    (case aSt => k_is)
    (case lSt => k_is)
    (case cSt => k_is)
    (case kSt => k_is)
    (case aTp => k_is)
    (case lTp => k_is)
    (case cTp => k_is)
    (case kTp => k_is)
    (case aMs => k_is)
    (case lMs => k_is)
    (case cMs => k_is)
    (case kMs => k_is)
    (case aGr => k_is)
    (case lGr => k_is)
    (case cGr => k_is)
    (case kGr => k_is)
    (case aLv => k_is)
    (case lLv => k_is)
    (case cLv => k_is)
    (case kLv => k_is)
    (case aLp => k_is)
    (case lLp => k_is)
    (case cLp => k_is)
    (case kLp => k_is)
    (case aLs => k_is)
    (case lLs => k_is)
    (case cLs => k_is)
    (case kLs => k_is)
    (case aLd => k_is)
    (case lLd => k_is)
    (case cLd => k_is)
    (case kLd => k_is)
    (case aLn => k_is)
    (case lLn => k_is)
    (case cLn => k_is)
    (case kLn => k_is)
    (case aLb => k_is)
    (case lLb => k_is)
    (case cLb => k_is)
    (case kLb => k_is)
    (case aLf => k_is)
    (case lLf => k_is)
    (case cLf => k_is)
    (case kLf => k_is)
    (case aLu => k_is)
    (case lLu => k_is)
    (case cLu => k_is)
    (case kLu => k_is)
    (case aLx => k_is)
    (case lLx => k_is)
    (case cLx => k_is)
    (case kLx => k_is)
    (case aPr => k_is)
    (case lPr => k_is)
    (case cPr => k_is)
    (case kPr => k_is)
    (case aPa => k_is)
    (case lPa => k_is)
    (case cPa => k_is)
    (case kPa => k_is)
    (case aLst => k_is)
    (case lLst => k_is)
    (case cLst => k_is)
    (case kLst => k_is)
    (case aLr => k_is)
    (case lLr => k_is)
    (case cLr => k_is)
    (case kLr => k_is)
    (case aLq => k_is)
    (case lLq => k_is)
    (case cLq => k_is)
    (case kLq => k_is)
    (case aLt => k_is)
    (case lLt => k_is)
    (case cLt => k_is)
    (case kLt => k_is)
    (case aMd => k_is)
    (case lMd => k_is)
    (case cMd => k_is)
    (case kMd => k_is)
    (case aLdf => k_is)
    (case lLdf => k_is)
    (case cLdf => k_is)
    (case kLdf => k_is)
    (case aLw => k_is)
    (case lLw => k_is)
    (case cLw => k_is)
    (case kLw => k_is)
    (case pgGlue => k_is)
    (case hdGlue => k_is)
    (case poGlue => k_is)
    (case saGlue => k_is)
    (case mkGlue => k_is)
    (case kcGlue => k_is)
    (case nGluenatural => k_is)
    (case nGluestretch => k_is)
    (case nGlueshrink => k_is)
    (case pgPressTask => k_is)
    (case hdPressTask => k_is)
    (case poPressTask => k_is)
    (case saPressTask => k_is)
    (case mkPressTask => k_is)
    (case kcPressTask => k_is)
    (case nPressTaskstrands => k_is)
    (case nPressTaskfloats => k_is)
    (case nPressTasklines => k_is)
    (case nPressTaskheight => k_is)
    (case nPressTaskfloats_a_page => k_is)
    (case nPressTaskrule => k_is)
    (case nPressTaskfloat_gap => k_is)
    (case nPressTask_opened => k_is)
    (case nPressTask_lines_ahead => k_is)
    (case nPressTask_most_ahead => k_is)
    (case CTask => k_is)
    (case conMUST => k_is)
    (case conNO_UNIT_SET => k_is)
    (case con_FLOAT_WAITS => k_is)
    (case con_NOTES_WAIT => k_is)
    (case con_LINE_WAITS => k_is)
    (case con_FIRST_LINE_WAITS => k_is)
    (case conMOST_BADNESS => k_is)
    (case kwdfloats_a_page => k_is)
    (case kwdrule => k_is)
    (case kwdfloat_gap => k_is)
    (case prA => k_is)
    (case prG => k_is)
    (case prT => k_is)
    (case prR => k_is)
    (case lGL => k_is)
    (case cGL => k_is)
    (case kGL => k_is)
    (case sfG => k_is)
    (case isA => k_is)
    (case isN => k_is)
    (case isT => k_is)
    (case isM => k_is)
    (case isD => k_is)
    (case isY => k_is)
    (case isS => k_is)
    (case zlen => k_is)
    (case zabs => k_is)
    (case zint => k_is)
    (case zlist => k_is)
    (case ztuple => k_is)
    (case zrange => k_is)
    (case zsorted => k_is)
    (case zisinstance => k_is)
    (case zmin => k_is)
    (case zmax => k_is)
    (case zenumerate => k_is)
    (case zzip => k_is)
    (case zsum => k_is)
    (case zall => k_is)
    (case zstr => k_is)
    (case zbool => k_is)
#print axioms PySem.Challenge.cw_typeforge_k80_press_pages_and_fillings_holds
