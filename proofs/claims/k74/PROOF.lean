import PyProof.Rows.All
import Wide.All
import OpenK.AllK
import Wide.FinOn
import HandS.ForMost
import HandS.Sort
import HandS.SortInts
import HandS.SortKw
import HandS.IsInst
import HandS.Wide
import HandS.Flow
import HandS.More
import HandS.NoneIn
import HandS.Style
import HandS.DictComp
import HandS.Zip
import HandS.RaiseOp
import HandS.Conv
import HandS.Walk
import KE.SortKeyHeap
import KE.GoesEnum
import PySem.Challenge.RW_typeforge_k74_spectra_of_tasks
set_option Elab.async false
set_option linter.all false
set_option maxRecDepth 100000
set_option maxHeartbeats 4000000
/-! frozen heaps, own cells, data that stands in a frozen heap, steps of a reading -/
namespace Tf
open PySem PySem.Spec PyProof.Rows L2
/-! ### heaps that grow -/
theorem same_new {H : Hp} {p : Addr} {o : HO} (h : H p = none) : Same H (upd H p o) := fun a u e => by
  rw [upd_ne (ne_of_none e h)]
  exact e
abbrev Mem := List (Addr × HO)
/-- F stands still within H; the cells m of H are ours -/
structure Own (H F : Hp) (m : Mem) : Prop where
  sub : Same F H
  mem : ∀ p ∈ m, H p.1 = some p.2 ∧ F p.1 = none
  nd : (m.map (·.1)).Nodup
namespace Own
variable {H F : Hp} {m m' : Mem} {p q : Addr} {o o' u u' : HO}
theorem at0 (O : Own H F ((p, o) :: m)) : H p = some o := (O.mem (p, o) List.mem_cons_self).1
theorem fr0 (O : Own H F ((p, o) :: m)) : F p = none := (O.mem (p, o) List.mem_cons_self).2
theorem get (O : Own H F m) (h : (p, o) ∈ m) : H p = some o := (O.mem (p, o) h).1
theorem frz (O : Own H F m) (h : F p = some o) : H p = some o := O.sub p o h
theorem fresh (O : Own H F m) (h : H p = none) : F p = none := O.sub.free h
theorem notin (O : Own H F m) (h : H p = none) : p ∉ m.map (·.1) := fun hp => by
  obtain ⟨x, hx, e⟩ := List.mem_map.mp hp
  have := (O.mem x hx).1
  rw [e, h] at this
  cases this
theorem notinF (O : Own H F m) (h : F p = some o) : p ∉ m.map (·.1) := fun hp => by
  obtain ⟨x, hx, e⟩ := List.mem_map.mp hp
  have := (O.mem x hx).2
  rw [e, h] at this
  cases this
/-- a new thing that stands still from now on -/
theorem new (O : Own H F m) (h : H p = none) : Own (upd H p o) (upd F p o) m where
  sub := fun a u e => by
    by_cases ha : a = p
    · subst ha
      rw [upd_same] at e ⊢
      exact e
    · rw [upd_ne ha] at e ⊢
      exact O.sub a u e
  mem := fun x hx => by
    have hn : x.1 ≠ p := fun e => O.notin h (by rw [← e]; exact List.mem_map_of_mem hx)
    rw [upd_ne hn, upd_ne hn]
    exact O.mem x hx
  nd := O.nd
/-- a new thing of ours -/
theorem own (O : Own H F m) (h : H p = none) : Own (upd H p o) F ((p, o) :: m) where
  sub := O.sub.trans (same_new h)
  mem := fun x hx => by
    rcases List.mem_cons.mp hx with rfl | hx
    · exact ⟨upd_same, O.fresh h⟩
    · have hn : x.1 ≠ p := fun e => O.notin h (by rw [← e]; exact List.mem_map_of_mem hx)
      rw [upd_ne hn]
      exact O.mem x hx
  nd := List.nodup_cons.mpr ⟨O.notin h, O.nd⟩
theorem set (O : Own H F ((p, o) :: m)) (o' : HO) : Own (upd H p o') F ((p, o') :: m) where
  sub := fun a u e => by
    rw [upd_ne (ne_of_none e O.fr0)]
    exact O.sub a u e
  mem := fun x hx => by
    rcases List.mem_cons.mp hx with rfl | hx
    · exact ⟨upd_same, O.fr0⟩
    · have hn : x.1 ≠ p := fun e => (List.nodup_cons.mp O.nd).1 (by show p ∈ m.map (·.1); rw [← e]; exact List.mem_map_of_mem hx)
      rw [upd_ne hn]
      exact O.mem x (List.mem_cons_of_mem _ hx)
  nd := O.nd
theorem perm (O : Own H F m) (h : m.Perm m') : Own H F m' where
  sub := O.sub
  mem := fun x hx => O.mem x (h.mem_iff.mpr hx)
  nd := (h.map _).nodup_iff.mp O.nd
theorem swap (O : Own H F ((p, o) :: (q, u) :: m)) : Own H F ((q, u) :: (p, o) :: m) := O.perm (List.Perm.swap _ _ _)
theorem rot3 {r : Addr} {v : HO} (O : Own H F ((p, o) :: (q, u) :: (r, v) :: m)) : Own H F ((r, v) :: (p, o) :: (q, u) :: m) :=
  O.perm (((List.Perm.swap _ _ _).cons _).trans (List.Perm.swap _ _ _))
theorem tail (O : Own H F ((p, o) :: m)) : Own H F m := ⟨O.sub, fun x hx => O.mem x (List.mem_cons_of_mem _ hx), (List.nodup_cons.mp O.nd).2⟩
/-- a thing of ours that stands still from now on -/
theorem freeze (O : Own H F ((p, o) :: m)) : Own H (upd F p o) m where
  sub := fun a u e => by
    by_cases ha : a = p
    · subst ha
      rw [upd_same] at e
      rw [O.at0]
      exact e
    · rw [upd_ne ha] at e
      exact O.sub a u e
  mem := fun x hx => by
    have hn : x.1 ≠ p := fun e => (List.nodup_cons.mp O.nd).1 (by show p ∈ m.map (·.1); rw [← e]; exact List.mem_map_of_mem hx)
    rw [upd_ne hn]
    exact O.mem x (List.mem_cons_of_mem _ hx)
  nd := (List.nodup_cons.mp O.nd).2
theorem freeze_same (O : Own H F ((p, o) :: m)) : Same F (upd F p o) := same_new O.fr0
theorem refl (H : Hp) : Own H H [] := ⟨Same.refl H, fun _ h => (nomatch h), List.nodup_nil⟩
/-- of a lesser frozen heap -/
theorem back {F' : Hp} (O : Own H F' m) (s : Same F F') : Own H F m := ⟨s.trans O.sub, fun x hx => ⟨(O.mem x hx).1, s.free (O.mem x hx).2⟩, O.nd⟩
/-- a thing that stood still for a while is ours again -/
theorem thaw (O : Own H (upd F p o) m) (h : F p = none) : Own H F ((p, o) :: m) where
  sub := (same_new h).trans O.sub
  mem := fun x hx => by
    rcases List.mem_cons.mp hx with rfl | hx
    · exact ⟨O.sub _ _ upd_same, h⟩
    · exact ⟨(O.mem x hx).1, (same_new h).free (O.mem x hx).2⟩
  nd := List.nodup_cons.mpr ⟨O.notinF (o := o) upd_same, O.nd⟩
/-- lock and unlock of a thing that stands still -/
theorem relay (O : Own H F m) (h : F p = some o) : Own (upd H p o') (upd F p o') m where
  sub := fun a u e => by
    by_cases ha : a = p
    · subst ha
      rw [upd_same] at e ⊢
      exact e
    · rw [upd_ne ha] at e ⊢
      exact O.sub a u e
  mem := fun x hx => by
    have hn : x.1 ≠ p := fun e => O.notinF h (by rw [← e]; exact List.mem_map_of_mem hx)
    rw [upd_ne hn, upd_ne hn]
    exact O.mem x hx
  nd := O.nd
end Own
/-! ### what stays readable: lists, tuples, instances as they are; a dict also while it is locked -/
def plainO : HO → Prop
  | .lst _ => True
  | .tup _ => True
  | .ins _ _ _ => True
  | .own _ => True
  | .met _ _ => True
  | _ => False
structure Le (F F' : Hp) : Prop where
  pl : ∀ a o, plainO o → F a = some o → F' a = some o
  dk : ∀ a kvs, Rd F a (.dK kvs) → Rd F' a (.dK kvs)
  dt : ∀ a kvs, Rd F a (.dT kvs) → Rd F' a (.dT kvs)
theorem Le.refl (F : Hp) : Le F F := ⟨fun _ _ _ h => h, fun _ _ h => h, fun _ _ h => h⟩
theorem Le.trans {F F1 F2 : Hp} (a : Le F F1) (b : Le F1 F2) : Le F F2 :=
  ⟨fun x o p h => b.pl x o p (a.pl x o p h), fun x k h => b.dk x k (a.dk x k h), fun x k h => b.dt x k (a.dt x k h)⟩
theorem rd_same {F F' : Hp} {a : Addr} {u : HO} (s : Same F F') (h : Rd F a u) : Rd F' a u := by
  rcases h with h | ⟨o, h⟩
  · exact .inl (s _ _ h)
  · exact .inr ⟨o, s _ _ h⟩
theorem Le.of {F F' : Hp} (s : Same F F') : Le F F' := ⟨fun a o _ h => s a o h, fun _ _ h => rd_same s h, fun _ _ h => rd_same s h⟩
theorem le_lock {F : Hp} {d : Addr} {ob : Obj} {kvs : List (Key × V)} (h : F d = some (.dK kvs)) : Le F (upd F d (.frz ob (.dK kvs))) where
  pl := fun a o p e => by
    have hn : a ≠ d := fun z => by
      rw [z, h] at e
      cases e
      exact p
    rw [upd_ne hn]
    exact e
  dk := fun a k r => by
    by_cases ha : a = d
    · subst ha
      rcases r with r | ⟨o, r⟩
      · rw [h] at r
        cases r
        exact .inr ⟨ob, upd_same⟩
      · rw [h] at r
        cases r
    · rcases r with r | ⟨o, r⟩
      · exact .inl (by rw [upd_ne ha]; exact r)
      · exact .inr ⟨o, by rw [upd_ne ha]; exact r⟩
  dt := fun a k r => by
    by_cases ha : a = d
    · subst ha
      rcases r with r | ⟨o, r⟩
      · rw [h] at r
        cases r
      · rw [h] at r
        cases r
    · rcases r with r | ⟨o, r⟩
      · exact .inl (by rw [upd_ne ha]; exact r)
      · exact .inr ⟨o, by rw [upd_ne ha]; exact r⟩
theorem le_unlock {F : Hp} {d : Addr} {ob : Obj} {kvs : List (Key × V)} (h : F d = some (.frz ob (.dK kvs))) : Le F (upd F d (.dK kvs)) where
  pl := fun a o p e => by
    have hn : a ≠ d := fun z => by
      rw [z, h] at e
      cases e
      exact p
    rw [upd_ne hn]
    exact e
  dk := fun a k r => by
    by_cases ha : a = d
    · subst ha
      rcases r with r | ⟨o, r⟩
      · rw [h] at r
        cases r
      · rw [h] at r
        cases r
        exact .inl upd_same
    · rcases r with r | ⟨o, r⟩
      · exact .inl (by rw [upd_ne ha]; exact r)
      · exact .inr ⟨o, by rw [upd_ne ha]; exact r⟩
  dt := fun a k r => by
    by_cases ha : a = d
    · subst ha
      rcases r with r | ⟨o, r⟩
      · rw [h] at r
        cases r
      · rw [h] at r
        cases r
    · rcases r with r | ⟨o, r⟩
      · exact .inl (by rw [upd_ne ha]; exact r)
      · exact .inr ⟨o, by rw [upd_ne ha]; exact r⟩
/-! ### data -/
/-- how a Lean value stands in a heap -/
abbrev Rp (α : Type) := Hp → α → V → Prop
class Mono {α : Type} (R : Rp α) : Prop where
  le : ∀ {F F' : Hp} {x : α} {v : V}, Le F F' → R F x v → R F' x v
class MonoS {α : Type} (R : Rp α) : Prop where
  up : ∀ {F F' : Hp} {x : α} {v : V}, Same F F' → R F x v → R F' x v
instance {α : Type} {R : Rp α} [M : Mono R] : MonoS R := ⟨fun s h => M.le (Le.of s) h⟩
theorem up {α : Type} {R : Rp α} [M : MonoS R] {F F' : Hp} {x : α} {v : V} (s : Same F F') (h : R F x v) : R F' x v := M.up s h
inductive All2 {α β : Type} (R : α → β → Prop) : List α → List β → Prop
  | nil : All2 R [] []
  | cons {x y xs ys} : R x y → All2 R xs ys → All2 R (x :: xs) (y :: ys)
namespace All2
variable {α β : Type} {R S : α → β → Prop}
theorem mono (f : ∀ x y, R x y → S x y) : ∀ {xs ys}, All2 R xs ys → All2 S xs ys
  | _, _, .nil => .nil
  | _, _, .cons h t => .cons (f _ _ h) (mono f t)
theorem length : ∀ {xs : List α} {ys : List β}, All2 R xs ys → xs.length = ys.length
  | _, _, .nil => rfl
  | _, _, .cons _ t => by rw [List.length_cons, List.length_cons, length t]
theorem get : ∀ {xs : List α} {ys : List β} {i : Nat} {x : α}, All2 R xs ys → xs[i]? = some x → ∃ y, ys[i]? = some y ∧ R x y
  | _, _, _, _, .nil, e => by simp at e
  | _, _, 0, _, .cons h _, e => by
    simp at e
    subst e
    exact ⟨_, rfl, h⟩
  | _, _, i + 1, _, .cons _ t, e => by
    obtain ⟨y, a, b⟩ := get (i := i) t (by simpa using e)
    exact ⟨y, by simpa using a, b⟩
theorem get' : ∀ {xs : List α} {ys : List β} {i : Nat} {y : β}, All2 R xs ys → ys[i]? = some y → ∃ x, xs[i]? = some x ∧ R x y
  | _, _, _, _, .nil, e => by simp at e
  | _, _, 0, _, .cons h _, e => by
    simp at e
    subst e
    exact ⟨_, rfl, h⟩
  | _, _, i + 1, _, .cons _ t, e => by
    obtain ⟨y, a, b⟩ := get' (i := i) t (by simpa using e)
    exact ⟨y, by simpa using a, b⟩
theorem app : ∀ {xs xs' : List α} {ys ys' : List β}, All2 R xs ys → All2 R xs' ys' → All2 R (xs ++ xs') (ys ++ ys')
  | _, _, _, _, .nil, h => h
  | _, _, _, _, .cons h t, k => .cons h (app t k)
theorem snoc {xs : List α} {ys : List β} {x : α} {y : β} (a : All2 R xs ys) (h : R x y) : All2 R (xs ++ [x]) (ys ++ [y]) := a.app (.cons h .nil)
theorem set : ∀ {xs : List α} {ys : List β} {x : α} {y : β} (i : Nat), All2 R xs ys → R x y → All2 R (xs.set i x) (ys.set i y)
  | _, _, _, _, _, .nil, _ => .nil
  | _, _, _, _, 0, .cons _ t, h => .cons h t
  | _, _, _, _, i + 1, .cons k t, h => .cons k (set i t h)
theorem eqmap {f : α → β} : ∀ {xs : List α} {ys : List β}, All2 (fun x y => y = f x) xs ys → ys = xs.map f
  | _, _, .nil => rfl
  | _, _, .cons h t => by rw [h, eqmap t]; rfl
theorem ofmap {f : α → β} : ∀ {xs : List α}, All2 (fun x y => y = f x) xs (xs.map f)
  | [] => .nil
  | _ :: _ => .cons rfl ofmap
theorem rep {x : α} {y : β} (h : R x y) : ∀ n, All2 R (List.replicate n x) (List.replicate n y)
  | 0 => .nil
  | n + 1 => .cons h (rep h n)
theorem reverse : ∀ {xs : List α} {ys : List β}, All2 R xs ys → All2 R xs.reverse ys.reverse
  | _, _, .nil => .nil
  | _, _, .cons h t => by rw [List.reverse_cons, List.reverse_cons]; exact (reverse t).snoc h
theorem mapL {γ : Type} {f : γ → α} : ∀ {xs : List γ} {ys : List β}, All2 (fun x y => R (f x) y) xs ys → All2 R (xs.map f) ys
  | _, _, .nil => .nil
  | _, _, .cons h t => .cons h (mapL t)
theorem unmapL {γ : Type} {f : γ → α} : ∀ {xs : List γ} {ys : List β}, All2 R (xs.map f) ys → All2 (fun x y => R (f x) y) xs ys
  | [], _, .nil => .nil
  | _ :: _, _, .cons h t => .cons h (unmapL t)
end All2
def rInt : Rp Int := fun _ i v => v = .int i
def rNat : Rp Nat := fun _ n v => v = .int (n : Int)
def rBool : Rp Bool := fun _ b v => v = .bl b
def rPair {α β : Type} (R : Rp α) (S : Rp β) : Rp (α × β) := fun F x v => ∃ a u w, v = .ref a ∧ F a = some (.tup [u, w]) ∧ R F x.1 u ∧ S F x.2 w
def rTri {α β γ : Type} (R : Rp α) (S : Rp β) (T : Rp γ) : Rp (α × β × γ) := fun F x v => ∃ a u w z, v = .ref a ∧ F a = some (.tup [u, w, z]) ∧ R F x.1 u ∧ S F x.2.1 w ∧ T F x.2.2 z
def rList {α : Type} (R : Rp α) : Rp (List α) := fun F xs v => ∃ a vs, v = .ref a ∧ F a = some (.lst vs) ∧ All2 (R F) xs vs
def rTup {α : Type} (R : Rp α) : Rp (List α) := fun F xs v => ∃ a vs, v = .ref a ∧ F a = some (.tup vs) ∧ All2 (R F) xs vs
def rOpt {α : Type} (R : Rp α) : Rp (Option α) := fun F x v => match x with
  | none => v = .non
  | some y => R F y v
/-- a list or a tuple -/
def rSeq {α : Type} (R : Rp α) : Rp (List α) := fun F xs v => rList R F xs v ∨ rTup R F xs v
/-- the pairs of a dict with int keys -/
def kvR {α : Type} (R : Rp α) (F : Hp) : List (Int × α) → List (Key × V) → Prop := All2 fun p q => q.1 = .inl p.1 ∧ R F p.2 q.2
def rDict {α : Type} (R : Rp α) : Rp (List (Int × α)) := fun F xs v => ∃ a kvs, v = .ref a ∧ Rd F a (.dK kvs) ∧ kvR R F xs kvs
instance : Mono rInt := ⟨fun _ h => h⟩
instance : Mono rNat := ⟨fun _ h => h⟩
instance : Mono rBool := ⟨fun _ h => h⟩
instance {α β : Type} {R : Rp α} {S : Rp β} [Mono R] [Mono S] : Mono (rPair R S) := ⟨fun l ⟨a, u, w, e, h, r, s⟩ => ⟨a, u, w, e, l.pl _ _ True.intro h, Mono.le l r, Mono.le l s⟩⟩
instance {α β γ : Type} {R : Rp α} {S : Rp β} {T : Rp γ} [Mono R] [Mono S] [Mono T] : Mono (rTri R S T) :=
  ⟨fun l ⟨a, u, w, z, e, h, r, s, t⟩ => ⟨a, u, w, z, e, l.pl _ _ True.intro h, Mono.le l r, Mono.le l s, Mono.le l t⟩⟩
instance {α : Type} {R : Rp α} [Mono R] : Mono (rList R) := ⟨fun l ⟨a, vs, e, h, r⟩ => ⟨a, vs, e, l.pl _ _ True.intro h, r.mono fun _ _ => Mono.le l⟩⟩
instance {α : Type} {R : Rp α} [Mono R] : Mono (rTup R) := ⟨fun l ⟨a, vs, e, h, r⟩ => ⟨a, vs, e, l.pl _ _ True.intro h, r.mono fun _ _ => Mono.le l⟩⟩
instance {α : Type} {R : Rp α} [Mono R] : Mono (rSeq R) := ⟨fun l h => h.elim (fun h => .inl (Mono.le l h)) fun h => .inr (Mono.le l h)⟩
instance {α : Type} {R : Rp α} [Mono R] : Mono (rOpt R) := ⟨fun {_ _ x _} l h => by
  cases x with
  | none => exact h
  | some y => exact Mono.le (R := R) l h⟩
theorem kvR.le {α : Type} {R : Rp α} [Mono R] {F F' : Hp} {xs kvs} (l : Le F F') (h : kvR R F xs kvs) : kvR R F' xs kvs := h.mono fun _ _ p => ⟨p.1, Mono.le l p.2⟩
instance {α : Type} {R : Rp α} [Mono R] : Mono (rDict R) := ⟨fun l ⟨a, kvs, e, h, r⟩ => ⟨a, kvs, e, l.dk _ _ h, r.le l⟩⟩
def rDictX {α : Type} (R : Rp α) : Rp (List (Int × α)) := fun F xs v => ∃ a kvs, v = .ref a ∧ F a = some (.dK kvs) ∧ kvR R F xs kvs
section
variable {α β γ : Type} {R : Rp α} {S : Rp β} {T : Rp γ}
instance [MonoS R] [MonoS S] : MonoS (rPair R S) := ⟨fun l ⟨a, u, w, e, h, r, s⟩ => ⟨a, u, w, e, l _ _ h, up l r, up l s⟩⟩
instance [MonoS R] [MonoS S] [MonoS T] : MonoS (rTri R S T) := ⟨fun l ⟨a, u, w, z, e, h, r, s, t⟩ => ⟨a, u, w, z, e, l _ _ h, up l r, up l s, up l t⟩⟩
instance [MonoS R] : MonoS (rList R) := ⟨fun l ⟨a, vs, e, h, r⟩ => ⟨a, vs, e, l _ _ h, r.mono fun _ _ => up l⟩⟩
instance [MonoS R] : MonoS (rTup R) := ⟨fun l ⟨a, vs, e, h, r⟩ => ⟨a, vs, e, l _ _ h, r.mono fun _ _ => up l⟩⟩
instance [MonoS R] : MonoS (rSeq R) := ⟨fun l h => h.elim (fun h => .inl (up l h)) fun h => .inr (up l h)⟩
instance [MonoS R] : MonoS (rOpt R) := ⟨fun {_ _ x _} l h => by
  cases x with
  | none => exact h
  | some y => exact up (R := R) l h⟩
theorem kvR.up [MonoS R] {F F' : Hp} {xs kvs} (l : Same F F') (h : kvR R F xs kvs) : kvR R F' xs kvs := h.mono fun _ _ p => ⟨p.1, Tf.up l p.2⟩
instance [MonoS R] : MonoS (rDict R) := ⟨fun l ⟨a, kvs, e, h, r⟩ => ⟨a, kvs, e, rd_same l h, r.up l⟩⟩
instance [MonoS R] : MonoS (rDictX R) := ⟨fun l ⟨a, kvs, e, h, r⟩ => ⟨a, kvs, e, l _ _ h, r.up l⟩⟩
theorem dictX {F : Hp} {xs v} (h : rDictX R F xs v) : rDict R F xs v := let ⟨a, kvs, e, h, r⟩ := h; ⟨a, kvs, e, .inl h, r⟩
theorem all2_up [MonoS R] {F F' : Hp} {xs : List α} {vs : List V} (l : Same F F') (h : All2 (R F) xs vs) : All2 (R F') xs vs := h.mono fun _ _ => up l
theorem list_imp {R' : Rp α} {F : Hp} {xs v} (f : ∀ x v, R F x v → R' F x v) (h : rList R F xs v) : rList R' F xs v := let ⟨a, vs, e, h, r⟩ := h; ⟨a, vs, e, h, r.mono f⟩
end
/-! ### dicts over Lean values -/
section
variable {α : Type}
def getD (d : List (Int × α)) (k : Int) : Option α := (d.find? fun p => decide (p.1 = k)).map (·.2)
def putD (d : List (Int × α)) (k : Int) (x : α) : List (Int × α) :=
  if (d.any fun p => decide (p.1 = k)) = true then d.map (fun p => if p.1 = k then (p.1, x) else p) else d ++ [(k, x)]
variable {R : Rp α} {F : Hp}
theorem key_inj {a b : Int} : (Sum.inl a : Key) = Sum.inl b ↔ a = b := ⟨Sum.inl.inj, fun e => by rw [e]⟩
theorem kvR.get {d : List (Int × α)} {kvs : List (Key × V)} (h : kvR R F d kvs) (k : Int) : (getD d k = none ∧ valV kvs (Sum.inl k) = none) ∨ ∃ x v, getD d k = some x ∧ valV kvs (Sum.inl k) = some v ∧ R F x v := by
  induction h with
  | nil => exact .inl ⟨rfl, rfl⟩
  | @cons p q d kvs hp t ih =>
    by_cases e : p.1 = k
    · refine .inr ⟨p.2, q.2, ?_, valV_pos (by rw [hp.1, e]), hp.2⟩
      simp [getD, List.find?_cons, e]
    · have e1 : getD (p :: d) k = getD d k := by simp [getD, List.find?_cons, e]
      have e2 : valV (q :: kvs) (Sum.inl k) = valV kvs (Sum.inl k) := valV_neg (by rw [hp.1]; exact fun z => e (key_inj.mp z))
      rw [e1, e2]
      exact ih
theorem kvR.any {d : List (Int × α)} {kvs : List (Key × V)} (h : kvR R F d kvs) (k : Int) : (kvs.any fun p => decide (p.1 = (Sum.inl k : Key))) = d.any fun p => decide (p.1 = k) := by
  induction h with
  | nil => rfl
  | @cons p q d kvs hp t ih =>
    rw [List.any_cons, List.any_cons, ih, hp.1]
    congr 1
    by_cases e : p.1 = k
    · rw [decide_eq_true e, decide_eq_true (key_inj.mpr e)]
    · rw [decide_eq_false e, decide_eq_false fun z => e (key_inj.mp z)]
theorem kvR.put {d : List (Int × α)} {kvs : List (Key × V)} {x : α} {v : V} (h : kvR R F d kvs) (k : Int) (hv : R F x v) : kvR R F (putD d k x) (putK kvs (Sum.inl k) v) := by
  unfold putD putK
  rw [h.any k]
  split
  · clear ‹_ = true›
    induction h with
    | nil => exact .nil
    | @cons p q d kvs hp t ih =>
      refine .cons ?_ ih
      by_cases e : p.1 = k
      · dsimp only
        rw [if_pos e, if_pos (by rw [hp.1, e])]
        exact ⟨by rw [hp.1], hv⟩
      · dsimp only
        rw [if_neg e, if_neg (by rw [hp.1]; exact fun z => e (key_inj.mp z))]
        exact hp
  · exact All2.snoc h ⟨rfl, hv⟩
theorem kvR.keys {d : List (Int × α)} {kvs : List (Key × V)} (h : kvR R F d kvs) : kvs.map (fun p => kV p.1) = (d.map (·.1)).map V.int := by
  induction h with
  | nil => rfl
  | @cons p q d kvs hp t ih =>
    rw [List.map_cons, List.map_cons, List.map_cons, ih, hp.1]
    rfl
theorem getD_nil {k : Int} : getD ([] : List (Int × α)) k = none := rfl
theorem getD_cons {p : Int × α} {d : List (Int × α)} {k : Int} : getD (p :: d) k = if p.1 = k then some p.2 else getD d k := by
  by_cases e : p.1 = k
  · rw [if_pos e]
    simp [getD, List.find?_cons, e]
  · rw [if_neg e]
    simp [getD, List.find?_cons, e]
theorem getD_mem {d : List (Int × α)} {k : Int} {x : α} (h : getD d k = some x) : (k, x) ∈ d := by
  induction d with
  | nil => cases h
  | cons p d ih =>
    rw [getD_cons] at h
    by_cases e : p.1 = k
    · rw [if_pos e] at h
      cases h
      rw [← e]
      exact List.mem_cons_self
    · rw [if_neg e] at h
      exact List.mem_cons_of_mem _ (ih h)
theorem getD_none {d : List (Int × α)} {k : Int} : getD d k = none ↔ k ∉ d.map (·.1) := by
  induction d with
  | nil => exact ⟨fun _ h => (nomatch h), fun _ => rfl⟩
  | cons p d ih =>
    rw [getD_cons, List.map_cons, List.mem_cons]
    by_cases e : p.1 = k
    · rw [if_pos e]
      exact ⟨fun h => (nomatch h), fun h => (h (.inl e.symm)).elim⟩
    · rw [if_neg e, ih]
      exact ⟨fun h z => z.elim (fun z => e z.symm) h, fun h z => h (.inr z)⟩
theorem getD_app {d d' : List (Int × α)} {k : Int} : getD (d ++ d') k = (getD d k).or (getD d' k) := by
  induction d with
  | nil => rfl
  | cons p d ih =>
    rw [List.cons_append, getD_cons, getD_cons, ih]
    split <;> rfl
theorem getD_repl {d : List (Int × α)} {k j : Int} {x : α} : getD (d.map (fun p => if p.1 = k then (p.1, x) else p)) j = if j = k then (getD d j).map fun _ => x else getD d j := by
  induction d with
  | nil =>
    show (none : Option α) = if j = k then none else none
    split <;> rfl
  | cons p d ih =>
    rw [List.map_cons, getD_cons, getD_cons, ih]
    by_cases e : p.1 = k
    · rw [if_pos e]
      by_cases ej : p.1 = j
      · have z : j = k := ej.symm.trans e
        simp [ej, z]
      · have z : ¬ j = k := fun z => ej (e.trans z.symm)
        simp [ej, z]
    · rw [if_neg e]
      by_cases ej : p.1 = j
      · have z : ¬ j = k := fun z => e (ej.trans z)
        simp [ej, z]
      · simp [ej]
theorem getD_put {d : List (Int × α)} {k j : Int} {x : α} : getD (putD d k x) j = if j = k then some x else getD d j := by
  unfold putD
  by_cases h : (d.any fun p => decide (p.1 = k)) = true
  · rw [if_pos h, getD_repl]
    by_cases e : j = k
    · rw [if_pos e, if_pos e]
      cases q : getD d j with
      | some y => rfl
      | none =>
        obtain ⟨p, hp, z⟩ := List.any_eq_true.mp h
        exact (getD_none.mp q (by rw [e, ← of_decide_eq_true z]; exact List.mem_map_of_mem hp)).elim
    · rw [if_neg e, if_neg e]
  · rw [if_neg h, getD_app]
    by_cases e : j = k
    · rw [if_pos e]
      have q : getD d j = none := getD_none.mpr fun z => by
        obtain ⟨p, hp, ep⟩ := List.mem_map.mp z
        exact h (List.any_eq_true.mpr ⟨p, hp, decide_eq_true (ep.trans e)⟩)
      rw [q, getD_cons, if_pos (show ((k, x) : Int × α).1 = j from e.symm)]
      rfl
    · rw [if_neg e, getD_cons, if_neg (show ¬ ((k, x) : Int × α).1 = j from fun z => e z.symm), getD_nil]
      cases getD d j <;> rfl
theorem putD_keys {d : List (Int × α)} {k : Int} {x : α} : (putD d k x).map (·.1) = if k ∈ d.map (·.1) then d.map (·.1) else d.map (·.1) ++ [k] := by
  unfold putD
  by_cases h : (d.any fun p => decide (p.1 = k)) = true
  · rw [if_pos h]
    obtain ⟨p, hp, e⟩ := List.any_eq_true.mp h
    have hm : k ∈ d.map (·.1) := List.mem_map.mpr ⟨p, hp, of_decide_eq_true e⟩
    rw [if_pos hm, List.map_map]
    exact List.map_congr_left fun q _ => by
      show (if q.1 = k then (q.1, x) else q).1 = q.1
      split <;> rfl
  · rw [if_neg h]
    have hm : k ∉ d.map (·.1) := fun z => by
      obtain ⟨p, hp, e⟩ := List.mem_map.mp z
      exact h (List.any_eq_true.mpr ⟨p, hp, decide_eq_true e⟩)
    rw [if_neg hm, List.map_append]
    rfl
theorem putD_nodup {d : List (Int × α)} {k : Int} {x : α} (h : (d.map (·.1)).Nodup) : ((putD d k x).map (·.1)).Nodup := by
  rw [putD_keys]
  split
  · exact h
  · exact nd_snoc h ‹_›
theorem putD_len {d : List (Int × α)} {k : Int} {x : α} : (putD d k x).length ≤ d.length + 1 := by
  unfold putD
  split
  · rw [List.length_map]
    exact Nat.le_succ _
  · rw [List.length_append]
    exact Nat.le_refl _
theorem getD_some {d : List (Int × α)} {k : Int} (h : k ∈ d.map (·.1)) : ∃ x, getD d k = some x := by
  cases e : getD d k with
  | none => exact (getD_none.mp e h).elim
  | some x => exact ⟨x, rfl⟩
theorem getD_of {d : List (Int × α)} {k : Int} {x : α} (hn : (d.map (·.1)).Nodup) (h : (k, x) ∈ d) : getD d k = some x := by
  induction d with
  | nil => cases h
  | cons p d ih =>
    obtain ⟨h1, h2⟩ := List.nodup_cons.mp hn
    rw [getD_cons]
    rcases List.mem_cons.mp h with rfl | h
    · rw [if_pos rfl]
    · have e : ¬ p.1 = k := fun z => h1 (List.mem_map.mpr ⟨(k, x), h, z.symm⟩)
      rw [if_neg e]
      exact ih h2 h
end
end Tf
/-! steps of a reading -/
namespace Tf
open PySem PySem.Spec PyProof.Rows L2
section
variable {K : PySem.W.Frag} {σ : L2.St} {H F : Hp} {m : Mem} {D : Ends} {t u : TS} {te ta tb : TE} {g : TG} {Q : VK} {c : TT} {v w : V} {i : Nat}
def NewT (xs : List V) (Q : VK) (H : Hp) : Prop := xs.length ≤ sizeLine ∧ ∀ p, H p = none → Q (.ref p) (upd H p (.tup xs))
def NewL (xs : List V) (Q : VK) (H : Hp) : Prop := xs.length ≤ sizeLine ∧ ∀ p, H p = none → Q (.ref p) (upd H p (.lst xs))
/-! statements -/
theorem x_seq (k : t { D with nx := u D } σ H) : tSeq t u D σ H := k
theorem x_asg (k : te σ H fun x H1 => g x σ H1 D.nx) : tAsg te g D σ H := k
theorem x_name {Q : L2.St → Hp → Prop} (k : Q (σ.set i (some v)) H) : gName i v σ H Q := k
theorem x_drop (k : te σ H fun _ H1 => D.nx σ H1) : tDrop te D σ H := k
theorem x_ret (k : te σ H D.rt) : tRet te D σ H := k
theorem x_retN (k : D.rt .non H) : tRetN D σ H := k
theorem x_next (k : D.nx σ H) : tNext D σ H := k
theorem x_brk (k : D.bk σ H) : tBreak D σ H := k
theorem x_cont (k : D.ct σ H) : tCont D σ H := k
theorem x_nx {f r b d} (k : f σ H) : Ends.nx ⟨f, r, b, d⟩ σ H := k
theorem x_rt {f r b d} (k : r v H) : Ends.rt ⟨f, r, b, d⟩ v H := k
theorem x_bk {f r b d} (k : b σ H) : Ends.bk ⟨f, r, b, d⟩ σ H := k
theorem x_ct {f r b d} (k : d σ H) : Ends.ct ⟨f, r, b, d⟩ σ H := k
theorem x_if (k : c σ H fun b H1 => if b = true then t D σ H1 else u D σ H1) : tIfS c t u D σ H := k
theorem x_ite {b : Bool} {A B : Prop} (h1 : b = true → A) (h2 : b = false → B) : if b = true then A else B := by
  cases b with
  | true => exact h1 rfl
  | false => exact h2 rfl
theorem x_iteD {p : Prop} [Decidable p] {A B : Prop} (h1 : p → A) (h2 : ¬ p → B) : if decide p = true then A else B := by
  by_cases h : p
  · rw [decide_eq_true h]
    exact h1 h
  · rw [decide_eq_false h]
    exact h2 h
theorem x_iteDn {p : Prop} [Decidable p] {A B : Prop} (h1 : ¬ p → A) (h2 : p → B) : if (!decide p) = true then A else B := by
  by_cases h : p
  · rw [decide_eq_true h]
    exact h2 h
  · rw [decide_eq_false h]
    exact h1 h
theorem x_iteT {b : Bool} {A B : Prop} (h : b = true) (k : A) : if b = true then A else B := by
  rw [if_pos h]
  exact k
theorem x_iteF {b : Bool} {A B : Prop} (h : b = false) (k : B) : if b = true then A else B := by
  rw [h]
  exact k
theorem x_aug {ti : TIp} (h : σ[i]? = some (some v)) (k : te σ H fun y H1 => ti v y H1 fun z H2 => D.nx (σ.set i (some z)) H2) : tAug i te ti D σ H := ⟨v, h, k⟩
theorem x_ipI {f : Int → Int → Int} {a b : Int} (k : Q (.int (f a b)) H) : ipI f (.int a) (.int b) H Q := ⟨a, b, rfl, rfl, k⟩
/-! expressions -/
theorem x_var (h : σ[i]? = some (some v)) (k : Q v H) : tVar i σ H Q := ⟨v, h, k⟩
theorem x_c (k : Q v H) : tC v σ H Q := k
theorem x_op {r : R2} (k : ta σ H fun x H1 => tb σ H1 fun y H2 => r x y H2 Q) : tOp r ta tb σ H Q := k
theorem x_un {r : V → Hp → VK → Prop} (k : ta σ H fun x H1 => r x H1 Q) : tUn r ta σ H Q := k
theorem x_I0 {f : Int → Int → V} {a b : Int} (k : Q (f a b) H) : rI0 f (.int a) (.int b) H Q := ⟨a, b, rfl, rfl, k⟩
theorem x_I {C : Int → Int → Prop} {f : Int → Int → V} {a b : Int} (h : C a b) (k : Q (f a b) H) : rI C f (.int a) (.int b) H Q := ⟨a, b, rfl, rfl, h, k⟩
theorem x_U {f : Int → V} {a : Int} (k : Q (f a) H) : rU f (.int a) H Q := ⟨a, rfl, k⟩
theorem x_eqI {a b : Int} (k : Q (.bl (decide (a = b))) H) : rEq (.int a) (.int b) H Q := ⟨rfl, by
  have e : decide (V.int a = V.int b) = decide (a = b) := by
    by_cases z : a = b
    · subst z
      simp
    · rw [decide_eq_false z, decide_eq_false fun q => z (V.int.inj q)]
  rw [e]
  exact k⟩
theorem x_neI {a b : Int} (k : Q (.bl (!decide (a = b))) H) : rNe (.int a) (.int b) H Q := ⟨rfl, by
  have e : decide (V.int a = V.int b) = decide (a = b) := by
    by_cases z : a = b
    · subst z
      simp
    · rw [decide_eq_false z, decide_eq_false fun q => z (V.int.inj q)]
  rw [e]
  exact k⟩
theorem x_isN (k : Q (.bl (decide (v = .non))) H) : (fun (x y : V) H Q => y = V.non ∧ Q (.bl (decide (x = .non))) H) v .non H Q := ⟨rfl, k⟩
def BQ (Q : Bool → Hp → Prop) : VK := fun x H' => ∃ b, x = .bl b ∧ Q b H'
theorem x_test {Q : Bool → Hp → Prop} (k : te σ H (BQ Q)) : tTest te σ H Q := k
theorem x_B {Q : Bool → Hp → Prop} (k : te σ H (BQ Q)) : tB te σ H Q := k
theorem x_bl {Q : Bool → Hp → Prop} {b : Bool} (k : Q b H) : BQ Q (.bl b) H := ⟨b, rfl, k⟩
theorem x_and {t u : TT} {Q : Bool → Hp → Prop} (k : t σ H fun b H1 => if b = true then u σ H1 Q else Q false H1) : tAnd t u σ H Q := k
theorem x_or {t u : TT} {Q : Bool → Hp → Prop} (k : t σ H fun b H1 => if b = true then Q true H1 else u σ H1 Q) : tOr t u σ H Q := k
theorem x_not {t : TT} {Q : Bool → Hp → Prop} (k : t σ H fun b H1 => Q (!b) H1) : tNot t σ H Q := k
theorem x_andV (k : ta σ H (BQ fun c H1 => if c = true then tb σ H1 Q else Q (.bl false) H1)) : tAndV ta tb σ H Q := k
theorem x_orV (k : ta σ H (BQ fun c H1 => if c = true then Q (.bl true) H1 else tb σ H1 Q)) : tOrV ta tb σ H Q := k
theorem x_notV (k : ta σ H (BQ fun c H1 => Q (.bl (!c)) H1)) : tNotV ta σ H Q := k
theorem x_ifE {t : TT} (k : t σ H fun c H1 => if c = true then ta σ H1 Q else tb σ H1 Q) : tIf t ta tb σ H Q := k
theorem x_nil {Q : List V → Hp → Prop} (k : Q [] H) : tNil σ H Q := k
theorem x_cons {tr : TA} {Q : List V → Hp → Prop} (k : ta σ H fun x H1 => tr σ H1 fun xs H2 => Q (x :: xs) H2) : tCons ta tr σ H Q := k
theorem x_tup {t : TA} (k : t σ H fun xs H1 => NewT xs Q H1) : tTup t σ H Q := k
theorem x_lst {t : TA} (k : t σ H fun xs H1 => NewL xs Q H1) : tLst t σ H Q := k
theorem x_bm {T : String} {r : V → List V → Hp → VK → Prop} {t : TA} (k : ta σ H fun x H1 => tyV K T x H1 ∧ t σ H1 fun xs H2 => r x xs H2 Q) : tBM K T r ta t σ H Q := k
theorem x_bm0 {T : String} {r : V → List V → Hp → VK → Prop} (k : ta σ H fun x H1 => tyV K T x H1 ∧ r x [] H1 Q) : tBM0 K T r ta σ H Q := k
theorem ty_list {a : Addr} {vs : List V} (h : H a = some (.lst vs)) : tyV K "list" (.ref a) H := .inl ⟨rfl, vs, .inl (.inl h)⟩
theorem x_append {a : Addr} {vs : List V} (O : Own H F ((a, .lst vs) :: m)) (hl : vs.length < 16777216) (k : ∀ H', Own H' F ((a, .lst (vs ++ [v])) :: m) → Q .non H') : rAppend (.ref a) [v] H Q :=
  ⟨a, vs, v, rfl, rfl, O.at0, by rw [sizeLine_eq]; exact hl, k _ (O.set _)⟩
theorem x_pop {a : Addr} {vs : List V} (O : Own H F ((a, .lst (vs ++ [v])) :: m)) (k : ∀ H', Own H' F ((a, .lst vs) :: m) → Q v H') : rPop (.ref a) [] H Q :=
  ⟨a, vs ++ [v], v, rfl, rfl, O.at0, by simp, by
    have e : (vs ++ [v]).dropLast = vs := by simp
    rw [e]
    exact k _ (O.set _)⟩
theorem x_extend {a b : Addr} {vs us : List V} (O : Own H F ((a, .lst vs) :: m)) (h : F b = some (.lst us)) (hl : vs.length + us.length ≤ 16777216) (k : ∀ H', Own H' F ((a, .lst (vs ++ us)) :: m) → Q .non H') : rExtend (.ref a) [.ref b] H Q :=
  ⟨a, b, vs, us, rfl, rfl, O.at0, O.frz h, by rw [sizeLine_eq]; exact hl, k _ (O.set _)⟩
def SFQ (K : PySem.W.Frag) (f : Str) (y : V) (R : Hp → Prop) : VK := fun x H2 => ∃ a C dx fs, x = .ref a ∧ H2 a = some (.ins C dx fs) ∧ Cls K C ∧ NoAttr K C f ∧ fs.length < 1000 ∧ R (upd H2 a (.ins C dx (putF f y fs)))
/-- o.f = e, o of our own -/
theorem x_setF {a C dx : Addr} {fs : List (Str × V)} {f : Str} {R : Hp → Prop} (O : Own H F ((a, .ins C dx fs) :: m)) (c : Cls K C) (n : NoAttr K C f) (hl : fs.length < 1000) (k : ∀ H', Own H' F ((a, .ins C dx (putF f v fs)) :: m) → R H') :
    SFQ K f v R (.ref a) H := ⟨a, C, dx, fs, rfl, O.at0, c, n, hl, k _ (O.set _)⟩
theorem x_sfld {tv : TE} {f : Str} (k : tv σ H fun y H1 => ta σ H1 (SFQ K f y (D.nx σ))) : sFld K ta tv f D σ H := k
theorem x_call {sp : Sp} {E : XK} {t : TA} (k : t σ H fun vs H1 => sp vs H1 Q E) : tCall sp [] E t σ H Q := by
  show t σ H fun vs H1 => sp (vs ++ []) H1 Q E
  have e : (fun vs H1 => sp (vs ++ []) H1 Q E) = fun vs H1 => sp vs H1 Q E := by
    funext vs H1
    rw [List.append_nil]
  rw [e]
  exact k
theorem x_cb {r : List V → Hp → VK → Prop} {t : TA} (k : t σ H fun vs H1 => r vs H1 Q) : tCB r t σ H Q := k
def FQ (K : PySem.W.Frag) (f : Str) (Q : VK) : VK := fun x H1 => ∃ a C dx fs v, x = .ref a ∧ H1 a = some (.ins C dx fs) ∧ Cls K C ∧ NoAttr K C f ∧ fs.lookup f = some v ∧ Q v H1
theorem x_fld {f : Str} (k : ta σ H (FQ K f Q)) : tFld K ta f σ H Q := k
theorem x_sub {to ti : TE} {ts : TSet} {Q : L2.St → Hp → Prop} (k : to σ H fun o H1 => ti σ H1 fun i H2 => ts o i v H2 fun H3 => Q σ H3) : gSub to ti ts v σ H Q := k
theorem x_setL {a : Addr} {j : Nat} {vs : List V} {z : Int} {Q : Hp → Prop} (O : Own H F ((a, .lst vs) :: m)) (hz : z = (j : Int)) (hj : j < vs.length)
    (k : Own (upd H a (.lst (vs.set j v))) F ((a, .lst (vs.set j v)) :: m) → Q (upd H a (.lst (vs.set j v)))) : rSetL (.ref a) (.int z) v H Q := by
  refine ⟨a, vs, z, j, rfl, rfl, O.at0, ?_, k (O.set _)⟩
  subst hz
  unfold ixN
  rw [if_pos (by omega), if_pos (by omega)]
  simp
/-! new things -/
theorem x_newPair {α β : Type} {R : Rp α} {S : Rp β} [MonoS R] [MonoS S] {x : α} {y : β} {a b : V} (O : Own H F m) (hR : R F x a) (hS : S F y b)
    (k : ∀ v H' F', Same F F' → Own H' F' m → rPair R S F' (x, y) v → Q v H') : NewT [a, b] Q H :=
  ⟨by show 2 ≤ sizeLine; decide, fun p hp => k _ _ _ (same_new (O.fresh hp)) (O.new hp) ⟨p, a, b, rfl, upd_same, up (same_new (O.fresh hp)) hR, up (same_new (O.fresh hp)) hS⟩⟩
theorem x_newTri {α β γ : Type} {R : Rp α} {S : Rp β} {T : Rp γ} [MonoS R] [MonoS S] [MonoS T] {x : α} {y : β} {z : γ} {a b c : V} (O : Own H F m) (hR : R F x a) (hS : S F y b) (hT : T F z c)
    (k : ∀ v H' F', Same F F' → Own H' F' m → rTri R S T F' (x, y, z) v → Q v H') : NewT [a, b, c] Q H :=
  ⟨by show 3 ≤ sizeLine; decide, fun p hp => k _ _ _ (same_new (O.fresh hp)) (O.new hp) ⟨p, a, b, c, rfl, upd_same, up (same_new (O.fresh hp)) hR, up (same_new (O.fresh hp)) hS, up (same_new (O.fresh hp)) hT⟩⟩
theorem x_newL {α : Type} {R : Rp α} [MonoS R] {xs : List α} {vs : List V} (O : Own H F m) (hl : vs.length ≤ 16777216) (hR : All2 (R F) xs vs)
    (k : ∀ v H' F', Same F F' → Own H' F' m → rList R F' xs v → Q v H') : NewL vs Q H :=
  ⟨by rw [sizeLine_eq]; exact hl, fun p hp => k _ _ _ (same_new (O.fresh hp)) (O.new hp) ⟨p, vs, rfl, upd_same, all2_up (same_new (O.fresh hp)) hR⟩⟩
theorem x_newT {α : Type} {R : Rp α} [MonoS R] {xs : List α} {vs : List V} (O : Own H F m) (hl : vs.length ≤ 16777216) (hR : All2 (R F) xs vs)
    (k : ∀ v H' F', Same F F' → Own H' F' m → rTup R F' xs v → Q v H') : NewT vs Q H :=
  ⟨by rw [sizeLine_eq]; exact hl, fun p hp => k _ _ _ (same_new (O.fresh hp)) (O.new hp) ⟨p, vs, rfl, upd_same, all2_up (same_new (O.fresh hp)) hR⟩⟩
/-- a new list of our own -/
theorem x_ownL {vs : List V} (O : Own H F m) (hl : vs.length ≤ 16777216) (k : ∀ p H', H p = none → Own H' F ((p, .lst vs) :: m) → Q (.ref p) H') : NewL vs Q H :=
  ⟨by rw [sizeLine_eq]; exact hl, fun p hp => k p _ hp (O.own hp)⟩
/-- a new dict of our own -/
theorem x_ownD (O : Own H F m) (k : ∀ p H', H p = none → Own H' F ((p, .dK []) :: m) → Q (.ref p) H') : tDNewK σ H Q := fun p hp => k p _ hp (O.own hp)
/-! reads -/
variable {α β γ : Type} {R : Rp α} {S : Rp β} {T : Rp γ}
theorem atI_of {vs : List V} {z : Int} {j : Nat} {w : V} (e : z = (j : Int)) (h : vs[j]? = some w) : atI vs z = some w := by
  rw [e]
  exact atI_nat h
theorem x_ixL {xs : List α} {z : Int} {j : Nat} {x : α} (O : Own H F m) (h : rList R F xs v) (e : z = (j : Int)) (hx : xs[j]? = some x) (k : ∀ w, R F x w → Q w H) : rIxL K v (.int z) H Q := by
  obtain ⟨a, vs, rfl, ha, r⟩ := h
  obtain ⟨w, hw, hr⟩ := r.get hx
  exact ⟨a, vs, z, w, rfl, rfl, .inl (.inl (O.frz ha)), atI_of e hw, k w hr⟩
theorem x_ixT {xs : List α} {z : Int} {j : Nat} {x : α} (O : Own H F m) (h : rTup R F xs v) (e : z = (j : Int)) (hx : xs[j]? = some x) (k : ∀ w, R F x w → Q w H) : rIxT K v (.int z) H Q := by
  obtain ⟨a, vs, rfl, ha, r⟩ := h
  obtain ⟨w, hw, hr⟩ := r.get hx
  exact ⟨a, vs, z, w, rfl, rfl, .inl (.inl (O.frz ha)), atI_of e hw, k w hr⟩
/-- a list of our own -/
theorem x_ixO {a : Addr} {vs : List V} {z : Int} {j : Nat} (O : Own H F ((a, .lst vs) :: m)) (e : z = (j : Int)) (hx : vs[j]? = some w) (k : Q w H) : rIxL K (.ref a) (.int z) H Q :=
  ⟨a, vs, z, w, rfl, rfl, .inl (.inl O.at0), atI_of e hx, k⟩
/-- the first, the second of a pair -/
theorem x_fst {p : α × β} (O : Own H F m) (h : rPair R S F p v) (k : ∀ w, R F p.1 w → Q w H) : rIxT K v (.int 0) H Q := by
  obtain ⟨a, u, w, rfl, ha, r, s⟩ := h
  exact ⟨a, [u, w], 0, u, rfl, rfl, .inl (.inl (O.frz ha)), rfl, k u r⟩
theorem x_snd {p : α × β} (O : Own H F m) (h : rPair R S F p v) (k : ∀ w, S F p.2 w → Q w H) : rIxT K v (.int 1) H Q := by
  obtain ⟨a, u, w, rfl, ha, r, s⟩ := h
  exact ⟨a, [u, w], 1, w, rfl, rfl, .inl (.inl (O.frz ha)), rfl, k w s⟩
theorem x_tri0 {p : α × β × γ} (O : Own H F m) (h : rTri R S T F p v) (k : ∀ w, R F p.1 w → Q w H) : rIxT K v (.int 0) H Q := by
  obtain ⟨a, u, w, z, rfl, ha, r, s, t⟩ := h
  exact ⟨a, [u, w, z], 0, u, rfl, rfl, .inl (.inl (O.frz ha)), rfl, k u r⟩
theorem x_tri1 {p : α × β × γ} (O : Own H F m) (h : rTri R S T F p v) (k : ∀ w, S F p.2.1 w → Q w H) : rIxT K v (.int 1) H Q := by
  obtain ⟨a, u, w, z, rfl, ha, r, s, t⟩ := h
  exact ⟨a, [u, w, z], 1, w, rfl, rfl, .inl (.inl (O.frz ha)), rfl, k w s⟩
theorem x_tri2 {p : α × β × γ} (O : Own H F m) (h : rTri R S T F p v) (k : ∀ w, T F p.2.2 w → Q w H) : rIxT K v (.int 2) H Q := by
  obtain ⟨a, u, w, z, rfl, ha, r, s, t⟩ := h
  exact ⟨a, [u, w, z], 2, z, rfl, rfl, .inl (.inl (O.frz ha)), rfl, k z t⟩
/-- a, b = e; for a, b in .. -/
theorem x_gcons {t : TG} {u : TGs} {r : List V} {Q : L2.St → Hp → Prop} (k : t v σ H fun σ' H' => u r σ' H' Q) : gCons t u (v :: r) σ H Q := ⟨v, r, rfl, k⟩
theorem x_gnil {Q : L2.St → Hp → Prop} (k : Q σ H) : gNil [] σ H Q := ⟨rfl, k⟩
theorem x_gpair {gs : TGs} {p : α × β} {Q : L2.St → Hp → Prop} (O : Own H F m) (h : rPair R S F p v) (k : ∀ a b, R F p.1 a → S F p.2 b → gs [a, b] σ H Q) : gTup K 2 gs v σ H Q := by
  obtain ⟨a, u, w, rfl, ha, r, s⟩ := h
  exact ⟨a, [u, w], rfl, .inl (.inl (O.frz ha)), rfl, k u w r s⟩
theorem x_gtri {gs : TGs} {p : α × β × γ} {Q : L2.St → Hp → Prop} (O : Own H F m) (h : rTri R S T F p v) (k : ∀ a b c, R F p.1 a → S F p.2.1 b → T F p.2.2 c → gs [a, b, c] σ H Q) : gTup K 3 gs v σ H Q := by
  obtain ⟨a, u, w, z, rfl, ha, r, s, t⟩ := h
  exact ⟨a, [u, w, z], rfl, .inl (.inl (O.frz ha)), rfl, k u w z r s t⟩
/-! len -/
def rLen (K : PySem.W.Frag) : List V → Hp → VK → Prop := fun xs H Q => ∃ p ys, xs = [.ref p] ∧ (SqL K H p ys ∨ SqT K H p ys) ∧ Q (.int ys.length) H
theorem cr_len {X : Cx} : CallR X (.builtin "len") (rLen X.K) := call_len_seq
theorem x_lenL {xs : List α} (O : Own H F m) (h : rList R F xs v) (k : Q (.int xs.length) H) : rLen K [v] H Q := by
  obtain ⟨a, vs, rfl, ha, r⟩ := h
  exact ⟨a, vs, rfl, .inl (.inl (.inl (O.frz ha))), by rw [← r.length]; exact k⟩
theorem x_lenT {xs : List α} (O : Own H F m) (h : rTup R F xs v) (k : Q (.int xs.length) H) : rLen K [v] H Q := by
  obtain ⟨a, vs, rfl, ha, r⟩ := h
  exact ⟨a, vs, rfl, .inr (.inl (.inl (O.frz ha))), by rw [← r.length]; exact k⟩
theorem x_lenS {xs : List α} (O : Own H F m) (h : rSeq R F xs v) (k : Q (.int xs.length) H) : rLen K [v] H Q := h.elim (fun h => x_lenL O h k) fun h => x_lenT O h k
theorem x_lenO {a : Addr} {vs : List V} (O : Own H F ((a, .lst vs) :: m)) (k : Q (.int vs.length) H) : rLen K [.ref a] H Q := ⟨a, vs, rfl, .inl (.inl (.inl O.at0)), k⟩
end
/-! ### built-ins, their readings by name -/
def rAbs : List V → Hp → VK → Prop := fun xs H Q => ∃ i, xs = [.int i] ∧ Q (.int (if i < 0 then -i else i)) H
theorem cr_abs {X : Cx} : CallR X (.builtin "abs") rAbs := call_abs
theorem x_abs {a : Int} {H : Hp} {Q : VK} (k : Q (.int (if a < 0 then -a else a)) H) : rAbs [.int a] H Q := ⟨a, rfl, k⟩
def rInt1 : List V → Hp → VK → Prop := fun xs H Q => (∃ i, xs = [.int i] ∧ Q (.int i) H) ∨ ∃ k, xs = [.bl k] ∧ Q (.int (if k then 1 else 0)) H
theorem cr_int {X : Cx} : CallR X (.type "int") rInt1 := call_int1
theorem x_int {a : Int} {H : Hp} {Q : VK} (k : Q (.int a) H) : rInt1 [.int a] H Q := .inl ⟨a, rfl, k⟩
theorem x_intB {b : Bool} {H : Hp} {Q : VK} (k : Q (.int (if b then 1 else 0)) H) : rInt1 [.bl b] H Q := .inr ⟨b, rfl, k⟩
def rMin2 : List V → Hp → VK → Prop := fun xs H Q => ∃ i j, xs = [.int i, .int j] ∧ Q (.int (if j < i then j else i)) H
theorem cr_min2 {X : Cx} (hc : X.calm = true) : CallR X (.builtin "min") rMin2 := call_min2 hc
theorem x_min2 {a b : Int} {H : Hp} {Q : VK} (k : Q (.int (if b < a then b else a)) H) : rMin2 [.int a, .int b] H Q := ⟨a, b, rfl, k⟩
def rMax2 : List V → Hp → VK → Prop := fun xs H Q => ∃ i j, xs = [.int i, .int j] ∧ Q (.int (if j > i then j else i)) H
theorem cr_max2 {X : Cx} (hc : X.calm = true) : CallR X (.builtin "max") rMax2 := call_max2 hc
theorem x_max2 {a b : Int} {H : Hp} {Q : VK} (k : Q (.int (if b > a then b else a)) H) : rMax2 [.int a, .int b] H Q := ⟨a, b, rfl, k⟩
def rIsNon : R2 := fun x y H Q => y = .non ∧ Q (.bl (decide (x = .non))) H
def rNotNon : R2 := fun x y H Q => y = .non ∧ Q (.bl (!decide (x = .non))) H
theorem op_isNon {X : Cx} : OpR X (compareOp .Is) rIsNon := op_isN
theorem op_notNon {X : Cx} : OpR X (compareOp .IsNot) rNotNon := op_notN
theorem x_isNon {v : V} {H : Hp} {Q : VK} (k : Q (.bl (decide (v = .non))) H) : rIsNon v .non H Q := ⟨rfl, k⟩
theorem x_notNon {v : V} {H : Hp} {Q : VK} (k : Q (.bl (!decide (v = .non))) H) : rNotNon v .non H Q := ⟨rfl, k⟩
/-- is True, is False: of any value -/
def rIsB : R2 := fun x y H Q => ∃ b, y = .bl b ∧ Q (.bl (decide (x = .bl b))) H
theorem op_isB {X : Cx} : OpR X (compareOp .Is) rIsB := by
  intro pins s σ H x y v u Q I rx ry h
  obtain ⟨b, rfl, q⟩ := h
  cases (show u = Value.bool b from ry)
  cases x with
  | bl a =>
    cases (show v = Value.bool a from rx)
    by_cases e : a = b
    · subst e
      exact wpAny_is_self rfl ⟨.bl true, H, I, rfl, by simpa using q⟩
    · exact wpAny_is_other rfl (fun z => e (Value.bool.inj z)) ⟨.bl false, H, I, rfl, by simpa [e] using q⟩
  | non =>
    cases (show v = Value.none from rx)
    exact wpAny_pure ⟨.bl false, H, I, rfl, by simpa using q⟩
  | int i =>
    obtain ⟨t, rfl⟩ := rx
    exact wpAny_pure ⟨.bl false, H, I, rfl, by simpa using q⟩
  | str i =>
    obtain ⟨t, rfl⟩ := rx
    exact wpAny_pure ⟨.bl false, H, I, rfl, by simpa using q⟩
  | byt i =>
    obtain ⟨t, rfl⟩ := rx
    exact wpAny_pure ⟨.bl false, H, I, rfl, by simpa using q⟩
  | flt i =>
    obtain ⟨t, rfl⟩ := rx
    exact wpAny_pure ⟨.bl false, H, I, rfl, by simpa using q⟩
  | ref a =>
    cases (show v = Value.ref a from rx)
    exact wpAny_pure ⟨.bl false, H, I, rfl, by simpa using q⟩
  | ty n =>
    cases (show v = Value.type n from rx)
    exact wpAny_pure ⟨.bl false, H, I, rfl, by simpa using q⟩
theorem x_isB {v : V} {b : Bool} {H : Hp} {Q : VK} (k : Q (.bl (decide (v = .bl b))) H) : rIsB v (.bl b) H Q := ⟨b, rfl, k⟩
/-- list(x) of a list or tuple; tuple(x) -/
def rListOf (K : PySem.W.Frag) : List V → Hp → VK → Prop := fun xs H Q => ∃ p ys, xs = [.ref p] ∧ (SqL K H p ys ∨ SqT K H p ys) ∧ ∀ l, H l = none → Q (.ref l) (upd H l (.lst ys))
theorem cr_list {X : Cx} : CallR X (.type "list") (rListOf X.K) := call_list_of
def rTupOf (K : PySem.W.Frag) : List V → Hp → VK → Prop := fun xs H Q => ∃ p ys, xs = [.ref p] ∧ ((SqL K H p ys ∧ ∀ l, H l = none → Q (.ref l) (upd H l (.tup ys))) ∨ (SqT K H p ys ∧ Q (.ref p) H))
theorem cr_tup {X : Cx} : CallR X (.type "tuple") (rTupOf X.K) := call_tuple_of
section
variable {K : PySem.W.Frag} {H F : Hp} {m : Mem} {v : V} {α : Type} {R : Rp α} {xs : List α} {Q : VK}
theorem x_listL [MonoS R] (O : Own H F m) (h : rList R F xs v) (k : ∀ w H' F', Same F F' → Own H' F' m → rList R F' xs w → Q w H') : rListOf K [v] H Q := by
  obtain ⟨a, vs, rfl, ha, r⟩ := h
  exact ⟨a, vs, rfl, .inl (.inl (.inl (O.frz ha))), fun l hl => k _ _ _ (same_new (O.fresh hl)) (O.new hl) ⟨l, vs, rfl, upd_same, all2_up (same_new (O.fresh hl)) r⟩⟩
theorem x_listT [MonoS R] (O : Own H F m) (h : rTup R F xs v) (k : ∀ w H' F', Same F F' → Own H' F' m → rList R F' xs w → Q w H') : rListOf K [v] H Q := by
  obtain ⟨a, vs, rfl, ha, r⟩ := h
  exact ⟨a, vs, rfl, .inr (.inl (.inl (O.frz ha))), fun l hl => k _ _ _ (same_new (O.fresh hl)) (O.new hl) ⟨l, vs, rfl, upd_same, all2_up (same_new (O.fresh hl)) r⟩⟩
theorem x_listS [MonoS R] (O : Own H F m) (h : rSeq R F xs v) (k : ∀ w H' F', Same F F' → Own H' F' m → rList R F' xs w → Q w H') : rListOf K [v] H Q := h.elim (fun h => x_listL O h k) fun h => x_listT O h k
theorem x_tupL [MonoS R] (O : Own H F m) (h : rList R F xs v) (k : ∀ w H' F', Same F F' → Own H' F' m → rTup R F' xs w → Q w H') : rTupOf K [v] H Q := by
  obtain ⟨a, vs, rfl, ha, r⟩ := h
  exact ⟨a, vs, rfl, .inl ⟨.inl (.inl (O.frz ha)), fun l hl => k _ _ _ (same_new (O.fresh hl)) (O.new hl) ⟨l, vs, rfl, upd_same, all2_up (same_new (O.fresh hl)) r⟩⟩⟩
theorem x_tupT (O : Own H F m) (h : rTup R F xs v) (k : Q v H) : rTupOf K [v] H Q := by
  obtain ⟨a, vs, rfl, ha, r⟩ := h
  exact ⟨a, vs, rfl, .inr ⟨.inl (.inl (O.frz ha)), k⟩⟩
/-- xs + ys -/
theorem x_cat {ys : List α} {w : V} [MonoS R] (O : Own H F m) (h : rList R F xs v) (h2 : rList R F ys w) (hl : xs.length + ys.length ≤ 16777216) (k : ∀ w H' F', Same F F' → Own H' F' m → rList R F' (xs ++ ys) w → Q w H') : rCat v w H Q := by
  obtain ⟨a, vs, rfl, ha, r⟩ := h
  obtain ⟨b, us, rfl, hb, r2⟩ := h2
  exact ⟨a, b, vs, us, rfl, rfl, O.frz ha, O.frz hb, by rw [← r.length, ← r2.length, sizeLine_eq]; exact hl, fun l hl => k _ _ _ (same_new (O.fresh hl)) (O.new hl) ⟨l, _, rfl, upd_same, (all2_up (same_new (O.fresh hl)) r).app (all2_up (same_new (O.fresh hl)) r2)⟩⟩
/-- [x] * n -/
theorem x_rep1 {x : α} {z : Int} {n : Nat} [MonoS R] (O : Own H F m) (h : rList R F [x] v) (hz : z = (n : Int)) (hl : n ≤ 16777216) (k : ∀ w H' F' vs, H w = none → Same F F' → Own H' F' ((w, .lst vs) :: m) → All2 (R F') (List.replicate n x) vs → Q (.ref w) H') : rRep v (.int z) H Q := by
  obtain ⟨a, vs, rfl, ha, r⟩ := h
  cases r with
  | cons r t =>
    cases t
    rename_i w
    subst hz
    refine ⟨a, (n : Int), [w], rfl, rfl, O.frz ha, by omega, by omega, by rw [sizeLine_eq]; simpa using hl, fun l hl => ?_⟩
    refine k l _ F (List.replicate n w) hl (Same.refl F) ?_ (All2.rep r n)
    have e : (List.replicate (n : Int).toNat [w]).flatten = List.replicate n w := by simp
    first
      | (rw [e]; exact O.own hl)
      | exact O.own hl
end
/-! ### methods, truth, keywords, displays -/
def MQ (C : Addr) (nm : Str) (sp : Sp) (E : XK) (t : TA) (σ : L2.St) (Q : VK) : VK := fun x H1 => ∃ a dx fs, x = .ref a ∧ H1 a = some (.ins C dx fs) ∧ fs.lookup nm = none ∧ t σ H1 fun vs H2 => sp (x :: (vs ++ [])) H2 Q E
theorem x_meth {C : Addr} {nm : Str} {sp : Sp} {E : XK} {ta : TE} {t : TA} {σ : L2.St} {H : Hp} {Q : VK} (k : ta σ H (MQ C nm sp E t σ Q)) : tMeth C nm sp [] E ta t σ H Q := k
theorem mq_of {C a dx : Addr} {nm : Str} {sp : Sp} {E : XK} {t : TA} {σ : L2.St} {H : Hp} {Q : VK} {fs : List (Str × V)} (h : H a = some (.ins C dx fs)) (l : fs.lookup nm = none) (k : t σ H fun vs H2 => sp (.ref a :: vs) H2 Q E) : MQ C nm sp E t σ Q (.ref a) H := by
  refine ⟨a, dx, fs, rfl, h, l, ?_⟩
  have e : (fun vs H2 => sp (.ref a :: (vs ++ [])) H2 Q E) = fun vs H2 => sp (.ref a :: vs) H2 Q E := by
    funext vs H2
    rw [List.append_nil]
  rw [e]
  exact k
def TQ (K : PySem.W.Frag) (Q : Bool → Hp → Prop) : VK := fun x H' => ∃ k, TruV K x H' k ∧ Q k H'
def tTru (K : PySem.W.Frag) (ta : TE) : TT := fun σ H Q => ta σ H (TQ K Q)
theorem pt_tru {X : Cx} {a : Expr} {ta : TE} (ha : PE X a ta) (he : ∀ whole, isTrue a X.env whole = (do let v ← whole; standAt a.pos; holding [v] (truthy v))) : PT X a (tTru X.K ta) := pt_truth ha he
theorem x_tru {K : PySem.W.Frag} {ta : TE} {σ : L2.St} {H : Hp} {Q : Bool → Hp → Prop} (k : ta σ H (TQ K Q)) : tTru K ta σ H Q := k
theorem tq_list {K : PySem.W.Frag} {a : Addr} {vs : List V} {H : Hp} {Q : Bool → Hp → Prop} (h : H a = some (.lst vs)) (k : Q (!vs.isEmpty) H) : TQ K Q (.ref a) H := ⟨_, .inl ⟨vs, .inl (.inl h), rfl⟩, k⟩
theorem x_ckw {r : List V → List V → Hp → VK → Prop} {t tk : TA} {σ : L2.St} {H : Hp} {Q : VK} (k : t σ H fun vs H1 => tk σ H1 fun zs H2 => r vs zs H2 Q) : tCKw r t tk σ H Q := k
/-- {a: b} of two ints -/
theorem x_disp1 {a b : Int} {σ : L2.St} {H F : Hp} {m : Mem} {Q : VK} (O : Own H F m) (k : ∀ p H', H p = none → Own H' F ((p, .dK [(Sum.inl a, .int b)]) :: m) → Q (.ref p) H') : tDisp [(tC (.int a), tC (.int b))] σ H Q := fun p hp =>
  show _ ∧ _ from ⟨upd_same, [(Sum.inl a, .int b)], rfl, by show 1 ≤ 15; decide, by
    rw [upd_upd]
    exact k p _ hp (O.own hp)⟩
/-- a list, a dict that is made: of our own -/
theorem x_dnew {σ : L2.St} {H F : Hp} {m : Mem} {Q : VK} (O : Own H F m) (k : ∀ p H', H p = none → Own H' F ((p, .dK []) :: m) → Q (.ref p) H') : tDNewK σ H Q := fun p hp => k p _ hp (O.own hp)
/-! ### ways that meet -/
def tCut (t u : TS) : TS := fun D σ H => ∃ Mid : L2.St → Hp → Prop, t { D with nx := Mid } σ H ∧ ∀ σ' H', Mid σ' H' → u D σ' H'
theorem pss_cut {X : Cx} {st : Stmt} {rest : List Stmt} {t u : TS} (h1 : PS X st t) (h2 : PSs X rest u) : PSs X (st :: rest) (tCut t u) := by
  refine ⟨fun pins s σ H D I h => ?_⟩
  obtain ⟨Mid, hm, hu⟩ := h
  refine wpAny_execs_cons (thn (h1.run pins s σ H { D with nx := Mid } I hm) fun f s1 q => ?_)
  cases f with
  | next =>
    obtain ⟨σ', H', I', q⟩ := q
    exact h2.run pins s1 σ' H' D I' (hu σ' H' q)
  | ret v => exact q
  | brk => exact q
  | cont => exact q
theorem x_cut {t u : TS} {D : Ends} {σ : L2.St} {H : Hp} (Mid : L2.St → Hp → Prop) (k : t { D with nx := Mid } σ H) (k2 : ∀ σ' H', Mid σ' H' → u D σ' H') : tCut t u D σ H := ⟨Mid, k, k2⟩
/-! ### loops -/
/-- what a loop's word says at a heap: F has grown, the cells are m', P holds -/
def LI (P : Nat → L2.St → Hp → Mem → Prop) (F : Hp) (i : Nat) : L2.St → Hp → Prop := fun σ H => ∃ F' m', Same F F' ∧ Own H F' m' ∧ P i σ F' m'
theorem LI.mk {P : Nat → L2.St → Hp → Mem → Prop} {F F' H : Hp} {m' : Mem} {i : Nat} {σ : L2.St} (s : Same F F') (O : Own H F' m') (p : P i σ F' m') : LI P F i σ H := ⟨F', m', s, O, p⟩
def ForW (J : It) (g : TG) (tb : TS) (D : Ends) (σ : L2.St) (H : Hp) : Prop := ∃ W : Nat → Nat → L2.St → Hp → Prop, (∃ m, W 0 m σ H) ∧ ∀ i m σ H, W i m σ H →
  (J.stop i H ∧ D.nx σ H) ∨ (J.go i H ∧ ∃ N : L2.St → Hp → Prop, (∀ σ' H', N σ' H' → ∃ m', m' < m ∧ W (i + 1) m' σ' H') ∧ ∀ x H', J.yld i H x H' → g x σ H' fun σ2 H2 => tb { D with nx := N, ct := N, bk := D.nx } σ2 H2)
def FL (K : PySem.W.Frag) (g : TG) (tb : TS) (D : Ends) (σ : L2.St) : VK := fun v H1 => ∃ a, v = .ref a ∧ (∃ xs, SqL K H1 a xs) ∧ ForW (Itl K a) g tb D σ H1
def FT (K : PySem.W.Frag) (g : TG) (tb : TS) (D : Ends) (σ : L2.St) : VK := fun v H1 => ∃ a, v = .ref a ∧ (∃ xs, SqT K H1 a xs) ∧ ForW (Itt K a) g tb D σ H1
section
variable {K : PySem.W.Frag} {σ : L2.St} {H F : Hp} {m : Mem} {D : Ends} {tb : TS} {g : TG} {v : V} {tl : TE} {ta : TA} {α : Type} {R : Rp α} {xs : List α}
theorem x_forL (k : tl σ H (FL K g tb D σ)) : tFor (iList K tl) g tb D σ H := k
theorem x_forT (k : tl σ H (FT K g tb D σ)) : tFor (iTup K tl) g tb D σ H := k
theorem x_doL [MonoS R] (O : Own H F m) (h : rList R F xs v) (P : Nat → L2.St → Hp → Mem → Prop) (h0 : P 0 σ F m)
    (hs : ∀ i x w σ' H' F' m', xs[i]? = some x → R F' x w → Same F F' → Own H' F' m' → P i σ' F' m' → g w σ' H' fun σ2 H2 => tb { D with nx := LI P F (i + 1), ct := LI P F (i + 1), bk := D.nx } σ2 H2)
    (hd : ∀ σ' H' F' m', Same F F' → Own H' F' m' → P xs.length σ' F' m' → D.nx σ' H') : FL K g tb D σ v H := by
  obtain ⟨a, vs, rfl, ha, r⟩ := h
  refine ⟨a, rfl, ⟨vs, .inl (.inl (O.frz ha))⟩, for_list (LI P F) ⟨F, m, Same.refl F, O, h0⟩ (fun i σ' H' _ ⟨F', m', s, O', _⟩ => .inl (.inl (O'.frz (s _ _ ha)))) (fun i w σ' H' hi ⟨F', m', s, O', p⟩ => ?_) fun σ' H' ⟨F', m', s, O', p⟩ => hd σ' H' F' m' s O' (by rw [r.length]; exact p)⟩
  obtain ⟨x, hx, hr⟩ := r.get' hi
  exact hs i x w σ' H' F' m' hx (up s hr) s O' p
theorem x_doT [MonoS R] (O : Own H F m) (h : rTup R F xs v) (P : Nat → L2.St → Hp → Mem → Prop) (h0 : P 0 σ F m)
    (hs : ∀ i x w σ' H' F' m', xs[i]? = some x → R F' x w → Same F F' → Own H' F' m' → P i σ' F' m' → g w σ' H' fun σ2 H2 => tb { D with nx := LI P F (i + 1), ct := LI P F (i + 1), bk := D.nx } σ2 H2)
    (hd : ∀ σ' H' F' m', Same F F' → Own H' F' m' → P xs.length σ' F' m' → D.nx σ' H') : FT K g tb D σ v H := by
  obtain ⟨a, vs, rfl, ha, r⟩ := h
  refine ⟨a, rfl, ⟨vs, .inl (.inl (O.frz ha))⟩, for_tup (LI P F) ⟨F, m, Same.refl F, O, h0⟩ (fun i σ' H' _ ⟨F', m', s, O', _⟩ => .inl (.inl (O'.frz (s _ _ ha)))) (fun i w σ' H' hi ⟨F', m', s, O', p⟩ => ?_) fun σ' H' ⟨F', m', s, O', p⟩ => hd σ' H' F' m' s O' (by rw [r.length]; exact p)⟩
  obtain ⟨x, hx, hr⟩ := r.get' hi
  exact hs i x w σ' H' F' m' hx (up s hr) s O' p
/-- range -/
def FR1 (g : TG) (tb : TS) (D : Ends) (σ : L2.St) : List V → Hp → Prop := fun vs H1 => ∃ j : Int, vs = [.int j] ∧ -(2 ^ 62) ≤ j ∧ j < 2 ^ 62 ∧ ForW (Itr 0 j.toNat) g tb D σ H1
def FR2 (g : TG) (tb : TS) (D : Ends) (σ : L2.St) : List V → Hp → Prop := fun vs H1 => ∃ i j : Int, vs = [.int i, .int j] ∧ (-(2 ^ 62) ≤ i ∧ i < 2 ^ 62 ∧ -(2 ^ 62) ≤ j ∧ j < 2 ^ 62) ∧ ForW (Itr i (j - i).toNat) g tb D σ H1
def FR3 (g : TG) (tb : TS) (D : Ends) (σ : L2.St) : List V → Hp → Prop := fun vs H1 => ∃ (i j c : Int) (n : Nat), vs = [.int i, .int j, .int c] ∧ RgC i j c n ∧ ForW (Itc i c n) g tb D σ H1
theorem x_forR1 (k : ta σ H (FR1 g tb D σ)) : tFor (iRng1 ta) g tb D σ H := k
theorem x_forR2 (k : ta σ H (FR2 g tb D σ)) : tFor (iRng2 ta) g tb D σ H := k
theorem x_forR3 (k : ta σ H (FR3 g tb D σ)) : tFor (iRng3 ta) g tb D σ H := k
theorem x_doR1 {z : Int} {n : Nat} (O : Own H F m) (hz : z.toNat = n) (h1 : -(2 ^ 62) ≤ z) (h2 : z < 2 ^ 62) (P : Nat → L2.St → Hp → Mem → Prop) (h0 : P 0 σ F m)
    (hs : ∀ i σ' H' F' m', i < n → Same F F' → Own H' F' m' → P i σ' F' m' → g (.int (i : Int)) σ' H' fun σ2 H2 => tb { D with nx := LI P F (i + 1), ct := LI P F (i + 1), bk := D.nx } σ2 H2)
    (hd : ∀ σ' H' F' m', Same F F' → Own H' F' m' → P n σ' F' m' → D.nx σ' H') : FR1 g tb D σ [.int z] H := by
  subst hz
  refine ⟨z, rfl, h1, h2, for_range (LI P F) ⟨F, m, Same.refl F, O, h0⟩ (fun i σ' H' hi ⟨F', m', s, O', p⟩ => ?_) fun σ' H' ⟨F', m', s, O', p⟩ => hd σ' H' F' m' s O' p⟩
  rw [Int.zero_add]
  exact hs i σ' H' F' m' hi s O' p
theorem x_doR2 {lo z : Int} {n : Nat} (O : Own H F m) (hz : (z - lo).toNat = n) (hb : -(2 ^ 62) ≤ lo ∧ lo < 2 ^ 62 ∧ -(2 ^ 62) ≤ z ∧ z < 2 ^ 62) (P : Nat → L2.St → Hp → Mem → Prop) (h0 : P 0 σ F m)
    (hs : ∀ i σ' H' F' m', i < n → Same F F' → Own H' F' m' → P i σ' F' m' → g (.int (lo + (i : Int))) σ' H' fun σ2 H2 => tb { D with nx := LI P F (i + 1), ct := LI P F (i + 1), bk := D.nx } σ2 H2)
    (hd : ∀ σ' H' F' m', Same F F' → Own H' F' m' → P n σ' F' m' → D.nx σ' H') : FR2 g tb D σ [.int lo, .int z] H := by
  subst hz
  exact ⟨lo, z, rfl, hb, for_range (LI P F) ⟨F, m, Same.refl F, O, h0⟩ (fun i σ' H' hi ⟨F', m', s, O', p⟩ => hs i σ' H' F' m' hi s O' p) fun σ' H' ⟨F', m', s, O', p⟩ => hd σ' H' F' m' s O' p⟩
/-- range(n - 1, -1, -1) -/
theorem x_doDown {n : Nat} {lo : Int} (O : Own H F m) (hn : lo = (n : Int) - 1) (hb : n < 2 ^ 61) (P : Nat → L2.St → Hp → Mem → Prop) (h0 : P 0 σ F m)
    (hs : ∀ i j σ' H' F' m', i + j + 1 = n → Same F F' → Own H' F' m' → P i σ' F' m' → g (.int (j : Int)) σ' H' fun σ2 H2 => tb { D with nx := LI P F (i + 1), ct := LI P F (i + 1), bk := D.nx } σ2 H2)
    (hd : ∀ σ' H' F' m', Same F F' → Own H' F' m' → P n σ' F' m' → D.nx σ' H') : FR3 g tb D σ [.int lo, .int (-1), .int (-1)] H := by
  subst hn
  refine ⟨(n : Int) - 1, -1, -1, n, rfl, ?_, for_rangeC (LI P F) ⟨F, m, Same.refl F, O, h0⟩ (fun i σ' H' hi ⟨F', m', s, O', p⟩ => ?_) fun σ' H' ⟨F', m', s, O', p⟩ => hd σ' H' F' m' s O' p⟩
  · have e := RgC.neg (i := (n : Int) - 1) (j := -1) (by omega) (by omega) (by omega) (by omega)
    have e2 : ((n : Int) - 1 - -1).toNat = n := by omega
    rw [e2] at e
    exact e
  · obtain ⟨j, hj⟩ : ∃ j, i + j + 1 = n := ⟨n - 1 - i, by omega⟩
    have e : (n : Int) - 1 + (i : Nat) * -1 = (j : Int) := by omega
    rw [e]
    exact hs i j σ' H' F' m' hj s O' p
/-- while, a word with a falling number -/
theorem x_while {c : TT} (O : Own H F m) (P : Nat → L2.St → Hp → Mem → Prop) (n0 : Nat) (h0 : P n0 σ F m)
    (hs : ∀ n σ' H' F' m', Same F F' → Own H' F' m' → P n σ' F' m' → c σ' H' fun b H1 => if b = true then ∃ N : L2.St → Hp → Prop, (∀ σ2 H2, N σ2 H2 → ∃ k, k < n ∧ LI P F k σ2 H2) ∧ tb { D with nx := N, ct := N, bk := D.nx } σ' H1 else D.nx σ' H1) : tWhile c tb D σ H :=
  ⟨LI P F, ⟨n0, F, m, Same.refl F, O, h0⟩, fun n σ' H' ⟨F', m', s, O', p⟩ => hs n σ' H' F' m' s O' p⟩
end
/-! ### list comprehensions -/
/-- the word of a comprehension: D holds acc, which stands for ys -/
def LcP {β : Type} (S : Rp β) (P : Nat → Hp → Mem → List β → Prop) (F : Hp) (D : Addr) (i : Nat) (H : Hp) : Prop :=
  ∃ F' m' acc ys, Same F F' ∧ Own H F' ((D, .lst acc) :: m') ∧ All2 (S F') ys acc ∧ ys.length ≤ i ∧ P i F' m' ys
def LcW (J : It) (g : TG) (tt : TT) (te : TE) (vs : List Nat) (σ : L2.St) (Q : VK) (H1 : Hp) : Prop := ∀ D, H1 D = none → ∃ W : Nat → Nat → Hp → Prop, (∃ m, W 0 m (upd H1 D (.lst []))) ∧ ∀ i m H, W i m H →
  (J.stop i H ∧ Q (.ref D) H) ∨ (J.go i H ∧ ∃ Nx : Hp → Prop, (∀ H', Nx H' → ∃ m', m' < m ∧ W (i + 1) m' H') ∧ ∀ x H', J.yld i H x H' → g x (wipe σ vs) H' fun σ2 H2 => wipe σ2 vs = wipe σ vs ∧ tt σ2 H2 fun b H3 =>
    if b = true then te σ2 H3 fun y H4 => ∃ acc, H4 D = some (.lst acc) ∧ acc.length < sizeLine ∧ Nx (upd H4 D (.lst (acc ++ [y]))) else Nx H3)
def CL (K : PySem.W.Frag) (g : TG) (tt : TT) (te : TE) (vs : List Nat) (σ : L2.St) (Q : VK) : VK := fun v H1 => ∃ a, v = .ref a ∧ (∃ xs, SqL K H1 a xs) ∧ LcW (Itl K a) g tt te vs σ Q H1
def CT (K : PySem.W.Frag) (g : TG) (tt : TT) (te : TE) (vs : List Nat) (σ : L2.St) (Q : VK) : VK := fun v H1 => ∃ a, v = .ref a ∧ (∃ xs, SqT K H1 a xs) ∧ LcW (Itt K a) g tt te vs σ Q H1
def CR1 (g : TG) (tt : TT) (te : TE) (vs : List Nat) (σ : L2.St) (Q : VK) : List V → Hp → Prop := fun us H1 => ∃ j : Int, us = [.int j] ∧ -(2 ^ 62) ≤ j ∧ j < 2 ^ 62 ∧ LcW (Itr 0 j.toNat) g tt te vs σ Q H1
section
variable {K : PySem.W.Frag} {σ : L2.St} {H F : Hp} {m : Mem} {g : TG} {tt : TT} {te : TE} {vs : List Nat} {v : V} {tl : TE} {ta : TA} {α β : Type} {R : Rp α} {S : Rp β} {xs : List α} {Q : VK}
theorem x_lcL (k : tl σ H (CL K g tt te vs σ Q)) : tLc (iList K tl) g tt te vs σ H Q := k
theorem x_lcT (k : tl σ H (CT K g tt te vs σ Q)) : tLc (iTup K tl) g tt te vs σ H Q := k
theorem x_lcR1 (k : ta σ H (CR1 g tt te vs σ Q)) : tLc (iRng1 ta) g tt te vs σ H Q := k
theorem x_yes {Q : Bool → Hp → Prop} (k : Q true H) : tYes σ H Q := k
/-- an item is kept -/
theorem x_keep {P : Nat → Hp → Mem → List β → Prop} {F0 F4 H4 : Hp} {D : Addr} {acc : List V} {m4 : Mem} {ys : List β} {z : β} {y : V} {i : Nat} (O : Own H4 F4 ((D, .lst acc) :: m4)) (s : Same F0 F4) (hz : S F4 z y) (ha : All2 (S F4) ys acc) (hl : ys.length ≤ i) (hi : i < 16777216)
    (p : P (i + 1) F4 m4 (ys ++ [z])) : ∃ acc, H4 D = some (.lst acc) ∧ acc.length < sizeLine ∧ LcP S P F0 D (i + 1) (upd H4 D (.lst (acc ++ [y]))) :=
  ⟨acc, O.at0, by rw [← ha.length, sizeLine_eq]; omega, F4, m4, acc ++ [y], ys ++ [z], s, O.set _, ha.snoc hz, by rw [List.length_append, List.length_singleton]; omega, p⟩
theorem x_skip {P : Nat → Hp → Mem → List β → Prop} {F0 F4 H4 : Hp} {D : Addr} {acc : List V} {m4 : Mem} {ys : List β} {i : Nat} (O : Own H4 F4 ((D, .lst acc) :: m4)) (s : Same F0 F4) (ha : All2 (S F4) ys acc) (hl : ys.length ≤ i) (p : P (i + 1) F4 m4 ys) : LcP S P F0 D (i + 1) H4 :=
  ⟨F4, m4, acc, ys, s, O, ha, Nat.le_succ_of_le hl, p⟩
theorem x_docL [MonoS R] [MonoS S] (O : Own H F m) (h : rList R F xs v) (P : Nat → Hp → Mem → List β → Prop) (h0 : P 0 F m [])
    (hs : ∀ D acc i x w H' F' m' ys, xs[i]? = some x → R F' x w → Same F F' → Own H' F' ((D, .lst acc) :: m') → All2 (S F') ys acc → ys.length ≤ i → P i F' m' ys →
      g w (wipe σ vs) H' fun σ2 H2 => wipe σ2 vs = wipe σ vs ∧ tt σ2 H2 fun b H3 => if b = true then te σ2 H3 fun y H4 => ∃ acc, H4 D = some (.lst acc) ∧ acc.length < sizeLine ∧ LcP S P F D (i + 1) (upd H4 D (.lst (acc ++ [y]))) else LcP S P F D (i + 1) H3)
    (hd : ∀ v' H' F' m' ys, Same F F' → Own H' F' m' → rList S F' ys v' → P xs.length F' m' ys → Q v' H') (hP : ∀ F1 F2 m1 ys i, Same F1 F2 → P i F1 m1 ys → P i F2 m1 ys := by exact fun _ _ _ _ _ _ h => h) : CL K g tt te vs σ Q v H := by
  obtain ⟨a, us, rfl, ha, r⟩ := h
  refine ⟨a, rfl, ⟨us, .inl (.inl (O.frz ha))⟩, fun D hD => lc_list (LcP S P F D) ⟨F, m, [], [], Same.refl F, O.own hD, .nil, Nat.zero_le _, h0⟩ (fun i H' _ ⟨F', m', _, _, s, O', _⟩ => .inl (.inl (O'.frz (s _ _ ha)))) (fun i w H' hi ⟨F', m', acc, ys, s, O', hy, hl, p⟩ => ?_) fun H' ⟨F', m', acc, ys, s, O', hy, hl, p⟩ => ?_⟩
  · obtain ⟨x, hx, hr⟩ := r.get' hi
    exact hs D acc i x w H' F' m' ys hx (up s hr) s O' hy hl p
  · have s2 := O'.freeze_same
    exact hd (.ref D) H' (upd F' D (.lst acc)) m' ys (s.trans s2) O'.freeze ⟨D, acc, rfl, upd_same, all2_up s2 hy⟩ (hP _ _ _ _ _ s2 (by rw [r.length]; exact p))
theorem x_docT [MonoS R] [MonoS S] (O : Own H F m) (h : rTup R F xs v) (P : Nat → Hp → Mem → List β → Prop) (h0 : P 0 F m [])
    (hs : ∀ D acc i x w H' F' m' ys, xs[i]? = some x → R F' x w → Same F F' → Own H' F' ((D, .lst acc) :: m') → All2 (S F') ys acc → ys.length ≤ i → P i F' m' ys →
      g w (wipe σ vs) H' fun σ2 H2 => wipe σ2 vs = wipe σ vs ∧ tt σ2 H2 fun b H3 => if b = true then te σ2 H3 fun y H4 => ∃ acc, H4 D = some (.lst acc) ∧ acc.length < sizeLine ∧ LcP S P F D (i + 1) (upd H4 D (.lst (acc ++ [y]))) else LcP S P F D (i + 1) H3)
    (hd : ∀ v' H' F' m' ys, Same F F' → Own H' F' m' → rList S F' ys v' → P xs.length F' m' ys → Q v' H') (hP : ∀ F1 F2 m1 ys i, Same F1 F2 → P i F1 m1 ys → P i F2 m1 ys := by exact fun _ _ _ _ _ _ h => h) : CT K g tt te vs σ Q v H := by
  obtain ⟨a, us, rfl, ha, r⟩ := h
  refine ⟨a, rfl, ⟨us, .inl (.inl (O.frz ha))⟩, fun D hD => lc_tup (LcP S P F D) ⟨F, m, [], [], Same.refl F, O.own hD, .nil, Nat.zero_le _, h0⟩ (fun i H' _ ⟨F', m', _, _, s, O', _⟩ => .inl (.inl (O'.frz (s _ _ ha)))) (fun i w H' hi ⟨F', m', acc, ys, s, O', hy, hl, p⟩ => ?_) fun H' ⟨F', m', acc, ys, s, O', hy, hl, p⟩ => ?_⟩
  · obtain ⟨x, hx, hr⟩ := r.get' hi
    exact hs D acc i x w H' F' m' ys hx (up s hr) s O' hy hl p
  · have s2 := O'.freeze_same
    exact hd (.ref D) H' (upd F' D (.lst acc)) m' ys (s.trans s2) O'.freeze ⟨D, acc, rfl, upd_same, all2_up s2 hy⟩ (hP _ _ _ _ _ s2 (by rw [r.length]; exact p))
theorem x_docR1 [MonoS S] {z : Int} {n : Nat} (O : Own H F m) (hz : z.toNat = n) (h1 : -(2 ^ 62) ≤ z) (h2 : z < 2 ^ 62) (P : Nat → Hp → Mem → List β → Prop) (h0 : P 0 F m [])
    (hs : ∀ D acc i H' F' m' ys, i < n → Same F F' → Own H' F' ((D, .lst acc) :: m') → All2 (S F') ys acc → ys.length ≤ i → P i F' m' ys →
      g (.int (i : Int)) (wipe σ vs) H' fun σ2 H2 => wipe σ2 vs = wipe σ vs ∧ tt σ2 H2 fun b H3 => if b = true then te σ2 H3 fun y H4 => ∃ acc, H4 D = some (.lst acc) ∧ acc.length < sizeLine ∧ LcP S P F D (i + 1) (upd H4 D (.lst (acc ++ [y]))) else LcP S P F D (i + 1) H3)
    (hd : ∀ v' H' F' m' ys, Same F F' → Own H' F' m' → rList S F' ys v' → P n F' m' ys → Q v' H') (hP : ∀ F1 F2 m1 ys i, Same F1 F2 → P i F1 m1 ys → P i F2 m1 ys := by exact fun _ _ _ _ _ _ h => h) : CR1 g tt te vs σ Q [.int z] H := by
  subst hz
  refine ⟨z, rfl, h1, h2, fun D hD => lc_range (LcP S P F D) ⟨F, m, [], [], Same.refl F, O.own hD, .nil, Nat.zero_le _, h0⟩ (fun i H' hi ⟨F', m', acc, ys, s, O', hy, hl, p⟩ => ?_) fun H' ⟨F', m', acc, ys, s, O', hy, hl, p⟩ => ?_⟩
  · rw [Int.zero_add]
    exact hs D acc i H' F' m' ys hi s O' hy hl p
  · have s2 := O'.freeze_same
    exact hd (.ref D) H' (upd F' D (.lst acc)) m' ys (s.trans s2) O'.freeze ⟨D, acc, rfl, upd_same, all2_up s2 hy⟩ (hP _ _ _ _ _ s2 p)
end
/-! ### dicts -/
section
variable {K : PySem.W.Frag} {σ : L2.St} {H F : Hp} {m : Mem} {D : Ends} {v : V} {td ty tv : TE} {α : Type} {R : Rp α} {d : List (Int × α)} {Q : VK} {z : Int}
/-- what is asked of the dict x at the key y -/
def DGQ (x y : V) (Q : VK) (H : Hp) : Prop := ∃ a v, x = .ref a ∧ DGet H a y (some v) ∧ Q v H
def DIQ (x y : V) (Q : Bool → Hp → Prop) (H : Hp) : Prop := ∃ a o, x = .ref a ∧ DGet H a y o ∧ Q o.isSome H
def DPQ (x y v : V) (R : Hp → Prop) (H : Hp) : Prop := ∃ a H4, x = .ref a ∧ DPut H a y v H4 ∧ R H4
theorem x_dget (k : td σ H fun x H1 => ty σ H1 fun y H2 => DGQ x y Q H2) : tDGet td ty σ H Q := k
theorem x_din (k : ty σ H fun y H1 => td σ H1 fun x H2 => DIQ x y (fun b H3 => Q (.bl b) H3) H2) : tDIn ty td σ H Q := k
theorem x_dnotin (k : ty σ H fun y H1 => td σ H1 fun x H2 => DIQ x y (fun b H3 => Q (.bl (!b)) H3) H2) : tDNotIn ty td σ H Q := k
theorem x_dput (k : tv σ H fun v H1 => td σ H1 fun x H2 => ty σ H2 fun y H3 => DPQ x y v (D.nx σ) H3) : sDPut td ty tv D σ H := k
theorem rd_own (O : Own H F m) {a : Addr} {u : HO} (h : Rd F a u) : Rd H a u := rd_same O.sub h
/-- a frozen dict is read -/
theorem x_dgetF {x : α} (O : Own H F m) (h : rDict R F d v) (e : Tf.getD d z = some x) (k : ∀ w, R F x w → Q w H) : DGQ v (.int z) Q H := by
  obtain ⟨a, kvs, rfl, ha, hk⟩ := h
  rcases hk.get z with ⟨e1, _⟩ | ⟨y, w, e1, e2, hr⟩
  · rw [e] at e1
    cases e1
  · rw [e] at e1
    cases e1
    exact ⟨a, w, rfl, .inl ⟨kvs, .inl z, rd_own O ha, rfl, e2.symm⟩, k w hr⟩
theorem x_dinF {Q : Bool → Hp → Prop} (O : Own H F m) (h : rDict R F d v) (k : Q (Tf.getD d z).isSome H) : DIQ v (.int z) Q H := by
  obtain ⟨a, kvs, rfl, ha, hk⟩ := h
  refine ⟨a, _, rfl, .inl ⟨kvs, .inl z, rd_own O ha, rfl, rfl⟩, ?_⟩
  rcases hk.get z with ⟨e1, e2⟩ | ⟨y, w, e1, e2, hr⟩
  · rw [e2]
    rw [e1] at k
    exact k
  · rw [e2]
    rw [e1] at k
    exact k
/-- a dict of our own is read, stored into -/
theorem x_dgetO {x : α} {a : Addr} {kvs : List (Key × V)} (O : Own H F ((a, .dK kvs) :: m)) (hk : kvR R F d kvs) (e : Tf.getD d z = some x) (k : ∀ w, R F x w → Q w H) : DGQ (.ref a) (.int z) Q H := by
  rcases hk.get z with ⟨e1, _⟩ | ⟨y, w, e1, e2, hr⟩
  · rw [e] at e1
    cases e1
  · rw [e] at e1
    cases e1
    exact ⟨a, w, rfl, .inl ⟨kvs, .inl z, .inl O.at0, rfl, e2.symm⟩, k w hr⟩
theorem x_dinO {Q : Bool → Hp → Prop} {a : Addr} {kvs : List (Key × V)} (O : Own H F ((a, .dK kvs) :: m)) (hk : kvR R F d kvs) (k : Q (Tf.getD d z).isSome H) : DIQ (.ref a) (.int z) Q H := by
  refine ⟨a, _, rfl, .inl ⟨kvs, .inl z, .inl O.at0, rfl, rfl⟩, ?_⟩
  rcases hk.get z with ⟨e1, e2⟩ | ⟨y, w, e1, e2, hr⟩
  · rw [e2]
    rw [e1] at k
    exact k
  · rw [e2]
    rw [e1] at k
    exact k
theorem kvR.len {kvs : List (Key × V)} (hk : kvR R F d kvs) : kvs.length = d.length := (All2.length hk).symm
theorem x_dputO {x : α} {a : Addr} {kvs : List (Key × V)} {Q : Hp → Prop} (O : Own H F ((a, .dK kvs) :: m)) (hk : kvR R F d kvs) (hv : R F x v) (hl : d.length < 16777216)
    (k : ∀ kvs' H', kvR R F (putD d z x) kvs' → Own H' F ((a, .dK kvs') :: m) → Q H') : DPQ (.ref a) (.int z) v Q H :=
  ⟨a, _, rfl, .inl ⟨kvs, .inl z, O.at0, rfl, by rw [hk.len, sizeLine_eq]; exact hl, rfl⟩, k _ _ (hk.put z hv) (O.set _)⟩
/-- {z: v} -/
theorem freezeD {a : Addr} {kvs : List (Key × V)} [MonoS R] (O : Own H F ((a, .dK kvs) :: m)) (hk : kvR R F d kvs) : Own H (upd F a (.dK kvs)) m ∧ Same F (upd F a (.dK kvs)) ∧ rDictX R (upd F a (.dK kvs)) d (.ref a) :=
  ⟨O.freeze, O.freeze_same, a, kvs, rfl, upd_same, hk.up O.freeze_same⟩
/-! for k in d -/
def FK (g : TG) (tb : TS) (D : Ends) (σ : L2.St) : VK := fun x H1 => ∃ d o, x = .ref d ∧ ((∃ kvs, H1 d = some (.frz o (.dK kvs)) ∧ ForW (Itk d o kvs) g tb D σ H1) ∨ ∃ kvs, H1 d = some (.frz o (.dT kvs)) ∧ ForW (Itkt d o kvs) g tb D σ H1)
variable {g : TG} {tb : TS}
theorem x_forK (k : td σ H (FK g tb D σ)) : tFor (iKeys td) g tb D σ H := k
/-- the lock -/
def DL (d : Addr) (u : HO) (od : Obj) (D : Ends) : Ends := ⟨fun σ' H' => H' d = some (.frz od u) ∧ D.nx σ' (upd H' d u), fun v H' => H' d = some (.frz od u) ∧ D.rt v (upd H' d u), fun σ' H' => H' d = some (.frz od u) ∧ D.bk σ' (upd H' d u), fun σ' H' => H' d = some (.frz od u) ∧ D.ct σ' (upd H' d u)⟩
theorem unlock_same {F F' : Hp} {a : Addr} {ob : Obj} {u : HO} (h : F a = some u) (s : Same (upd F a (.frz ob u)) F') : Same F (upd F' a u) := fun b o e => by
  by_cases hb : b = a
  · subst hb
    rw [upd_same, ← h]
    exact e
  · rw [upd_ne hb]
    refine s b o ?_
    rw [upd_ne hb]
    exact e
theorem x_lock {t : TS} {a : Addr} {kvs : List (Key × V)} (O : Own H F m) (h : F a = some (.dK kvs))
    (k : ∀ od H1 F1, Own H1 F1 m → Le F F1 → F1 a = some (.frz od (.dK kvs)) → (∀ F', Same F1 F' → Same F (upd F' a (.dK kvs))) → t (DL a (.dK kvs) od D) σ H1) : tLock t D σ H :=
  ⟨a, .dK kvs, O.frz h, True.intro, fun od => k od _ _ (O.relay h) (le_lock h) upd_same fun _ s => unlock_same h s⟩
/-- a for over a dict's keys (locked) -/
theorem x_doK {a : Addr} {kvs : List (Key × V)} {ob : Obj} {F0 : Hp} (O : Own H F m) (h : F a = some (.frz ob (.dK kvs))) (hk : kvR R F0 d kvs) (P : Nat → L2.St → Hp → Mem → Prop) (h0 : P 0 σ F m)
    (hs : ∀ i p σ' H' F' m', d[i]? = some p → Same F F' → Own H' F' m' → P i σ' F' m' → g (.int p.1) σ' H' fun σ2 H2 => tb { D with nx := LI P F (i + 1), ct := LI P F (i + 1), bk := D.nx } σ2 H2)
    (hd : ∀ σ' H' F' m', Same F F' → Own H' F' m' → P d.length σ' F' m' → D.nx σ' H') : FK g tb D σ (.ref a) H := by
  refine ⟨a, ob, rfl, .inl ⟨kvs, O.frz h, ?_⟩⟩
  refine for_it walk_keys (LI P F) ⟨F, m, Same.refl F, O, h0⟩ (fun i σ' H' _ ⟨F', m', s, O', _⟩ => O'.frz (s _ _ h)) (fun i x σ' H' H2 hi ⟨F', m', s, O', p⟩ y => ?_) fun σ' H' ⟨F', m', s, O', p⟩ => hd σ' H' F' m' s O' (by rw [← hk.len]; exact p)
  obtain ⟨rfl, k, w, e, rfl⟩ := y
  obtain ⟨q, hq, e1, _⟩ := All2.get' hk e
  have e1 : k = Sum.inl q.1 := e1
  subst e1
  exact hs i q σ' H2 F' m' hq s O' p
/-- behind the loop: the dict is unlocked -/
theorem x_unlock {F0 F1 F' : Hp} {a : Addr} {kvs : List (Key × V)} {od : Obj} (O : Own H F' m) (h1 : F1 a = some (.frz od (.dK kvs))) (hs : ∀ F', Same F1 F' → Same F0 (upd F' a (.dK kvs))) (s : Same F1 F')
    (k : ∀ H2 F2, Same F0 F2 → Le F' F2 → Own H2 F2 m → D.nx σ H2) : Ends.nx (DL a (.dK kvs) od D) σ H := by
  have h : F' a = some (.frz od (.dK kvs)) := s _ _ h1
  exact ⟨O.frz h, k _ _ (hs _ s) (le_unlock h) (O.relay h)⟩
theorem dict_imp {α : Type} {R R' : Rp α} {F : Hp} {d v} (f : ∀ x v, R F x v → R' F x v) (h : rDict R F d v) : rDict R' F d v := let ⟨a, kvs, e, h, r⟩ := h; ⟨a, kvs, e, h, r.mono fun _ _ p => ⟨p.1, f _ _ p.2⟩⟩
theorem dictX_at {α : Type} {R : Rp α} {F : Hp} {d : List (Int × α)} {v : V} {z : Int} {x : α} (h : rDictX R F d v) (e : Tf.getD d z = some x) : ∃ b kvs w, v = .ref b ∧ F b = some (.dK kvs) ∧ valV kvs (Sum.inl z) = some w ∧ R F x w := by
  obtain ⟨a, kvs, e0, ha, hk⟩ := h
  rcases hk.get z with ⟨e1, _⟩ | ⟨y, w, e1, e2, hr⟩
  · rw [e] at e1
    cases e1
  · rw [e] at e1
    cases e1
    exact ⟨a, kvs, w, e0, ha, e2, hr⟩
theorem x_dgetR {b : Addr} {kvs : List (Key × V)} {z : Int} {w : V} {H F : Hp} {m : Mem} {Q : VK} (O : Own H F m) (h : Rd F b (.dK kvs)) (e : valV kvs (Sum.inl z) = some w) (k : Q w H) : DGQ (.ref b) (.int z) Q H :=
  ⟨b, w, rfl, .inl ⟨kvs, .inl z, rd_own O h, rfl, e.symm⟩, k⟩
theorem dictX_get {α : Type} {R : Rp α} {F : Hp} {d : List (Int × α)} {v : V} {z : Int} {x : α} (h : rDictX R F d v) (e : Tf.getD d z = some x) : ∃ w, R F x w := by
  obtain ⟨a, kvs, _, _, hk⟩ := h
  rcases hk.get z with ⟨e1, _⟩ | ⟨y, w, e1, e2, hr⟩
  · rw [e] at e1
    cases e1
  · rw [e] at e1
    cases e1
    exact ⟨w, hr⟩
end
end Tf
/-! the law's pool, the names of the top -/
namespace Tf
open PySem PySem.Spec PyProof.Rows L2
/-- no name of the top hides these built-ins -/
structure Bi (mg : Str → Option Value) : Prop where
  b_len : mg "len" = none
  b_abs : mg "abs" = none
  b_int : mg "int" = none
  b_list : mg "list" = none
  b_tuple : mg "tuple" = none
  b_range : mg "range" = none
  b_sorted : mg "sorted" = none
  b_isinstance : mg "isinstance" = none
  b_min : mg "min" = none
  b_max : mg "max" = none
  b_enumerate : mg "enumerate" = none
  b_zip : mg "zip" = none
  b_sum : mg "sum" = none
  b_all : mg "all" = none
  b_str : mg "str" = none
  b_bool : mg "bool" = none
/-- a def of the top, to be called -/
structure Cal (P : Program) (w : World) (K : PySem.W.Frag) (mg : Str → Option Value) (base : Heap) (x : Str) (k : Nat) (f : Addr) (fd : FuncData) (ps : List Str) (sp : Sp) : Prop where
  ok : FnOk P w K mg base CX0 k f fd ps sp
  mg : mg x = some (.ref f)
  kp : PySem.W.keepIn K (.ref f) = true
  bi : Binds K fd ps []
/-- a method of the class at C, to be called -/
structure Met (P : Program) (w : World) (K : PySem.W.Frag) (mg : Str → Option Value) (base : Heap) (C : Addr) (x : Str) (k : Nat) (f : Addr) (fd : FuncData) (ps : List Str) (sp : Sp) : Prop where
  ok : FnOk P w K mg base CX0 k f fd ps sp
  cl : Cls K C
  me : Meth K C x f
  bi : Binds K fd ps []
def poolO (s : V) (i b c z : Int) : HO := .lst [s, .int i, .int b, .int c, .int z]
/-- a pool: the script at s, the place in it, the number that is drawn from, the count, the seed -/
def PoolOk (F : Hp) (o : HO) : Prop := ∃ s script i b c z, o = poolO s i b c z ∧ rList rInt F script s ∧ 0 ≤ i ∧ 0 ≤ b
theorem PoolOk.up {F F' : Hp} {o : HO} (s : Same F F') (h : PoolOk F o) : PoolOk F' o :=
  let ⟨a, sc, i, b, c, z, e, r, p⟩ := h; ⟨a, sc, i, b, c, z, e, Tf.up s r, p⟩
section
variable {K : PySem.W.Frag} {H F : Hp} {m : Mem} {p : Addr} {s : V} {i b c z : Int} {Q : VK} {R : Hp → Prop}
theorem p_get0 (O : Own H F ((p, poolO s i b c z) :: m)) (k : Q s H) : rIxL K (.ref p) (.int 0) H Q := x_ixO (j := 0) O rfl rfl k
theorem p_get1 (O : Own H F ((p, poolO s i b c z) :: m)) (k : Q (.int i) H) : rIxL K (.ref p) (.int 1) H Q := x_ixO (j := 1) O rfl rfl k
theorem p_get2 (O : Own H F ((p, poolO s i b c z) :: m)) (k : Q (.int b) H) : rIxL K (.ref p) (.int 2) H Q := x_ixO (j := 2) O rfl rfl k
theorem p_get3 (O : Own H F ((p, poolO s i b c z) :: m)) (k : Q (.int c) H) : rIxL K (.ref p) (.int 3) H Q := x_ixO (j := 3) O rfl rfl k
theorem p_get4 (O : Own H F ((p, poolO s i b c z) :: m)) (k : Q (.int z) H) : rIxL K (.ref p) (.int 4) H Q := x_ixO (j := 4) O rfl rfl k
theorem p_set1 {y : Int} (O : Own H F ((p, poolO s i b c z) :: m)) (k : ∀ H', Own H' F ((p, poolO s y b c z) :: m) → R H') : rSetL (.ref p) (.int 1) (.int y) H R := x_setL (j := 1) O rfl (by show _ < 5; decide) fun O' => k _ O'
theorem p_set2 {y : Int} (O : Own H F ((p, poolO s i b c z) :: m)) (k : ∀ H', Own H' F ((p, poolO s i y c z) :: m) → R H') : rSetL (.ref p) (.int 2) (.int y) H R := x_setL (j := 2) O rfl (by show _ < 5; decide) fun O' => k _ O'
theorem p_set3 {y : Int} (O : Own H F ((p, poolO s i b c z) :: m)) (k : ∀ H', Own H' F ((p, poolO s i b y z) :: m) → R H') : rSetL (.ref p) (.int 3) (.int y) H R := x_setL (j := 3) O rfl (by show _ < 5; decide) fun O' => k _ O'
theorem p_set4 {y : Int} (O : Own H F ((p, poolO s i b c z) :: m)) (k : ∀ H', Own H' F ((p, poolO s i b c y) :: m) → R H') : rSetL (.ref p) (.int 4) (.int y) H R := x_setL (j := 4) O rfl (by show _ < 5; decide) fun O' => k _ O'
end
/-- the promise of a draw: a number from 0 on below many -/
def spDraw : Sp := fun vs H Q _ => ∃ p o n F m, vs = [.ref p, .int n] ∧ Own H F ((p, o) :: m) ∧ PoolOk F o ∧ 0 < n ∧ n < 2 ^ 60 ∧
  ∀ r H' o', 0 ≤ r → r < n → Own H' F ((p, o') :: m) → PoolOk F o' → Q (.int r) H'
def spPool (K : PySem.W.Frag) : Sp := fun vs H Q _ => ∃ (a : Addr) (ns : List Int) (F : Hp) (m : Mem), vs = [.ref a] ∧ SqL K H a (ns.map V.int) ∧ Own H F m ∧ ∀ p H' F' o, Same F F' → Own H' F' ((p, o) :: m) → PoolOk F' o → Q (.ref p) H'
def spPick : Sp := fun vs H Q _ => ∃ p o a us F m, vs = [.ref p, .ref a] ∧ Own H F ((p, o) :: m) ∧ PoolOk F o ∧ F a = some (.lst us) ∧ us ≠ [] ∧ us.length < 1000000 ∧
  ∀ w H' o', w ∈ us → Own H' F ((p, o') :: m) → PoolOk F o' → Q w H'
def spRare : Sp := fun vs H Q _ => ∃ p o n F m, vs = [.ref p, .int n] ∧ Own H F ((p, o) :: m) ∧ PoolOk F o ∧ 0 < n ∧ n < 2 ^ 60 ∧
  ∀ b H' o', Own H' F ((p, o') :: m) → PoolOk F o' → Q (.bl b) H'
def spFew : Sp := fun vs H Q _ => ∃ p o a b F m, vs = [.ref p, .int a, .int b] ∧ Own H F ((p, o) :: m) ∧ PoolOk F o ∧ 0 ≤ a ∧ a < 2 ^ 59 ∧ 0 ≤ b ∧ b < 2 ^ 59 ∧
  ∀ r H' o', 0 ≤ r → (r ≤ a ∨ r ≤ b) → Own H' F ((p, o') :: m) → PoolOk F o' → Q (.int r) H'
/-! ### two values that tell the same -/
def atomV : V → Bool
  | .non => true
  | .bl _ => true
  | .int _ => true
  | .str _ => true
  | _ => false
def Sim (F : Hp) : Nat → V → V → Prop
  | 0, v, w => v = w ∧ atomV w = true
  | n + 1, v, w => (v = w ∧ atomV w = true) ∨ ∃ a b vs ws, v = .ref a ∧ w = .ref b ∧ All2 (Sim F n) vs ws ∧ vs.length < 16777216 ∧ ((F a = some (.tup vs) ∧ F b = some (.tup ws)) ∨ (F a = some (.lst vs) ∧ F b = some (.lst ws)))
def spSame : Nat → Sp
  | 0 => fun _ _ _ _ => False
  | n + 1 => fun vs H Q _ => ∃ v w F m, vs = [v, w] ∧ Own H F m ∧ Sim F n v w ∧ ∀ H', Own H' F m → Q (.bl true) H'
theorem Sim.up {F F' : Hp} (s : Same F F') : ∀ {n v w}, Sim F n v w → Sim F' n v w
  | 0, _, _, h => h
  | _ + 1, _, _, .inl h => .inl h
  | _ + 1, _, _, .inr ⟨a, b, vs, ws, e1, e2, r, l, h⟩ => .inr ⟨a, b, vs, ws, e1, e2, r.mono fun _ _ => Sim.up s, l, h.elim (fun h => .inl ⟨s _ _ h.1, s _ _ h.2⟩) fun h => .inr ⟨s _ _ h.1, s _ _ h.2⟩⟩
/-- data of which two that stand for the same are Sim -/
class SimR {α : Type} (R : Rp α) (n : Nat) : Prop where
  sim : ∀ {F : Hp} {x : α} {v w : V}, R F x v → R F x w → Sim F n v w
theorem Sim.succ {F : Hp} : ∀ {n v w}, Sim F n v w → Sim F (n + 1) v w
  | 0, _, _, h => .inl h
  | _ + 1, _, _, .inl h => .inl h
  | _ + 1, _, _, .inr ⟨a, b, vs, ws, e1, e2, r, l, h⟩ => .inr ⟨a, b, vs, ws, e1, e2, r.mono fun _ _ => Sim.succ, l, h⟩
theorem Sim.le {F : Hp} {n k : Nat} {v w : V} (h : n ≤ k) (s : Sim F n v w) : Sim F k v w := by
  induction h with
  | refl => exact s
  | step _ ih => exact ih.succ
theorem all2_sim {α : Type} {R : Rp α} {n : Nat} [SimR R n] {F : Hp} : ∀ {xs : List α} {vs ws : List V}, All2 (R F) xs vs → All2 (R F) xs ws → All2 (Sim F n) vs ws
  | _, _, _, .nil, .nil => .nil
  | _, _, _, .cons h t, .cons h' t' => .cons (SimR.sim h h') (all2_sim t t')
instance : SimR rInt 0 := ⟨fun h h' => by cases h; cases h'; exact ⟨rfl, rfl⟩⟩
instance : SimR rNat 0 := ⟨fun h h' => by cases h; cases h'; exact ⟨rfl, rfl⟩⟩
instance : SimR rBool 0 := ⟨fun h h' => by cases h; cases h'; exact ⟨rfl, rfl⟩⟩
theorem sim_pair {α β : Type} {R : Rp α} {S : Rp β} {n : Nat} (f : ∀ {F x v w}, R F x v → R F x w → Sim F n v w) (g : ∀ {F x v w}, S F x v → S F x w → Sim F n v w) : SimR (rPair R S) (n + 1) :=
  ⟨fun {F x v w} ⟨a, u, z, e, h, r, s⟩ ⟨a', u', z', e', h', r', s'⟩ => .inr ⟨a, a', _, _, e, e', .cons (f r r') (.cons (g s s') .nil), by show 2 < _; decide, .inl ⟨h, h'⟩⟩⟩
/-- lists and tuples of bounded length -/
theorem sim_tup {α : Type} {R : Rp α} {n : Nat} [SimR R n] {F : Hp} {xs : List α} {v w : V} (hl : xs.length < 16777216) : rTup R F xs v → rTup R F xs w → Sim F (n + 1) v w := fun ⟨a, vs, e, h, r⟩ ⟨a', vs', e', h', r'⟩ =>
  .inr ⟨a, a', vs, vs', e, e', all2_sim r r', by rw [← r.length]; exact hl, .inl ⟨h, h'⟩⟩
theorem sim_list {α : Type} {R : Rp α} {n : Nat} [SimR R n] {F : Hp} {xs : List α} {v w : V} (hl : xs.length < 16777216) : rList R F xs v → rList R F xs w → Sim F (n + 1) v w := fun ⟨a, vs, e, h, r⟩ ⟨a', vs', e', h', r'⟩ =>
  .inr ⟨a, a', vs, vs', e, e', all2_sim r r', by rw [← r.length]; exact hl, .inr ⟨h, h'⟩⟩
theorem sim_opt {α : Type} {R : Rp α} {n : Nat} [S : SimR R n] : SimR (rOpt R) n := ⟨fun {F x v w} h h' => by
  cases x with
  | none =>
    cases h
    cases h'
    exact Sim.le (Nat.zero_le n) ⟨rfl, rfl⟩
  | some y => exact S.sim (x := y) h h'⟩
/-! ### isinstance -/
section
variable {K : PySem.W.Frag} {H F : Hp} {m : Mem} {Q : VK}
theorem x_isi {x : V} {t T : String} {b : Bool} (ty : TyOf K H x (.type t)) (h : kitB t T = some b) (k : Q (.bl b) H) : rIsi K [x, .ty T] H Q :=
  ⟨x, .ty T, .type t, .type T, b, rfl, .ty T, .base ty, kit_ty h, k⟩
theorem x_isi_int {i : Int} (k : Q (.bl true) H) : rIsi K [.int i, .ty "int"] H Q := x_isi (.int i) (by decide +kernel) k
theorem x_isi_intB {i : Int} (k : Q (.bl false) H) : rIsi K [.int i, .ty "bool"] H Q := x_isi (.int i) (by decide +kernel) k
end
theorem fn_never {P : Program} {w : World} {K : PySem.W.Frag} {mg : Str → Option Value} {base : Heap} {k : Nat} {f : Addr} {fd : FuncData} {ps : List Str} : FnOk P w K mg base CX0 k f fd ps fun _ _ _ _ => False :=
  ⟨fun _ _ _ _ h => h.elim, fun _ _ _ _ _ _ _ _ _ _ _ _ _ h => h.elim⟩
end Tf
/-! further rules: a list or a tuple walked, enumerate of either, a bound method as a value, sorted by a method -/
namespace Tf
open PySem PySem.Spec PyProof.Rows L2
/-! ### for over a list or a tuple -/
def iSeq (K : PySem.W.Frag) (tl : TE) : TI := fun σ H R => tl σ H fun x H1 => ∃ a, x = .ref a ∧ (((∃ xs, SqL K H1 a xs) ∧ R (Itl K a) H1) ∨ ((∃ xs, SqT K H1 a xs) ∧ R (Itt K a) H1))
theorem pi_seq {X : Cx} {tg l : Expr} {tl : TE} (hl : PE X l tl) : PI X tg l (iSeq X.K tl) := by
  refine ⟨fun pins s σ H R I h => ?_⟩
  refine thn (hl.run pins s σ H _ I h) fun v s1 ⟨x, H1, I1, r1, q1⟩ => ?_
  obtain ⟨a, e, q1⟩ := q1
  subst e
  cases r1
  rcases q1 with ⟨⟨xs, hq⟩, q⟩ | ⟨⟨xs, hq⟩, q⟩
  · obtain ⟨its, rv, p, hz⟩ := I1.list hq
    refine wpAny_pyIter_list p.isList ?_
    refine ⟨s1.heap.objs.size, [s1.heap.objs.size], _, _, H1, rfl, I1.kept (t' := s1.toks) fun b o e => Heap.get?_push_of_some _ e, turn_list a _, ⟨_, Heap.get?_push_size _ rfl, rfl, rfl⟩, fun b hb => ?_, q⟩
    have e : b = s1.heap.objs.size := by simpa using hb
    subst e
    exact I1.fpOk (Nat.le_refl _) (I1.hok.fresh (Nat.le_refl _))
  · obtain ⟨its, rv, p, hz⟩ := I1.tuple hq
    refine wpAny_pyIter_tuple (show s1.heap.IsTuple a its.toArray from p) ?_
    refine ⟨s1.heap.objs.size, [s1.heap.objs.size], _, _, H1, rfl, I1.kept (t' := s1.toks) fun b o e => Heap.get?_push_of_some _ e, turn_tuple a _, ⟨_, Heap.get?_push_size _ rfl, rfl, rfl⟩, fun b hb => ?_, q⟩
    have e : b = s1.heap.objs.size := by simpa using hb
    subst e
    exact I1.fpOk (Nat.le_refl _) (I1.hok.fresh (Nat.le_refl _))
/-! ### enumerate of a tuple -/
set_option maxHeartbeats 1000000 in
theorem meets_enumerate_newT {v : Value} {o : Obj} {H : Heap → Prop} (B : Begins v o H) :
    Meets (Builtin.«enumerate.__new__» ⟨[.type "enumerate", v], []⟩) (fun _ R s => H s.heap ∧
      R (.ok (.ret (.ref (s.heap.push o).objs.size))) { s with heap := (s.heap.push o).push { cls := .type "enumerate", data := .fields #[.none, .bool false, .ref s.heap.objs.size, rawInt 0, .none, .none] } }) :=
  .of_wp fun prog w A R s h => by
    obtain ⟨hp, g, d, tk, os⟩ := s; obtain ⟨h1, h⟩ := h
    have hsub := sub_enumerate
    have q1 : ∀ {A' : Around} {E : Value → Shared → Prop} {Q : Value → Shared → Prop}, Q (.ref hp.objs.size) ⟨hp.push o, g, d, tk, os⟩ → wpAny (model prog w) A' (pyIter v) Q E ⟨hp, g, d, tk, os⟩ :=
      fun q => B.iter prog w _ _ ⟨hp, g, d, tk, os⟩ _ h1 q
    wp_walk using q1
    refine wpAny_stack_any fun st => wpAny_pure ?_
    split
    · rename_i c _ _ _ _ _
      cases (c == Value.type "enumerate")
      · wp_walk using q1
        exact ⟨_, rfl, h⟩
      · wp_walk using q1
        exact ⟨_, rfl, h⟩
    · wp_walk using q1
      exact ⟨_, rfl, h⟩
theorem enumT_begins {prog : Program} {w : World} {A : Around} {E : Value → Shared → Prop} {s : Shared} {v : Value} {o : Obj} {H : Heap → Prop} {Q : Value → Shared → Prop} (B : Begins v o H) (h1 : H s.heap)
    (h : ∀ h', IsEnum h' (s.heap.objs.size + 1) s.heap.objs.size 0 .none → h'.get? s.heap.objs.size = some o → h'.objs.size = s.heap.objs.size + 2 →
      (∀ b o, s.heap.get? b = some o → h'.get? b = some o) → Q (.ref (s.heap.objs.size + 1)) { s with heap := h' }) :
    wpAny (model prog w) A (call (.type "enumerate") [v]) Q E s := by
  refine callType_new F.called_enumerate (by decide) (F.typeCall_enumerate_1 _) (F.newCall_enumerate_1 _) (fun obj => F.args_object_init_2 obj _) F.entry_enumerate_new
    (meets_enumerate_newT B) ⟨h1, ?_⟩
  have hz : (s.heap.push o).objs.size = s.heap.objs.size + 1 := Heap.size_push ..
  show _ ∧ _
  rw [hz]
  have he : IsEnum ((s.heap.push o).push { cls := .type "enumerate", data := .fields #[.none, .bool false, .ref s.heap.objs.size, rawInt 0, .none, .none] }) (s.heap.objs.size + 1) s.heap.objs.size 0 .none := by
    have := Heap.get?_push_size (s.heap.push o) (o := { cls := .type "enumerate", data := .fields #[.none, .bool false, .ref s.heap.objs.size, rawInt 0, .none, .none] }) rfl
    rw [hz] at this; exact this
  refine ⟨⟨_, he, rfl⟩, h _ he (Heap.get?_push_of_some _ (Heap.get?_push_size _ B.free)) (by rw [Heap.size_push, hz]) fun b o x => Heap.get?_push_of_some _ (Heap.get?_push_of_some _ x)⟩
/-- the tuple at a, its items with their places -/
def IteT (K : PySem.W.Frag) (a : Addr) : It :=
  ⟨fun i H => ∃ (xs : List V) (x : V), SqT K H a xs ∧ xs[i]? = some x, fun i H v H' => ∃ T x, v = .ref T ∧ H T = none ∧ H' = upd H T (.tup [.int (i : Nat), x]) ∧ ∀ xs, SqT K H a xs → xs[i]? = some x, fun i H => ∃ xs : List V, SqT K H a xs ∧ xs.length = i⟩
theorem turn_enumT {P : Program} {w : World} {K : PySem.W.Frag} {elts : List Expr} {kk : Nat} {tpos : Pos} (a e it : Addr) (hat : a ≠ it) :
    Turn P w K (.Tuple elts kk tpos) (IteT K a) [e, it] e (fun i h => (∃ old, IsEnum h e it ((i : Nat) : Int) old) ∧ h.IsTupleIter it a i ∧ e ≠ it ∧ e ≠ a) where
  mem := by simp
  obj := fun i h st b hb => by
    obtain ⟨⟨old, he⟩, ⟨o, ho, hc, hd⟩, _⟩ := st
    have e' : b = e ∨ b = it := by simpa using hb
    rcases e' with z | z
    · rw [z]; exact ⟨_, he, fun v q => nomatch q⟩
    · rw [z]; exact ⟨o, ho, fun v q => by rw [hd] at q; cases q⟩
  keep := fun i h h' st k => let ⟨⟨old, he⟩, hi, hne⟩ := st; ⟨⟨old, k e (by simp) _ he⟩, hi.at fun o q => k it (by simp) o q, hne⟩
  item := by
    intro X hP hw hK hc i pins s σ H E I hf st hg
    subst hP hw hK
    obtain ⟨⟨old, he⟩, hit, hne, hea⟩ := st
    obtain ⟨xs, x, hq, hx⟩ := hg
    obtain ⟨its, rv, p, hz⟩ := I.tuple hq
    obtain ⟨u, hu, ru⟩ := rv.get hx
    have hel : e < s.heap.objs.size := Heap.lt_size he
    have hil : it < s.heap.objs.size := by obtain ⟨_, q, _⟩ := hit; exact Heap.lt_size q
    have hlt : i < its.toArray.size := by
      have := (List.getElem?_eq_some_iff.mp hu).1
      simpa using this
    refine wpAny_pyNext_enum_itemC (Draws.tuple (show X.A.in1.handled = none from I.ok.hd hc) it a hat its.toArray) he ⟨hit, p⟩ hlt hne (by simp [hne, hea]) fun x' h' tk hP' ho hit' hT hsz hk => ?_
    have ex : x' = u := by
      have h1 : its.toArray[i]? = some x' := hP'
      rw [List.getElem?_toArray, hu] at h1
      exact (Option.some.inj h1).symm
    subst ex
    refine ⟨_, rfl, wpAny_letOwnedTupleGo_enum (s := { s with heap := h', toks := tk + 1 }) ho fun h'' he' sb => ?_⟩
    have hT2 : h''.get? s.heap.objs.size = some { cls := .type "tuple", data := .seq #[.int i tk, x'] } := (sb.2 _ (Nat.ne_of_gt hel)).trans hT
    have new : ObjOk X.prog X.w (upd H s.heap.objs.size (.tup [.int (i : Nat), x])) h'' s.heap.objs.size (.tup [.int (i : Nat), x]) :=
      ⟨by show 2 ≤ sizeLine; decide, [.int i tk, x'], .cons ⟨_, rfl⟩ (.cons ru .nil), ⟨_, hT2, rfl, _, rfl⟩⟩
    have I1 : Inv X pins σ (upd H s.heap.objs.size (.tup [.int (i : Nat), x])) { s with heap := h'', toks := tk + 1 } :=
      I.turnedNew (ch := [e, it]) (fun b ob hb q => (sb.2 b (fun z => hb (by simp [z]))).trans (hk b ob (fun z => hb (by simp [z])) (fun z => hb (by simp [z])) q)) hf (Nat.le_refl _) new
    refine ⟨.ref s.heap.objs.size, _, I1, rfl, ⟨_, x, rfl, I.hok.fresh (Nat.le_refl _), rfl, fun ys hy => by rw [I.tuple_inj hy hq]; exact hx⟩, ⟨⟨x', ?_⟩, hit'.1.at fun o q => (sb.2 it (Ne.symm hne)).trans q, hne, hea⟩, fun b hb => ?_⟩
    · have e1 : ((i + 1 : Nat) : Int) = (i : Int) + 1 := by omega
      rw [e1]; exact he'
    · have hb' : b < s.heap.objs.size := by
        have e' : b = e ∨ b = it := by simpa using hb
        rcases e' with z | z
        · rw [z]; exact hel
        · rw [z]; exact hil
      rw [upd_ne (Nat.ne_of_lt hb')]
      exact (hf b hb).1
  done := by
    intro X hP hw hK hc i pins s σ H E I hf st hg
    subst hP hw hK
    obtain ⟨⟨old, he⟩, hit, hne, hea⟩ := st
    obtain ⟨xs, hq, hx⟩ := hg
    obtain ⟨its, rv, p, hz⟩ := I.tuple hq
    obtain ⟨f0, f1, f2, f3, f4, f5⟩ := hf it (by simp)
    have hl := rv.length
    have hn : i = its.toArray.size := by
      rw [List.size_toArray, ← hl]
      exact hx.symm
    subst hn
    exact wpAny_pyNext_enum_endD (Draws.tuple (show X.A.in1.handled = none from I.ok.hd hc) it a hat its.toArray) he ⟨hit, p⟩ fun h' eb => ⟨rfl, I.turned (t' := s.toks) (fun b o hb e => eb b o hb e) f0 f1 f3 f4 f5⟩
  self := fun A i s Q E st h => let ⟨⟨_, he⟩, _⟩ := st; wpAny_pyIter_enum he h
def iEnumS (K : PySem.W.Frag) (ta : TA) : TI := fun σ H R => ta σ H fun vs H1 => ∃ a, vs = [.ref a] ∧ (((∃ xs, SqL K H1 a xs) ∧ R (Ite K a) H1) ∨ ((∃ xs, SqT K H1 a xs) ∧ R (IteT K a) H1))
theorem pi_enumS {X : Cx} {e : Expr} {ta : TA} {p pos tpos : Pos} {elts : List Expr} {kk : Nat} (hg : Gl X "enumerate") (hm : X.mg "enumerate" = none) (ha : PA X [e] ta) (hs : starEach [e] X.env = [(false, eval e X.env)] := by rfl) :
    PI X (.Tuple elts kk tpos) (.Call (.Name "enumerate" p) [e] [] pos) (iEnumS X.K ta) := by
  refine ⟨fun pins s σ H R I h => ?_⟩
  refine Call_ (ld_blt I hg hm boot_enumerate (PyProof.Rows.callWith_type1 (thn (ha.run pos pins s σ H _ I h) fun us s1 ⟨vs, H1, I1, r1, q1⟩ => ?_) hs rfl))
  obtain ⟨a, ex, q1⟩ := q1
  subst ex
  cases r1 with
  | cons r rr =>
    cases rr
    cases r
    rcases q1 with ⟨⟨xs, hq⟩, q⟩ | ⟨⟨xs, hq⟩, q⟩
    · obtain ⟨its, rv, p', hz⟩ := I1.list hq
      refine call_enumerate_list p'.isList fun h' he hit hsz hk => wpAny_pyIter_enum he ?_
      have I2 : Inv X pins σ H1 { s1 with heap := h' } := I1.kept (t' := s1.toks) hk
      refine ⟨s1.heap.objs.size + 1, [s1.heap.objs.size + 1, s1.heap.objs.size], _, _, H1, rfl, I2, turn_enum a (s1.heap.objs.size + 1) s1.heap.objs.size, ⟨⟨.none, he⟩, hit, Nat.succ_ne_self _⟩, fun b hb => ?_, q⟩
      have e' : b = s1.heap.objs.size + 1 ∨ b = s1.heap.objs.size := by simpa using hb
      have hle : s1.heap.objs.size ≤ b := by
        rcases e' with z | z
        · rw [z]; exact Nat.le_add_right _ _
        · rw [z]; exact Nat.le_refl _
      exact I1.fpOk hle (I1.hok.fresh hle)
    · obtain ⟨its, rv, p', hz⟩ := I1.tuple hq
      have hal : a < s1.heap.objs.size := p'.lt
      refine enumT_begins (begins_tuple a its.toArray) p' fun h' he hit hsz hk => wpAny_pyIter_enum he ?_
      have I2 : Inv X pins σ H1 { s1 with heap := h' } := I1.kept (t' := s1.toks) hk
      refine ⟨s1.heap.objs.size + 1, [s1.heap.objs.size + 1, s1.heap.objs.size], _, _, H1, rfl, I2, turn_enumT a (s1.heap.objs.size + 1) s1.heap.objs.size (Nat.ne_of_lt hal), ⟨⟨.none, he⟩, ⟨_, hit, rfl, rfl⟩, Nat.succ_ne_self _, Nat.ne_of_gt (Nat.lt_succ_of_lt hal)⟩, fun b hb => ?_, q⟩
      have e' : b = s1.heap.objs.size + 1 ∨ b = s1.heap.objs.size := by simpa using hb
      have hle : s1.heap.objs.size ≤ b := by
        rcases e' with z | z
        · rw [z]; exact Nat.le_add_right _ _
        · rw [z]; exact Nat.le_refl _
      exact I1.fpOk hle (I1.hok.fresh hle)
theorem walk_enumT {K : PySem.W.Frag} {a : Addr} {xs : List V} : Walk (IteT K a) xs.length (fun H => SqT K H a xs ∧ ∀ ys, SqT K H a ys → ys = xs) (YPair (fun i => some (.int (i : Nat))) (fun i => xs[i]?)) where
  goes := fun i H hi h => ⟨xs, xs[i], h.1, List.getElem?_eq_getElem hi⟩
  stops := fun H h => ⟨xs, h.1, rfl⟩
  yields := fun i H x H' hi h ⟨T, y, e, hn, eh, k⟩ => ⟨T, .int (i : Nat), y, e, hn, eh, rfl, k xs h.1⟩
theorem walk_enumL {K : PySem.W.Frag} {a : Addr} {xs : List V} : Walk (Ite K a) xs.length (fun H => SqL K H a xs) (YPair (fun i => some (.int (i : Nat))) (fun i => xs[i]?)) where
  goes := fun i H hi h => ⟨xs, xs[i], h, List.getElem?_eq_getElem hi⟩
  stops := fun H h => ⟨xs, h, Nat.le_refl _⟩
  yields := fun i H x H' hi h ⟨T, y, e, hn, eh, k⟩ => ⟨T, .int (i : Nat), y, e, hn, eh, rfl, k xs h⟩
/-! ### the steps -/
def FS (K : PySem.W.Frag) (g : TG) (tb : TS) (D : Ends) (σ : L2.St) : VK := fun v H1 => ∃ a, v = .ref a ∧ (((∃ xs, SqL K H1 a xs) ∧ ForW (Itl K a) g tb D σ H1) ∨ ((∃ xs, SqT K H1 a xs) ∧ ForW (Itt K a) g tb D σ H1))
def FE (K : PySem.W.Frag) (g : TG) (tb : TS) (D : Ends) (σ : L2.St) : List V → Hp → Prop := fun vs H1 => ∃ a, vs = [.ref a] ∧ (((∃ xs, SqL K H1 a xs) ∧ ForW (Ite K a) g tb D σ H1) ∨ ((∃ xs, SqT K H1 a xs) ∧ ForW (IteT K a) g tb D σ H1))
section
variable {K : PySem.W.Frag} {σ : L2.St} {H F : Hp} {m : Mem} {D : Ends} {tb : TS} {g : TG} {v : V} {tl : TE} {ta : TA} {α β : Type} {R : Rp α} {S : Rp β} {xs : List α} {Q : VK} {tt : TT} {te : TE} {vs : List Nat}
theorem x_forS (k : tl σ H (FS K g tb D σ)) : tFor (iSeq K tl) g tb D σ H := k
theorem x_forE (k : ta σ H (FE K g tb D σ)) : tFor (iEnumS K ta) g tb D σ H := k
theorem x_doS [MonoS R] (O : Own H F m) (h : rSeq R F xs v) (P : Nat → L2.St → Hp → Mem → Prop) (h0 : P 0 σ F m)
    (hs : ∀ i x w σ' H' F' m', xs[i]? = some x → R F' x w → Same F F' → Own H' F' m' → P i σ' F' m' → g w σ' H' fun σ2 H2 => tb { D with nx := LI P F (i + 1), ct := LI P F (i + 1), bk := D.nx } σ2 H2)
    (hd : ∀ σ' H' F' m', Same F F' → Own H' F' m' → P xs.length σ' F' m' → D.nx σ' H') : FS K g tb D σ v H := by
  rcases h with h | h
  · obtain ⟨a, e, h1, h2⟩ := x_doL (K := K) O h P h0 hs hd
    exact ⟨a, e, .inl ⟨h1, h2⟩⟩
  · obtain ⟨a, e, h1, h2⟩ := x_doT (K := K) O h P h0 hs hd
    exact ⟨a, e, .inr ⟨h1, h2⟩⟩
/-- for k, x in enumerate(xs): the pair is a new tuple that stands still -/
theorem x_doE [MonoS R] (O : Own H F m) (h : rSeq R F xs v) (P : Nat → L2.St → Hp → Mem → Prop) (h0 : P 0 σ F m)
    (hs : ∀ i x w σ' H' F' m', xs[i]? = some x → rPair rNat R F' (i, x) w → Same F F' → Own H' F' m' → P i σ' F' m' → g w σ' H' fun σ2 H2 => tb { D with nx := LI P F (i + 1), ct := LI P F (i + 1), bk := D.nx } σ2 H2)
    (hd : ∀ σ' H' F' m', Same F F' → Own H' F' m' → P xs.length σ' F' m' → D.nx σ' H') (hP : ∀ i σ' F1 F2 m1, Same F1 F2 → P i σ' F1 m1 → P i σ' F2 m1) : FE K g tb D σ [v] H := by
  have body : ∀ (us : List V), All2 (R F) xs us → ∀ (i : Nat) (x : V) (σ' : L2.St) (H' H2 : Hp), i < us.length → LI P F i σ' H' → YPair (fun i => some (.int (i : Nat))) (fun i => us[i]?) i H' x H2 → g x σ' H2 fun σ2 H2 => tb { D with nx := LI P F (i + 1), ct := LI P F (i + 1), bk := D.nx } σ2 H2 := by
    rintro us r i x σ' H' H2 hi ⟨F', m', s, O', p⟩ ⟨T, z, y, rfl, hT, rfl, hz, hy⟩
    cases hz
    obtain ⟨q, hq, hr⟩ := r.get' hy
    have sT := same_new (o := .tup [.int (i : Nat), y]) (O'.fresh hT)
    exact hs i q _ σ' _ _ m' hq ⟨T, .int (i : Nat), y, rfl, upd_same, rfl, up (s.trans sT) hr⟩ (s.trans sT) (O'.new hT) (hP _ _ _ _ _ sT p)
  rcases h with h | h
  · obtain ⟨a, us, rfl, ha, r⟩ := h
    refine ⟨a, rfl, .inl ⟨⟨us, .inl (.inl (O.frz ha))⟩, for_it walk_enumL (LI P F) ⟨F, m, Same.refl F, O, h0⟩ (fun i σ' H' _ ⟨F', m', s, O', _⟩ => .inl (.inl (O'.frz (s _ _ ha)))) (fun i x σ' H' H2 hi p y => body us r i x σ' H' H2 hi p y) fun σ' H' ⟨F', m', s, O', p⟩ => hd σ' H' F' m' s O' (by rw [r.length]; exact p)⟩⟩
  · obtain ⟨a, us, rfl, ha, r⟩ := h
    refine ⟨a, rfl, .inr ⟨⟨us, .inl (.inl (O.frz ha))⟩, ?_⟩⟩
    have w2 : Walk (IteT K a) us.length (fun H => SqT K H a us) (YPair (fun i => some (.int (i : Nat))) (fun i => us[i]?)) :=
      ⟨fun i H hi h => ⟨us, us[i], h, List.getElem?_eq_getElem hi⟩, fun H h => ⟨us, h, rfl⟩, fun i H x H' hi h ⟨T, y, e, hn, eh, k⟩ => ⟨T, .int (i : Nat), y, e, hn, eh, rfl, k us h⟩⟩
    exact for_it w2 (LI P F) ⟨F, m, Same.refl F, O, h0⟩ (fun i σ' H' _ ⟨F', m', s, O', _⟩ => .inl (.inl (O'.frz (s _ _ ha)))) (fun i x σ' H' H2 hi p y => body us r i x σ' H' H2 hi p y) fun σ' H' ⟨F', m', s, O', p⟩ => hd σ' H' F' m' s O' (by rw [r.length]; exact p)
/-- a comprehension over either -/
def CS (K : PySem.W.Frag) (g : TG) (tt : TT) (te : TE) (vs : List Nat) (σ : L2.St) (Q : VK) : VK := fun v H1 => ∃ a, v = .ref a ∧ (((∃ xs, SqL K H1 a xs) ∧ LcW (Itl K a) g tt te vs σ Q H1) ∨ ((∃ xs, SqT K H1 a xs) ∧ LcW (Itt K a) g tt te vs σ Q H1))
theorem x_lcS (k : tl σ H (CS K g tt te vs σ Q)) : tLc (iSeq K tl) g tt te vs σ H Q := k
theorem x_docS [MonoS R] [MonoS S] (O : Own H F m) (h : rSeq R F xs v) (P : Nat → Hp → Mem → List β → Prop) (h0 : P 0 F m [])
    (hs : ∀ D acc i x w H' F' m' ys, xs[i]? = some x → R F' x w → Same F F' → Own H' F' ((D, .lst acc) :: m') → All2 (S F') ys acc → ys.length ≤ i → P i F' m' ys →
      g w (wipe σ vs) H' fun σ2 H2 => wipe σ2 vs = wipe σ vs ∧ tt σ2 H2 fun b H3 => if b = true then te σ2 H3 fun y H4 => ∃ acc, H4 D = some (.lst acc) ∧ acc.length < sizeLine ∧ LcP S P F D (i + 1) (upd H4 D (.lst (acc ++ [y]))) else LcP S P F D (i + 1) H3)
    (hd : ∀ v' H' F' m' ys, Same F F' → Own H' F' m' → rList S F' ys v' → P xs.length F' m' ys → Q v' H') (hP : ∀ F1 F2 m1 ys i, Same F1 F2 → P i F1 m1 ys → P i F2 m1 ys := by exact fun _ _ _ _ _ _ h => h) : CS K g tt te vs σ Q v H := by
  rcases h with h | h
  · obtain ⟨a, e, h1, h2⟩ := x_docL (K := K) O h P h0 hs hd hP
    exact ⟨a, e, .inl ⟨h1, h2⟩⟩
  · obtain ⟨a, e, h1, h2⟩ := x_docT (K := K) O h P h0 hs hd hP
    exact ⟨a, e, .inr ⟨h1, h2⟩⟩
end
end Tf
/-! sorted(xs, key=o.m, reverse=b): the method keeps the abstract heap and gives an int -/
namespace Tf
open PySem PySem.Spec PyProof.Rows L2 PySem.W
/-! ### a bound method as a value -/
def tBndM (C g : Addr) (m : Str) (ta : TE) : TE := fun σ H Q => ta σ H fun x H1 => ∃ a dx fs, x = .ref a ∧ H1 a = some (.ins C dx fs) ∧ fs.lookup m = none ∧ ∀ q, H1 q = none → Q (.ref q) (upd H1 q (.met g a))
theorem pe_bndM {X : Cx} {o : Expr} {m : Str} {pos : Pos} {ta : TE} {C g : Addr} (he : PE X o ta) (c : Cls X.K C) (b : BMeth X.K C m g) (hb : attributeBase o m X.env (eval o X.env) = eval o X.env := by rfl) : PE X (.Attribute o m pos) (tBndM C g m ta) := by
  refine ⟨fun pins s σ H Q I h => ?_⟩
  refine attr_of hb (thn (he.run pins s σ H _ I h) fun u s1 ⟨x, H1, I1, rx, a, dx, fs, ex, ea, l, q⟩ => ?_)
  subst ex
  exact op_getbound I1 ea c b l rx q
theorem reads_int {h : Heap} {i : Int} {t : Tok} : Reads h (.int i t) (.int i) [] := Reads.int _ _
section
variable {X : Cx} {pins : List (Addr × Obj)} {σ : L2.St} {H : Hp}
/-- the callee runs, at another around -/
theorem run_at {A : Around} {k : Nat} {f : Addr} {sp : Sp} {s : Shared} {Q : VK} {us : List Value} {vs : List V} {R : Result → Shared → Prop} (F : FnR X.prog X.w X.K X.mg X.base CX0 k f sp) (hr : Room k A) (hA : A.frames = X.A.frames) (I : Inv X pins σ H s) (r : Vals vs us) (h : sp vs H Q E0)
    (hR : ∀ u s', EP X pins σ Q u s' → R (.ok (.ret u)) s') : codeAny (model X.prog X.w) A (.call (.ref f) ⟨us, []⟩) R s := by
  have e0 : Env0 X.prog X.w X.K X.mg X.base A X.stack s H := ⟨by rw [hA]; exact I.env0.frames, I.env0.mod, I.env0.bs, I.env0.bsz, I.env0.funs, I.env0.frf, I.env0.hok, I.env0.bare⟩
  refine codeAny_mono (F A X.stack s H us vs Q E0 hr e0 r h) fun r s' hq => ?_
  cases r with
  | error e => exact False.elim hq
  | ok fl =>
    cases fl with
    | ret u => exact hR u s' (I.after hq)
    | next => exact False.elim hq
    | brk => exact False.elim hq
    | cont => exact False.elim hq
/-- the loop over the keys: X's invariant is kept -/
theorem keyI_rest {A : Around} {a kS : Addr} {b : Bool} {e1 : Nat} {vs : List Value} {xs : List V} {key : V → Int} {f : Value} {s : Shared} {P : PySem.Fin → Shared → Prop} {E : Value → Shared → Prop} (I : Inv X pins σ H s) (fa : FpOk X pins H a) (fk : FpOk X pins H kS) (hka : kS ≠ a)
    (nk : s.heap.get? kS = some (seqObj "list" #[] 0)) (na : s.heap.get? a = some (seqObj "list" #[] e1)) (rv : Vals xs vs) (hZ : vs.length ≤ sizeLine) (hu : A.units + 1 < cLine)
    (turn : ∀ (x : V) (v : Value), x ∈ xs → RelV x v → ∀ (pins' : List (Addr × Obj)) (s' : Shared), Inv X pins' σ H s' → wpAny (model X.prog X.w) A (call f [v]) (fun u s'' => Inv X pins' σ H s'' ∧ RelV (.int (key x)) u) (fun _ _ => False) s')
    (h : ∀ (ys : List V) s', ys.Perm xs → ys.Pairwise (fun x y => if b = true then key y ≤ key x else key x ≤ key y) → Inv X pins σ (upd H a (.lst ys)) s' → P (.done (.ret .none)) s') :
    wpAny (model X.prog X.w) A (ksk_rest a f b vs.toArray e1 (.ref kS)) P E s := by
  have hl : xs.length = vs.length := rv.length
  unfold ksk_rest
  refine wpAny_bind (wpAny_rule ?_)
  first
    | rw [List.forIn_toArray]
    | (rw [← Array.forIn_toList]; simp only [List.toList_toArray])
    | rw [← Array.forIn_toList]
  refine wpAny_bind (ksk_fold (fun i s' => ∃ kA e, Inv X pins σ H s' ∧ s'.heap.get? kS = some (seqObj "list" kA e) ∧ s'.heap.get? a = some (seqObj "list" #[] e1) ∧ Vals ((xs.take i).map fun x => V.int (key x)) kA.toList) vs 0 s
    ⟨#[], 0, I, nk, na, by rw [List.take_zero]; exact .nil⟩ ?step ?done)
  case step =>
    rintro j v s' hx ⟨kA, e, I', nk', na', hk⟩
    simp only [Nat.zero_add] at hk ⊢
    have hj : j < vs.length := (List.getElem?_eq_some_iff.mp hx).1
    have hjx : j < xs.length := by omega
    have ex : xs[j]? = some xs[j] := List.getElem?_eq_getElem hjx
    obtain ⟨v', hv', hr⟩ := rv.get ex
    rw [hx] at hv'
    obtain rfl : v = v' := Option.some.inj hv'
    have hz : kA.size ≤ vs.length := by
      have h1 := hk.length
      simp at h1
      omega
    have pin : ∀ p ∈ pins ++ [(kS, seqObj "list" kA e), (a, seqObj "list" #[] e1)], s'.heap.get? p.1 = some p.2 ∧ H p.1 = none ∧ p.1 ≠ X.env.locals ∧ p.1 ∉ X.fs ∧ ∀ v, p.2.data ≠ .cell v := fun p hp => by
      rcases List.mem_append.mp hp with hp | hp
      · exact I'.pin p (List.mem_append_right _ hp)
      · rcases List.mem_cons.mp hp with rfl | hp
        · exact ⟨nk', fk.1, fk.2.1, fk.2.2.1, fun v q => nomatch q⟩
        · rcases List.mem_singleton.mp hp with rfl
          exact ⟨na', fa.1, fa.2.1, fa.2.2.1, fun v q => nomatch q⟩
    refine wpAny_bind (wpAny_attempt (wpAny_mono (turn xs[j] v (List.getElem_mem hjx) hr _ s' (I'.pins_of pin)) (fun u s'' he => ?_) fun _ _ hF => hF.elim))
    obtain ⟨I2, ru⟩ := he
    have nk2 : s''.heap.get? kS = some (seqObj "list" kA e) := (I2.pin (kS, seqObj "list" kA e) (by simp)).1
    have na2 : s''.heap.get? a = some (seqObj "list" #[] e1) := (I2.pin (a, seqObj "list" #[] e1) (by simp)).1
    have I3 : Inv X pins σ H s'' := I2.pins_of fun p hp => I2.pin p (List.mem_append_right _ (List.mem_append_left _ hp))
    have s1 := Heap.SameBut.update s''.heap kS (Obj.mapSeq (·.push u))
    obtain ⟨c2, hc2⟩ : ∃ c2, (s''.heap.update kS (Obj.mapSeq (·.push u))).get? kS = some (seqObj "list" (kA.push u) c2) := ⟨_, get?_update_seq nk2 (·.push u)⟩
    have ek : xs.take (j + 1) = xs.take j ++ [xs[j]] := by rw [List.take_add_one, ex]; simp
    have ea : (kA.push u).toList = kA.toList ++ [u] := by simp
    refine wpAny_bind (listUpdate_at nk2 rfl ?_ (Nat.le_trans hz hZ) (Nat.le_trans (Nat.le_of_eq (Array.size_push ..)) (Nat.succ_le_succ (Nat.le_trans hz hZ))))
    refine wpAny_pure ⟨rfl, kA.push u, c2, I3.turned (t' := s''.toks) (fun b o hb e => (s1.2 b hb).trans e) fk.1 fk.2.1 fk.2.2.2.1 fk.2.2.2.2.1 fk.2.2.2.2.2, hc2, (s1.2 a hka.symm).trans na2, ?_⟩
    rw [ea, ek, List.map_append]
    exact hk.append (.cons ru .nil)
  case done =>
    rintro s' ⟨kA, e, I', nk', na', hk⟩
    have hk : Vals (xs.map fun x => V.int (key x)) kA.toList := by
      have e3 : xs.take (0 + vs.length) = xs := List.take_of_length_le (by omega)
      rw [e3] at hk
      exact hk
    have hsz : kA.size = vs.length := by
      have h1 := hk.length
      simp at h1
      omega
    try dsimp only
    refine wpAny_bind (listItems_at nk' rfl ?_)
    have hk' : EachIs (fun v k => ∃ as, Reads s'.heap v k as) kA.toList (xs.map fun x => PyData.int (key x)) := by
      clear hsz nk' na' nk
      revert hk
      generalize kA.toList = us
      intro hk
      have go : ∀ (zs : List V) (us : List Value), Vals (zs.map fun x => V.int (key x)) us → EachIs (fun v k => ∃ as, Reads s'.heap v k as) us (zs.map fun x => PyData.int (key x)) := by
        intro zs
        induction zs with
        | nil =>
          intro us hv
          cases hv
          exact .nil
        | cons z zs ih =>
          intro us hv
          cases hv with
          | cons r t =>
            obtain ⟨tk, rfl⟩ := r
            exact .cons ⟨[], reads_int⟩ (ih _ t)
      exact go xs us hk
    have hal : AllAlike (xs.map fun x => PyData.int (key x)) := AllAlike.of (enc := fun x => PyData.int (key x)) fun _ _ => rfl
    have hsk : Sortable (xs.map fun x => PyData.int (key x)) := .inr fun d hd => by
      obtain ⟨x, _, rfl⟩ := List.mem_map.mp hd
      exact ⟨by simp, by simp⟩
    have hu' : ∀ d, d ∈ (xs.map fun x => PyData.int (key x)) → A.units + d.depth < cLine := fun d hd => by
      obtain ⟨x, _, rfl⟩ := List.mem_map.mp hd
      have : (PyData.int (key x)).depth = 0 := by simp [PyData.depth]
      omega
    refine keyH_end (κ := dataKind s'.heap (xs.map fun x => PyData.int (key x))) (h₁ := hideAll s'.heap [kS]) (fun b o _ e => of_hideAll _ e) (hideAll_none _ (by simp)) nk' na' hka (SortsAt.data (s := s') hk' hal hsk hu') hsz hZ fun h3 tk3 c k3 n3 => ?_
    have ko : KeyedOut b (xs.map fun x => PyData.int (key x)) vs (sortVals (dataKind s'.heap (xs.map fun x => PyData.int (key x))) b kA.toList vs) := ⟨s'.heap, kA.toList, hal, rfl, hk'⟩
    have rv' : EachIs (fun u x => L2.RelV x u) vs xs := by
      have go : ∀ {xs : List V} {vs : List Value}, Vals xs vs → EachIs (fun u x => L2.RelV x u) vs xs := fun r => by
        induction r with
        | nil => exact .nil
        | cons r t ih => exact .cons r ih
      exact go rv
    have eo := keyedOut_each (fun x : V => PyData.int (key x)) ko rv'
    have hlen := (ko.length (by rw [List.length_map]; exact hl))
    generalize hout : sortVals (dataKind s'.heap (xs.map fun x => PyData.int (key x))) b kA.toList vs = out at n3 eo hlen
    have vo : Vals (xs.mergeSort (dataLe b fun x => PyData.int (key x))) out := by
      revert eo
      generalize xs.mergeSort (dataLe b fun x => PyData.int (key x)) = ys
      intro eo
      clear n3 hout hlen
      induction eo with
      | nil => exact .nil
      | cons r _ ih => exact .cons r ih
    refine h (xs.mergeSort (dataLe b fun x => PyData.int (key x))) _ (List.mergeSort_perm _ _) ?_ ?_
    · cases b with
      | true =>
        rw [dataGe_int]
        have := List.pairwise_mergeSort (le := fun a b : V => decide (key b ≤ key a)) (fun a b c h1 h2 => by simp at h1 h2 ⊢; omega) (fun a b => by simp; omega) xs
        exact this.imp fun h => by simpa using h
      | false =>
        rw [dataLe_int]
        have := List.pairwise_mergeSort (le := fun a b : V => decide (key a ≤ key b)) (fun a b c h1 h2 => by simp at h1 h2 ⊢; omega) (fun a b => by simp; omega) xs
        exact this.imp fun h => by simpa using h
    · have kp : ∀ b o, b ≠ a → b ≠ kS → s'.heap.get? b = some o → h3.get? b = some o := fun b o h1 h2 e => k3 b o h1 (hideAll_get _ e (by simpa using h2))
      have nH : ∀ {b o}, H b = some o → b ≠ a ∧ b ≠ kS := fun {b o} e => ⟨fun z => (by rw [z, fa.1] at e; cases e), fun z => (by rw [z, fk.1] at e; cases e)⟩
      have neU : ∀ {b : Addr}, b ∉ [a, kS] → b ≠ a ∧ b ≠ kS := fun {b} hb => ⟨fun z => hb (by simp [z]), fun z => hb (by simp [z])⟩
      have hlz : (xs.mergeSort (dataLe b fun x => PyData.int (key x))).length ≤ sizeLine := by
        rw [vo.length, hlen]
        exact hZ
      refine I'.step (g' := s'.gens) (d' := s'.drawn) (t' := tk3) (H' := upd H a (.lst (xs.mergeSort (dataLe b fun x => PyData.int (key x))))) (ch := [a, kS]) (fun b hb => ?_) (fun b o _ _ hc e _ => kp b o (neU hc).1 (neU hc).2 e) (fun b o _ _ hc e _ => ⟨o.slots, kp b o (neU hc).1 (neU hc).2 e⟩)
        (fun b o hc _ n => by rw [upd_ne (neU hc).1]; exact n) (fun b o hc e => ⟨o, kp b o (neU hc).1 (neU hc).2 e⟩) (fun b xs e => by rw [upd_ne (nH e).1]; exact e) (fun b o u e => by rw [upd_ne (nH e).1]; exact e) (fun b ps e => ⟨#[], by rw [upd_ne (nH e).1, e]; simp⟩)
        (fun m hm => ?_) (fun b u e => ?_) I'.bare
      · rcases List.mem_cons.mp hb with rfl | hb
        · exact ⟨fa.2.2.2.1, fa.2.1, fa.2.2.2.2.1, fa.2.2.2.2.2⟩
        · rcases List.mem_singleton.mp hb with rfl
          exact ⟨fk.2.2.2.1, fk.2.1, fk.2.2.2.2.1, fk.2.2.2.2.2⟩
      · obtain ⟨o, es, ep, ho, r⟩ := hm
        exact ⟨o, es, ep, kp _ o (Ne.symm fa.2.1) (Ne.symm fk.2.1) ho, r⟩
      · by_cases hb : b = a
        · subst hb
          rw [upd_same] at e
          cases e
          exact ⟨hlz, out, c, vo, n3⟩
        · rw [upd_ne hb] at e
          refine (I'.hok b u e).stay (fun c v hc q => ?_) (fun c q => by rw [upd_ne (nH q).1]; exact q) fun c xs q => by rw [upd_ne (nH q).1]; exact q
          rcases hc with rfl | hc
          · exact kp _ v (nH e).1 (nH e).2 q
          · exact kp c v (nH hc).1 (nH hc).2 q
/-- sorted(xs, key=o.m, reverse=b) -/
def rSortedM (K : PySem.W.Frag) (sp : Sp) (g : Addr) (b : Bool) : List V → List V → Hp → VK → Prop := fun vs zs H Q => ∃ (a q o : Addr) (xs : List V) (key : V → Int), vs = [V.ref a] ∧ zs = [V.ref q, .bl b] ∧ H q = some (.met g o) ∧ SqL K H a xs ∧
  (∀ x ∈ xs, ∀ Q : VK, Q (.int (key x)) H → sp [.ref o, x] H Q E0) ∧
  ∀ (ys : List V) (p : Addr), ys.Perm xs → ys.Pairwise (fun x y => if b = true then key y ≤ key x else key x ≤ key y) → H p = none → Q (.ref p) (upd H p (.lst ys))
theorem cr_sortedM {b : Bool} {k : Nat} {g : Addr} {sp : Sp} (F : FnR X.prog X.w X.K X.mg X.base CX0 k g sp) (hr : Room (k + 2) X.A) : CallRK X (.builtin "sorted") [Str.ofString "key", Str.ofString "reverse"] (rSortedM X.K sp g b) := by
  intro pins s σ H vs zs us ws Q I r rz h
  obtain ⟨a, q, o, xs, key, rfl, rfl, hq, hs, hkey, kk⟩ := h
  obtain rfl := Vals.ref1 r
  obtain ⟨w1, w2, rfl, e1, e2⟩ := vals2 rz
  obtain rfl : w1 = Value.ref q := e1
  obtain rfl : w2 = Value.bool b := e2
  obtain ⟨its, rv, hl, hz⟩ := I.list hs
  have hZ : its.length ≤ sizeLine := by rw [← rv.length]; exact hz
  have hrA : Room k X.A.in1.in1 := (hr.in1).in1
  refine sorted_of_sort hl.isList hZ (PyProof.Rows.ksk_s2 _ _ _) (fun _ => PyProof.Rows.ksk_l2 _ _ _) fun E' => ?_
  show wpAny (model X.prog X.w) X.A.in1.in1 (Builtin.«list.sort» ⟨[.ref (s.heap.objs.size + 1)], [(Str.ofString "key", .ref q), (Str.ofString "reverse", .bool b)]⟩) _ E' _
  rw [PyProof.Rows.ksk_t2]
  have ho : (copyHeap s.heap its).get? (s.heap.objs.size + 1) = some (seqObj "list" its.toArray 0) := copyHeap_at s.heap its
  obtain ⟨e1, ho1⟩ : ∃ e1, ((copyHeap s.heap its).update (s.heap.objs.size + 1) (Obj.mapSeq fun _ => (#[] : Array Value))).get? (s.heap.objs.size + 1) = some (seqObj "list" #[] e1) := ⟨_, get?_update_seq ho fun _ => #[]⟩
  have ha : s.heap.objs.size + 1 < (copyHeap s.heap its).objs.size := Heap.lt_size ho
  have hkS : (((copyHeap s.heap its).update (s.heap.objs.size + 1) (Obj.mapSeq fun _ => (#[] : Array Value))).push (seqObj "tuple" its.toArray 0)).objs.size = (copyHeap s.heap its).objs.size + 1 := by rw [size_push', Heap.size_update]
  unfold PyProof.Rows.ksk_tree
  refine wpAny_bind (listItems_at ho rfl ?_)
  refine wpAny_bind (listUpdate_at ho rfl ?_ (by rw [List.size_toArray]; exact hZ) (Nat.zero_le _))
  refine wpAny_bind (seqEpoch_at ho1 rfl ?_)
  refine wpAny_bind (wpAny_newTuple ?_ (by show its.length ≤ _; exact hZ))
  refine wpAny_bind (wpAny_newList ?_ (Nat.zero_le _))
  refine wpAny_holding ?_
  have keep : ∀ b o, s.heap.get? b = some o → (sortingHeap (copyHeap s.heap its) (s.heap.objs.size + 1) its).get? b = some o := fun b o e =>
    sortingHeap_old (Nat.ne_of_lt (Nat.lt_succ_of_lt (Heap.lt_size e))) (copyHeap_old e)
  have I1 : L2.Inv X pins σ H { s with heap := sortingHeap (copyHeap s.heap its) (s.heap.objs.size + 1) its } := I.kept (t' := s.toks) keep
  have fa : FpOk X pins H (s.heap.objs.size + 1) := I.fpOk (Nat.le_succ _) (I.hok.fresh (Nat.le_succ _))
  have hkge : s.heap.objs.size ≤ (((copyHeap s.heap its).update (s.heap.objs.size + 1) (Obj.mapSeq fun _ => (#[] : Array Value))).push (seqObj "tuple" its.toArray 0)).objs.size := by rw [hkS]; exact Nat.le_succ_of_le (Nat.le_of_lt (Nat.lt_of_succ_lt ha))
  have fk : FpOk X pins H (((copyHeap s.heap its).update (s.heap.objs.size + 1) (Obj.mapSeq fun _ => (#[] : Array Value))).push (seqObj "tuple" its.toArray 0)).objs.size := I.fpOk hkge (I.hok.fresh hkge)
  refine keyI_rest (key := key) (xs := xs) (s := { s with heap := sortingHeap (copyHeap s.heap its) (s.heap.objs.size + 1) its }) I1 fa fk (by rw [hkS]; exact Nat.ne_of_gt (Nat.lt_succ_of_lt ha)) (Heap.get?_push_size _ rfl) (Heap.get?_push_of_some _ (Heap.get?_push_of_some _ ho1)) rv hZ (by have := hrA.un; omega) (fun x v hx rx pins' s' I' => ?_) fun ys s' hp hw I' => ?_
  · refine wpAny_call (PySem.W.method_call (met_P I' hq).1 (run_at (us := [Value.ref o, v]) (vs := [V.ref o, x]) F hrA rfl I' (.cons rfl (.cons rx .nil)) (hkey x hx (fun u H2 => u = .int (key x) ∧ H2 = H) ⟨rfl, rfl⟩) fun u s2 ⟨y, H2, I2, ry, ey, eh⟩ => ?_))
    subst ey eh
    exact ⟨I2, ry⟩
  · exact ⟨rfl, .ref _, _, I', rfl, kk ys _ hp hw fa.1⟩
end
/-! ### sorted(d), the keys ints -/
theorem ints_at : ∀ {us : List Value} {ks : List Int}, us.length = ks.length → (∀ (j : Nat) (v : Value), us[j]? = some v → ∃ (x : Int) (t : Tok), ks[j]? = some x ∧ v = Value.int x t) → IntsAre us ks
  | [], [], _, _ => .nil
  | u :: us, k :: ks, hl, h => by
    obtain ⟨x, t, e1, e2⟩ := h 0 u rfl
    have e1' : k = x := Option.some.inj e1
    subst e1'
    subst e2
    refine .cons _ _ (ints_at (by simpa using hl) fun j v e => ?_)
    obtain ⟨x, t, a, b⟩ := h (j + 1) v (by simpa using e)
    exact ⟨x, t, by simpa using a, b⟩
  | [], _ :: _, hl, _ => by simp at hl
  | _ :: _, [], hl, _ => by simp at hl
def rSortedDI : List V → Hp → VK → Prop := fun xs H Q => ∃ (a : Addr) (kvs : List (Key × V)) (ns : List Int), xs = [V.ref a] ∧ Rd H a (.dK kvs) ∧ kvs.map (·.1) = ns.map Sum.inl ∧
  ∀ (ns' : List Int) (p : Addr), ns'.Perm ns → ns'.Pairwise (· ≤ ·) → H p = none → Q (.ref p) (upd H p (.lst (ns'.map V.int)))
theorem cr_sortedDI {X : Cx} (hcalm : X.calm = true) : CallR X (.builtin "sorted") rSortedDI := by
  intro pins s σ H xs us Q I r q
  obtain ⟨a, kvs, ks, ex, hd, hks, q⟩ := q
  subst ex
  obtain ⟨u, eu, rx⟩ := vals1 r
  subst eu
  cases rx
  obtain ⟨z, lo, vs, rel, dd⟩ := dk_rd I.hok hd
  obtain ⟨ep, hat⟩ := dd.dictAt
  have hkeys : vs.map (·.1) = ks.map Sum.inl := rel.keys.symm.trans hks
  have hl : vs.length = ks.length := by
    have e := congrArg List.length hkeys
    rw [List.length_map, List.length_map] at e
    exact e
  have h16 : vs.length ≤ sizeLine := by
    have e := Paired.length rel
    rw [← e]
    exact z
  refine Calls.call_function_entry PyProof.Rows.kind_sorted PyProof.Rows.plain_sorted PyProof.Rows.entry_sorted (PyProof.Rows.args_sorted1 _) ?_
  unfold Builtin.«sorted»
  refine wpAny_bind (m := checkCount "sorted" 1 1 _) (wpAny_pure ?_)
  refine wpAny_bind (PySem.W.kdu_collect (A := X.A.in1) (PySem.W.kdl_dict (knd := mixKind X.prog X.w) (kvs := vs) (ep := ep) lo) (I.ok.hd hcalm) hat h16 fun h' tk acc hk hacc => ?_)
  have hal : acc.toList.length = ks.length := by rw [Array.length_toList, hacc.1, hl]
  have hS : IntsAre acc.toList ks := ints_at hal fun j v e => by
    obtain ⟨k, x, e1, e2⟩ := hacc.2 j v (by rw [← Array.getElem?_toList]; exact e)
    have e3 : (vs.map (·.1))[j]? = some k := by rw [List.getElem?_map, e1]; all_goals rfl
    rw [hkeys, List.getElem?_map] at e3
    cases e4 : ks[j]? with
    | none => rw [e4] at e3; cases e3
    | some y =>
      rw [e4] at e3
      have e5 : Sum.inl y = k := Option.some.inj e3
      subst e5
      obtain ⟨t, ev⟩ := Value.isInt_shape (k := y) (v := v) e2
      exact ⟨y, t, rfl, ev⟩
  have hz : acc.toList.length ≤ sizeLine := by rw [hal, ← hl]; exact h16
  have I1 : L2.Inv X pins σ H { s with heap := h', toks := tk } := I.kept hk
  refine wpAny_bind (wpAny_newList ?_ hz)
  have hoL : (h'.push (seqObj "list" acc.toList.toArray 0)).get? h'.objs.size = some (seqObj "list" acc.toList.toArray 0) := Heap.get?_push_size _ rfl
  show wpAny _ _ _ _ _ { s with heap := h'.push (seqObj "list" acc.toList.toArray 0), toks := tk }
  refine wpAny_bind (wpAny_holding (wpAny_call_entry PyProof.Rows.slot_list_sort ⟨_, hoL, rfl⟩ PyProof.Rows.entry_list_sort
    (SrtO.list_sort_ord (s := { s with heap := h'.push (seqObj "list" acc.toList.toArray 0), toks := tk }) SrtO.swo_int hoL hz (fun h2 => SrtO.ints_sortable hS h2) fun out h1 h2 => ⟨_, rfl, ?_⟩) (PyProof.Rows.args_list_sort _)))
  obtain ⟨k1, k2, k3⟩ := SrtO.ints_out hS h1 h2
  obtain ⟨e', he'⟩ := PyProof.Rows.sortedHeap_at (vs := acc.toList) (out := out.toArray) hoL
  have hlen : ((out.map SrtO.iv).map V.int).length ≤ sizeLine := by
    rw [List.length_map, k2.length_eq, ← hl]
    exact h16
  refine wpAny_pure ⟨_, rfl, .ref h'.objs.size, upd H h'.objs.size (.lst ((out.map SrtO.iv).map V.int)), I1.laid (t' := tk) (fun b u e => ?_) (Nat.le_refl _)
    (show ObjOk X.prog X.w _ _ _ (.lst ((out.map SrtO.iv).map V.int)) from ⟨hlen, out, e', vals_of_ints k1, he'⟩), rfl, q _ _ k2 k3 (I1.hok.fresh (Nat.le_refl _))⟩
  have hb : b < h'.objs.size := Heap.lt_size e
  rw [PyProof.Rows.sortedHeap_old (Nat.ne_of_lt hb) (by rw [size_push']; exact Nat.lt_succ_of_lt hb)]
  exact Heap.get?_push_of_some _ e
/-! ### the steps -/
section
variable {K : PySem.W.Frag} {H F : Hp} {m : Mem} {v : V} {α : Type} {R : Rp α} {Q : VK}
theorem ints_of {F : Hp} : ∀ {ns : List Int} {vs : List V}, All2 (rInt F) ns vs → vs = ns.map V.int := fun h => All2.eqmap (f := V.int) h
theorem x_sortedL {ns : List Int} (O : Own H F m) (h : rList rInt F ns v) (k : ∀ ns' w H' F', ns'.Perm ns → ns'.Pairwise (· ≤ ·) → Same F F' → Own H' F' m → rList rInt F' ns' w → Q w H') : rSortedI K [v] H Q := by
  obtain ⟨a, vs, rfl, ha, r⟩ := h
  have e := ints_of r
  subst e
  exact ⟨a, ns, rfl, .inl (.inl (O.frz ha)), fun ns' p h1 h2 hp => k ns' _ _ _ h1 h2 (same_new (O.fresh hp)) (O.new hp) ⟨p, _, rfl, upd_same, All2.ofmap⟩⟩
theorem x_sortedD {d : List (Int × α)} (O : Own H F m) (h : rDict R F d v) (k : ∀ ns' w H' F', ns'.Perm (d.map (·.1)) → ns'.Pairwise (· ≤ ·) → Same F F' → Own H' F' m → rList rInt F' ns' w → Q w H') : rSortedDI [v] H Q := by
  obtain ⟨a, kvs, rfl, ha, r⟩ := h
  have e : kvs.map (·.1) = (d.map (·.1)).map Sum.inl := by
    clear ha k
    induction r with
    | nil => rfl
    | cons h t ih => rw [List.map_cons, List.map_cons, List.map_cons, ih, h.1]
  exact ⟨a, kvs, d.map (·.1), rfl, rd_own O ha, e, fun ns' p h1 h2 hp => k ns' _ _ _ h1 h2 (same_new (O.fresh hp)) (O.new hp) ⟨p, _, rfl, upd_same, All2.ofmap⟩⟩
/-- list(d) -/
theorem x_listD {d : List (Int × α)} (O : Own H F m) (h : rDictX R F d v) (k : ∀ w H' F', Same F F' → Own H' F' m → rList rInt F' (d.map (·.1)) w → Q w H') : rListD [v] H Q := by
  obtain ⟨a, kvs, rfl, ha, r⟩ := h
  exact ⟨a, kvs, rfl, O.frz ha, fun q hq => k _ _ _ (same_new (O.fresh hq)) (O.new hq) ⟨q, _, rfl, upd_same, by rw [r.keys]; exact All2.ofmap⟩⟩
theorem x_listDO {d : List (Int × α)} {a : Addr} {kvs : List (Key × V)} (O : Own H F ((a, .dK kvs) :: m)) (r : kvR R F d kvs) (k : ∀ w H' F', Same F F' → Own H' F' ((a, .dK kvs) :: m) → rList rInt F' (d.map (·.1)) w → Q w H') : rListD [.ref a] H Q :=
  ⟨a, kvs, rfl, O.at0, fun q hq => k _ _ _ (same_new (O.fresh hq)) (O.new hq) ⟨q, _, rfl, upd_same, by rw [r.keys]; exact All2.ofmap⟩⟩
end
def BMQ (C g : Addr) (nm : Str) (Q : VK) : VK := fun x H1 => ∃ a dx fs, x = .ref a ∧ H1 a = some (.ins C dx fs) ∧ fs.lookup nm = none ∧ ∀ q, H1 q = none → Q (.ref q) (upd H1 q (.met g a))
theorem x_bndM {C g : Addr} {nm : Str} {ta : TE} {σ : L2.St} {H : Hp} {Q : VK} (k : ta σ H (BMQ C g nm Q)) : tBndM C g nm ta σ H Q := k
theorem bm_of {C g a dx : Addr} {nm : Str} {fs : List (Str × V)} {H F : Hp} {m : Mem} {Q : VK} (O : Own H F m) (h : F a = some (.ins C dx fs)) (l : fs.lookup nm = none) (k : ∀ q H' F', Same F F' → Own H' F' m → F' q = some (.met g a) → Q (.ref q) H') : BMQ C g nm Q (.ref a) H :=
  ⟨a, dx, fs, rfl, O.frz h, l, fun q hq => k q _ _ (same_new (O.fresh hq)) (O.new hq) upd_same⟩
theorem x_sortedM {K : PySem.W.Frag} {sp : Sp} {g q o : Addr} {b : Bool} {H F : Hp} {m : Mem} {v : V} {Q : VK} {ns : List Int} (O : Own H F m) (h : rList rInt F ns v) (hq : F q = some (.met g o)) (hsp : ∀ n ∈ ns, ∀ Q : VK, Q (.int n) H → sp [.ref o, .int n] H Q E0)
    (k : ∀ ns' w H' F', ns'.Perm ns → ns'.Pairwise (fun x y => if b = true then y ≤ x else x ≤ y) → Same F F' → Own H' F' m → rList rInt F' ns' w → Q w H') : rSortedM K sp g b [v] [.ref q, .bl b] H Q := by
  obtain ⟨a, vs, rfl, ha, r⟩ := h
  have e := ints_of r
  subst e
  refine ⟨a, q, o, ns.map V.int, fun x => (match x with | .int i => i | _ => 0), rfl, rfl, O.frz hq, .inl (.inl (O.frz ha)), fun x hx Q' hQ => ?_, fun ys p hp hw hn => ?_⟩
  · obtain ⟨n, hn, rfl⟩ := List.mem_map.mp hx
    exact hsp n hn Q' hQ
  · obtain ⟨ns', rfl⟩ : ∃ ns' : List Int, ys = ns'.map V.int := by
      have : ∀ y ∈ ys, ∃ n, y = V.int n := fun y hy => by
        obtain ⟨n, _, e⟩ := List.mem_map.mp (hp.mem_iff.mp hy)
        exact ⟨n, e.symm⟩
      clear hp hw
      induction ys with
      | nil => exact ⟨[], rfl⟩
      | cons y ys ih =>
        obtain ⟨n, rfl⟩ := this y List.mem_cons_self
        obtain ⟨r, rfl⟩ := ih fun z hz => this z (List.mem_cons_of_mem _ hz)
        exact ⟨n :: r, rfl⟩
    have hp' : ns'.Perm ns := by
      have e1 : ns' = (ns'.map V.int).map fun x => (match x with | .int i => i | _ => 0) := by
        rw [List.map_map]
        exact (List.map_id' ns').symm
      have e2 : ns = (ns.map V.int).map fun x => (match x with | .int i => i | _ => 0) := by
        rw [List.map_map]
        exact (List.map_id' ns).symm
      rw [e1, e2]
      exact hp.map _
    rw [List.pairwise_map] at hw
    exact k ns' _ _ _ hp' hw (same_new (O.fresh hn)) (O.new hn) ⟨p, _, rfl, upd_same, All2.ofmap⟩
/-- C(..) -/
def MKQ (C : Addr) (sp : Sp) (E : XK) (Q : VK) : List V → Hp → Prop := fun vs H1 => ∀ x dx, H1 x = none → H1 dx = none → dx ≠ x → sp (.ref x :: (vs ++ [])) (upd (upd H1 dx (.own x)) x (.ins C dx [])) (fun v H2 => v = .non ∧ Q (.ref x) H2) E
theorem x_make {C : Addr} {sp : Sp} {E : XK} {t : TA} {σ : L2.St} {H : Hp} {Q : VK} (k : t σ H (MKQ C sp E Q)) : tMake C sp [] E t σ H Q := k
theorem mk_of {C : Addr} {sp : Sp} {E : XK} {H F : Hp} {m : Mem} {Q : VK} {vs : List V} (O : Own H F m) (k : ∀ x dx H' F', H x = none → Same F F' → Own H' F' ((x, .ins C dx []) :: m) → sp (.ref x :: vs) H' (fun v H2 => v = .non ∧ Q (.ref x) H2) E) : MKQ C sp E Q vs H := fun x dx hx hdx hne => by
  rw [List.append_nil]
  have O1 := O.new (o := .own x) hdx
  have hx1 : upd H dx (.own x) x = none := by rw [upd_ne (Ne.symm hne)]; exact hx
  exact k x dx _ _ hx (same_new (O.fresh hdx)) (O1.own hx1)
end Tf
/-! tables of steps, reached states, spectra: plain Lean -/
namespace Tf
abbrev Row := List (Int × Nat)
def WF (rows : List Row) : Prop := 0 < rows.length ∧ ∀ (k : Nat) (row : Row), rows[k]? = some row → ∀ p ∈ row, 0 ≤ p.1 ∧ k < p.2 ∧ p.2 < rows.length
theorem WF.row {rows : List Row} (w : WF rows) {k : Nat} (h : k < rows.length) : ∃ row, rows[k]? = some row := ⟨_, List.getElem?_eq_getElem h⟩
theorem WF.last {rows : List Row} (w : WF rows) {k : Nat} {row : Row} (h : rows[k]? = some row) (e : k + 1 = rows.length) : row = [] := by
  cases row with
  | nil => rfl
  | cons p r =>
    have := w.2 k _ h p List.mem_cons_self
    omega
inductive Reach (rows : List Row) : Nat → Prop
  | first : Reach rows 0
  | step {k : Nat} {row : Row} {p : Int × Nat} : Reach rows k → rows[k]? = some row → p ∈ row → Reach rows p.2
theorem Reach.lt {rows : List Row} (w : WF rows) {k : Nat} (h : Reach rows k) : k < rows.length := by
  cases h with
  | first => exact w.1
  | step _ h1 h2 => exact (w.2 _ _ h1 _ h2).2.2
/-- one step's lengths are looked at -/
def leastStep (cost : Int) (lens : List (Int × Int)) (acc : List (Int × Int)) (k : Int) : List (Int × Int) :=
  let total := cost + (getD lens k).getD 0
  match getD acc (k + 1) with
  | none => putD acc (k + 1) total
  | some x => if total < x then putD acc (k + 1) total else acc
def leastAll (cost : Int) (lens acc : List (Int × Int)) : List (Int × Int) := (lens.map (·.1)).foldl (leastStep cost lens) acc
def leastOf (row : Row) (look : Nat → List (Int × Int)) : List (Int × Int) := row.foldl (fun acc p => leastAll p.1 (look p.2) acc) []
def lensF (rows : List Row) : Nat → Nat → List (Int × Int)
  | 0, _ => []
  | n + 1, k => if k + 1 = rows.length then [(0, 0)] else leastOf ((rows[k]?).getD []) (lensF rows n)
def lens (rows : List Row) (k : Nat) : List (Int × Int) := lensF rows (rows.length - k) k
theorem leastOf_congr {row : Row} {f g : Nat → List (Int × Int)} (h : ∀ p ∈ row, f p.2 = g p.2) : leastOf row f = leastOf row g := by
  unfold leastOf
  generalize ([] : List (Int × Int)) = acc
  induction row generalizing acc with
  | nil => rfl
  | cons p r ih =>
    rw [List.foldl_cons, List.foldl_cons, h p List.mem_cons_self]
    exact ih (fun q hq => h q (List.mem_cons_of_mem _ hq)) _
theorem lensF_fuel {rows : List Row} (w : WF rows) : ∀ (n k : Nat), k < rows.length → rows.length - k ≤ n → lensF rows n k = lens rows k := by
  have main : ∀ (n m k : Nat), k < rows.length → rows.length - k ≤ n → rows.length - k ≤ m → lensF rows n k = lensF rows m k := by
    intro n
    induction n with
    | zero =>
      intro m k hk h1 h2
      omega
    | succ n ih =>
      intro m k hk h1 h2
      cases m with
      | zero => omega
      | succ m =>
        unfold lensF
        split
        · rfl
        · refine leastOf_congr fun p hp => ?_
          obtain ⟨row, hr⟩ := w.row hk
          rw [hr] at hp
          have := w.2 k row hr p hp
          exact ih m p.2 this.2.2 (by omega) (by omega)
  intro n k hk h
  exact main n _ k hk h (Nat.le_refl _)
theorem lens_last {rows : List Row} {k : Nat} (e : k + 1 = rows.length) : lens rows k = [(0, 0)] := by
  unfold lens
  rw [show rows.length - k = 0 + 1 by omega]
  unfold lensF
  rw [if_pos e]
theorem lens_row {rows : List Row} (w : WF rows) {k : Nat} {row : Row} (hr : rows[k]? = some row) (e : k + 1 ≠ rows.length) : lens rows k = leastOf row (lens rows) := by
  have hk : k < rows.length := (List.getElem?_eq_some_iff.mp hr).1
  have e1 : lens rows k = lensF rows ((rows.length - k - 1) + 1) k := congrArg (fun n => lensF rows n k) (show rows.length - k = (rows.length - k - 1) + 1 by omega)
  rw [e1]
  unfold lensF
  rw [if_neg e, hr]
  refine leastOf_congr fun p hp => ?_
  have := w.2 k row hr p hp
  exact lensF_fuel w _ _ this.2.2 (by omega)
/-! the lengths differ and are few -/
def Keys (B : Nat) (d : List (Int × Int)) : Prop := (d.map (·.1)).Nodup ∧ ∀ x ∈ d.map (·.1), 0 ≤ x ∧ x < (B : Int)
theorem nodup_len : ∀ (B : Nat) (l : List Int), l.Nodup → (∀ x ∈ l, 0 ≤ x ∧ x < (B : Int)) → l.length ≤ B
  | 0, l, _, h => by
    cases l with
    | nil => exact Nat.le_refl _
    | cons x l =>
      have := h x List.mem_cons_self
      omega
  | B + 1, l, hn, h => by
    by_cases hm : (B : Int) ∈ l
    · have h1 := nodup_len B (l.erase (B : Int)) (hn.erase _) fun x hx => by
        have hx' := (hn.mem_erase_iff).mp hx
        have := h x hx'.2
        omega
      rw [List.length_erase_of_mem hm] at h1
      omega
    · have := nodup_len B l hn fun x hx => by
        have := h x hx
        have : x ≠ (B : Int) := fun e => hm (e ▸ hx)
        omega
      omega
theorem Keys.len {B : Nat} {d : List (Int × Int)} (h : Keys B d) : d.length ≤ B := by
  have := nodup_len B _ h.1 h.2
  rw [List.length_map] at this
  exact this
theorem Keys.put {B : Nat} {d : List (Int × Int)} {k x : Int} (h : Keys B d) (hk : 0 ≤ k ∧ k < (B : Int)) : Keys B (putD d k x) := by
  refine ⟨putD_nodup h.1, fun y hy => ?_⟩
  rw [putD_keys] at hy
  split at hy
  · exact h.2 y hy
  · rcases List.mem_append.mp hy with q | q
    · exact h.2 y q
    · rw [List.mem_singleton.mp q]
      exact hk
theorem Keys.step {B : Nat} {cost : Int} {ls acc : List (Int × Int)} {k : Int} (h : Keys (B + 1) acc) (hk : 0 ≤ k ∧ k < (B : Int)) : Keys (B + 1) (leastStep cost ls acc k) := by
  unfold leastStep
  dsimp only
  split
  · exact h.put (by omega)
  · split
    · exact h.put (by omega)
    · exact h
theorem Keys.fold {B : Nat} {cost : Int} {ls : List (Int × Int)} : ∀ (l : List Int) {acc : List (Int × Int)}, Keys (B + 1) acc → (∀ x ∈ l, 0 ≤ x ∧ x < (B : Int)) → Keys (B + 1) (l.foldl (leastStep cost ls) acc)
  | [], _, h, _ => h
  | x :: l, _, h, hl => Keys.fold l (h.step (hl x List.mem_cons_self)) fun y hy => hl y (List.mem_cons_of_mem _ hy)
theorem Keys.all {B : Nat} {cost : Int} {ls acc : List (Int × Int)} (h : Keys (B + 1) acc) (hl : Keys B ls) : Keys (B + 1) (leastAll cost ls acc) := Keys.fold _ h hl.2
theorem Keys.nil {B : Nat} : Keys B [] := ⟨List.nodup_nil, fun _ h => (nomatch h)⟩
theorem Keys.of {B : Nat} {look : Nat → List (Int × Int)} : ∀ (row : Row) (acc : List (Int × Int)), Keys (B + 1) acc → (∀ p ∈ row, Keys B (look p.2)) → Keys (B + 1) (row.foldl (fun acc p => leastAll p.1 (look p.2) acc) acc)
  | [], _, h, _ => h
  | p :: row, _, h, hl => Keys.of row _ (h.all (hl p List.mem_cons_self)) fun q hq => hl q (List.mem_cons_of_mem _ hq)
theorem Keys.mono {B C : Nat} {d : List (Int × Int)} (h : Keys B d) (hb : B ≤ C) : Keys C d := ⟨h.1, fun x hx => by have := h.2 x hx; omega⟩
theorem lens_keys {rows : List Row} (w : WF rows) : ∀ (n k : Nat), k + n = rows.length → 0 < n → Keys n (lens rows k) := by
  intro n
  induction n using Nat.strongRecOn with
  | _ n ih =>
    intro k hk hn
    by_cases e : k + 1 = rows.length
    · rw [lens_last e]
      refine ⟨by simp, fun x hx => ?_⟩
      simp at hx
      subst hx
      omega
    · have hlt : k < rows.length := by omega
      obtain ⟨row, hr⟩ := w.row hlt
      rw [lens_row w hr e]
      obtain ⟨m, rfl⟩ : ∃ m, n = m + 1 := ⟨n - 1, by omega⟩
      refine Keys.of row [] Keys.nil fun p hp => ?_
      have h := w.2 k row hr p hp
      have := ih (rows.length - p.2) (by omega) p.2 (by omega) (by omega)
      exact this.mono (by omega)
/-! what is not yet found weighs -/
def wt (rows : List Row) (ks : List Int) : Nat := ((List.range rows.length).map fun k : Nat => if (k : Int) ∈ ks then 0 else ((rows[k]?).getD []).length + 1).sum
theorem sum_change : ∀ (L : List Nat) (f g : Nat → Nat) (k : Nat), L.Nodup → k ∈ L → (∀ j ∈ L, j ≠ k → f j = g j) → f k = 0 → (L.map f).sum + g k = (L.map g).sum
  | [], _, _, _, _, h, _, _ => by cases h
  | a :: L, f, g, k, hn, hk, hfg, h0 => by
    obtain ⟨h1, h2⟩ := List.nodup_cons.mp hn
    rw [List.map_cons, List.map_cons, List.sum_cons, List.sum_cons]
    by_cases e : a = k
    · subst e
      have : L.map f = L.map g := List.map_congr_left fun j hj => hfg j (List.mem_cons_of_mem _ hj) fun z => h1 (z ▸ hj)
      rw [this, h0]
      omega
    · have hk' : k ∈ L := (List.mem_cons.mp hk).resolve_left fun z => e z.symm
      have := sum_change L f g k h2 hk' (fun j hj => hfg j (List.mem_cons_of_mem _ hj)) h0
      rw [hfg a List.mem_cons_self e]
      omega
theorem wt_add {rows : List Row} {ks : List Int} {k : Nat} {row : Row} (hr : rows[k]? = some row) (hn : (k : Int) ∉ ks) : wt rows (ks ++ [(k : Int)]) + (row.length + 1) = wt rows ks := by
  have hk : k < rows.length := (List.getElem?_eq_some_iff.mp hr).1
  have := sum_change (List.range rows.length) (fun j : Nat => if (j : Int) ∈ ks ++ [(k : Int)] then 0 else ((rows[j]?).getD []).length + 1) (fun j : Nat => if (j : Int) ∈ ks then 0 else ((rows[j]?).getD []).length + 1) k List.nodup_range (List.mem_range.mpr hk)
    (fun j _ hj => by
      have : ((j : Int) ∈ ks ++ [(k : Int)]) ↔ (j : Int) ∈ ks := by
        rw [List.mem_append, List.mem_singleton]
        constructor
        · rintro (h | h)
          · exact h
          · omega
        · exact .inl
      by_cases h : (j : Int) ∈ ks
      · rw [if_pos h, if_pos (this.mpr h)]
      · rw [if_neg h, if_neg fun z => h (this.mp z)]) (by rw [if_pos (by simp)])
  unfold wt
  rw [if_neg hn, hr] at this
  exact this
theorem sum_range : ∀ (rows : List Row), ((List.range rows.length).map fun k : Nat => ((rows[k]?).getD []).length + 1).sum = rows.length + (rows.map List.length).sum
  | [] => rfl
  | r :: rows => by
    have ih := sum_range rows
    rw [List.length_cons, List.range_succ_eq_map, List.map_cons, List.map_map, List.sum_cons, List.map_cons, List.sum_cons]
    have : ((List.range rows.length).map ((fun k : Nat => (((r :: rows)[k]?).getD []).length + 1) ∘ Nat.succ)) = (List.range rows.length).map fun k : Nat => ((rows[k]?).getD []).length + 1 := List.map_congr_left fun j _ => by simp
    rw [this, ih]
    simp
    omega
theorem wt_nil (rows : List Row) : wt rows [] = rows.length + (rows.map List.length).sum := by
  rw [← sum_range]
  unfold wt
  congr 1
/-! sorted lists of ints are one -/
theorem sorted_one {l1 l2 : List Int} (hp : l1.Perm l2) (h1 : l1.Pairwise (· ≤ ·)) (h2 : l2.Pairwise (· ≤ ·)) : l1 = l2 :=
  hp.eq_of_pairwise (fun a b _ _ h1 h2 => Int.le_antisymm h1 h2) h1 h2
def sortI (l : List Int) : List Int := l.mergeSort (fun a b => decide (a ≤ b))
theorem sortI_perm (l : List Int) : (sortI l).Perm l := List.mergeSort_perm _ _
theorem sortI_sorted (l : List Int) : (sortI l).Pairwise (· ≤ ·) := by
  have := List.pairwise_mergeSort (le := fun a b : Int => decide (a ≤ b)) (fun a b c h1 h2 => by simp at h1 h2 ⊢; omega) (fun a b => by simp; omega) l
  exact this.imp fun h => by simpa using h
theorem sortI_eq {l l' : List Int} (hp : l'.Perm l) (h : l'.Pairwise (· ≤ ·)) : l' = sortI l := sorted_one (hp.trans (sortI_perm l).symm) h (sortI_sorted l)
/-- the told form of a spectrum -/
def told (d : List (Int × Int)) : List (Int × Int) := (sortI (d.map (·.1))).map fun k => (k, (getD d k).getD 0)
end Tf
/-! the promises of table tasks, of steps_of_reached, of least_lengths, of Lengths -/
namespace Tf
open PySem PySem.Spec PyProof.Rows L2
abbrev rRow : Rp Row := rList (rPair rInt rNat)
abbrev rRows : Rp (List Row) := rList rRow
abbrev rRowS : Rp Row := rSeq (rPair rInt rNat)
abbrev rRowsS : Rp (List Row) := rSeq rRowS
/-- a table task -/
def rTask (C : Addr) : Rp (List Row) := fun F rows v => ∃ a dx t, v = .ref a ∧ F a = some (.ins C dx [("_table", t)]) ∧ rRows F rows t
instance {C : Addr} : MonoS (rTask C) := ⟨fun s ⟨a, dx, t, e, h, r⟩ => ⟨a, dx, t, e, s _ _ h, up s r⟩⟩
def spTInit (C : Addr) : Sp := fun vs H Q _ => ∃ x dx v rows F m, vs = [.ref x, v] ∧ Own H F ((x, .ins C dx []) :: m) ∧ rRowsS F rows v ∧ WF rows ∧ rows.length < 16777216 ∧ (∀ row ∈ rows, row.length < 16777216) ∧
  ∀ H' F' t, Same F F' → Own H' F' ((x, .ins C dx [("_table", t)]) :: m) → rRows F' rows t → Q .non H'
def spTFirst (C : Addr) : Sp := fun vs H Q _ => ∃ v rows F m, vs = [v] ∧ Own H F m ∧ rTask C F rows v ∧ Q (.int 0) H
def spTEnd (C : Addr) : Sp := fun vs H Q _ => ∃ (v : V) (rows : List Row) (k : Nat) (F : Hp) (m : Mem), vs = [v, .int (k : Int)] ∧ Own H F m ∧ rTask C F rows v ∧ Q (.bl (decide (k + 1 = rows.length))) H
def spTSteps (C : Addr) : Sp := fun vs H Q _ => ∃ (v : V) (rows : List Row) (k : Nat) (row : Row) (F : Hp) (m : Mem), vs = [v, .int (k : Int)] ∧ Own H F m ∧ rTask C F rows v ∧ rows[k]? = some row ∧
  ∀ w H' F', Same F F' → Own H' F' m → rRow F' row w → Q w H'
def spTRank : Sp := fun vs H Q _ => ∃ v k, vs = [v, .int k] ∧ Q (.int k) H
/-- found: the reached states and their steps -/
structure Found (rows : List Row) (d : List (Int × Row)) : Prop where
  nd : (d.map (·.1)).Nodup
  ent : ∀ p ∈ d, ∃ k : Nat, p.1 = (k : Int) ∧ rows[k]? = some p.2
  all : ∀ k : Nat, (k : Int) ∈ d.map (·.1) ↔ Reach rows k
def spReached (C : Addr) : Sp := fun vs H Q _ => ∃ v rows F m, vs = [v] ∧ Own H F m ∧ rTask C F rows v ∧ WF rows ∧ (rows.length + (rows.map List.length).sum < 1000000) ∧
  ∀ w H' F' d, Same F F' → Own H' F' m → rDictX rRow F' d w → Found rows d → Q w H'
abbrev rLens : Rp (List (Int × Int)) := rDictX rInt
def spLeast : Sp := fun vs H Q _ => ∃ (v w : V) (row : Row) (tab : List (Int × List (Int × Int))) (look : Nat → List (Int × Int)) (B : Nat) (F : Hp) (m : Mem), vs = [v, w] ∧ Own H F m ∧ rRow F row v ∧ rDictX rLens F tab w ∧ (∀ p ∈ row, getD tab (p.2 : Int) = some (look p.2) ∧ Keys B (look p.2)) ∧ B < 1000000 ∧
  ∀ p kvs H', Own H' F ((p, .dK kvs) :: m) → kvR rInt F (leastOf row look) kvs → Q (.ref p) H'
structure TabOk (rows : List Row) (tab : List (Int × List (Int × Int))) : Prop where
  nd : (tab.map (·.1)).Nodup
  ent : ∀ p ∈ tab, ∃ k : Nat, p.1 = (k : Int) ∧ k < rows.length ∧ p.2 = lens rows k
  all : ∀ k : Nat, (k : Int) ∈ tab.map (·.1) ↔ Reach rows k
def lF (t f b : V) : List (Str × V) := [("_task", t), ("_found", f), ("_table", b)]
/-- an instance of Lengths -/
def rLengths (C CT : Addr) : Rp (List Row) := fun F rows v => ∃ a dx t f b d tab, v = .ref a ∧ F a = some (.ins C dx (lF t f b)) ∧ rTask CT F rows t ∧ rDictX rRow F d f ∧ Found rows d ∧ rDictX rLens F tab b ∧ TabOk rows tab
instance {C CT : Addr} : MonoS (rLengths C CT) := ⟨fun s ⟨a, dx, t, f, b, d, tab, e, h, h1, h2, h3, h4, h5⟩ => ⟨a, dx, t, f, b, d, tab, e, s _ _ h, up s h1, up s h2, h3, up s h4, h5⟩⟩
def spLInit (C CT : Addr) : Sp := fun vs H Q _ => ∃ x dx v rows F m, vs = [.ref x, v] ∧ Own H F ((x, .ins C dx []) :: m) ∧ rTask CT F rows v ∧ WF rows ∧ (rows.length + (rows.map List.length).sum < 1000000) ∧
  ∀ H' F' f b d tab, Same F F' → Own H' F' ((x, .ins C dx (lF v f b)) :: m) → rDictX rRow F' d f → Found rows d → rDictX rLens F' tab b → TabOk rows tab → Q .non H'
abbrev rTold : Rp (List (Int × Int)) := rTup (rPair rInt rInt)
def spTold (C CT : Addr) : Sp := fun vs H Q _ => ∃ (v : V) (rows : List Row) (k : Nat) (F : Hp) (m : Mem), vs = [v, .int (k : Int)] ∧ Own H F m ∧ rLengths C CT F rows v ∧ WF rows ∧ rows.length < 1000000 ∧ Reach rows k ∧
  ∀ w H' F', Same F F' → Own H' F' m → rTold F' (told (lens rows k)) w → Q w H'
def spSpec (C CT : Addr) : Sp := fun vs H Q _ => ∃ v rows F m, vs = [v] ∧ Own H F m ∧ rLengths C CT F rows v ∧ WF rows ∧ rows.length < 1000000 ∧
  ∀ w H' F', Same F F' → Own H' F' m → rTold F' (told (lens rows 0)) w → Q w H'
/-- a spectrum paper -/
abbrev rPaper : Rp (List (Int × List (Int × Int))) := rTup (rPair rInt rTold)
def PaperOk (rows : List Row) (p : List (Int × List (Int × Int))) : Prop := ∃ ks : List Int, ks.Nodup ∧ ks.Pairwise (· ≤ ·) ∧ (∀ x ∈ ks, 0 ≤ x) ∧ (∀ k : Nat, (k : Int) ∈ ks ↔ Reach rows k) ∧ p = ks.map fun k => (k, told (lens rows k.toNat))
def spPaper (C CT : Addr) : Sp := fun vs H Q _ => ∃ v rows F m, vs = [v] ∧ Own H F m ∧ rLengths C CT F rows v ∧ WF rows ∧ rows.length < 1000000 ∧
  ∀ w H' F' p, Same F F' → Own H' F' m → rPaper F' p w → PaperOk rows p → Q w H'
/-- the defs of the top: spectrum, spectra -/
def spTopSpec (CT : Addr) : Sp := fun vs H Q _ => ∃ v rows F m, vs = [v] ∧ Own H F m ∧ rTask CT F rows v ∧ WF rows ∧ (rows.length + (rows.map List.length).sum < 1000000) ∧
  ∀ w H' F', Same F F' → Own H' F' m → rTold F' (told (lens rows 0)) w → Q w H'
def spTopSpectra (CT : Addr) : Sp := fun vs H Q _ => ∃ v rows F m, vs = [v] ∧ Own H F m ∧ rTask CT F rows v ∧ WF rows ∧ (rows.length + (rows.map List.length).sum < 1000000) ∧
  ∀ w H' F' p, Same F F' → Own H' F' m → rPaper F' p w → PaperOk rows p → Q w H'
/-! fields -/
theorem lk_eq {k : Str} {v : V} {fs : List (Str × V)} : ((k, v) :: fs).lookup k = some v := by simp
theorem lk_ne {k k' : Str} {v : V} {fs : List (Str × V)} (h : (k == k') = false) : ((k', v) :: fs).lookup k = fs.lookup k := by simp [List.lookup_cons, h]
theorem put_ne {k k' : Str} {v w : V} {fs : List (Str × V)} (h : ¬ k' = k) : putF k v ((k', w) :: fs) = (k', w) :: putF k v fs := by
  show (if k' = k then _ else _) = _
  rw [if_neg h]
theorem lF_task {t f b : V} : (lF t f b).lookup ("_task" : Str) = some t := lk_eq
theorem lF_found {t f b : V} : (lF t f b).lookup ("_found" : Str) = some f := by
  unfold lF
  rw [lk_ne (by decide +kernel), lk_eq]
theorem lF_table {t f b : V} : (lF t f b).lookup ("_table" : Str) = some b := by
  unfold lF
  rw [lk_ne (by decide +kernel), lk_ne (by decide +kernel), lk_eq]
section
variable {K : PySem.W.Frag} {σ : L2.St} {H F : Hp} {m : Mem} {Q : VK} {v : V}
/-- a field is read: of a thing that stands still, of one of ours -/
theorem x_fldF {a C dx : Addr} {fs : List (Str × V)} {f : Str} (O : Own H F m) (h : F a = some (.ins C dx fs)) (c : Cls K C) (n : NoAttr K C f) (l : fs.lookup f = some v) (k : Q v H) :
    FQ K f Q (.ref a) H := ⟨a, C, dx, fs, v, rfl, O.frz h, c, n, l, k⟩
theorem x_fldO {a C dx : Addr} {fs : List (Str × V)} {f : Str} (h : H a = some (.ins C dx fs)) (c : Cls K C) (n : NoAttr K C f) (l : fs.lookup f = some v) (k : Q v H) :
    FQ K f Q (.ref a) H := ⟨a, C, dx, fs, v, rfl, h, c, n, l, k⟩
end
theorem lF_make {t f b : V} : putF "_table" b (putF "_found" f (putF "_task" t [])) = lF t f b := by
  have e1 : putF "_task" t [] = ([("_task", t)] : List (Str × V)) := rfl
  have e2 : putF "_found" f ([("_task", t)] : List (Str × V)) = ([("_task", t), ("_found", f)] : List (Str × V)) := by
    rw [put_ne (k := "_found") (k' := "_task") (by decide +kernel)]
    rfl
  have e3 : putF "_table" b ([("_task", t), ("_found", f)] : List (Str × V)) = lF t f b := by
    rw [put_ne (k := "_table") (k' := "_task") (by decide +kernel), put_ne (k := "_table") (k' := "_found") (by decide +kernel)]
    rfl
  rw [e1, e2, e3]
/-- the class Lengths -/
structure LCls (K : PySem.W.Frag) (C : Addr) : Prop where
  cl : Cls K C
  n1 : NoAttr K C "_task"
  n2 : NoAttr K C "_found"
  n3 : NoAttr K C "_table"
/-! the law's own -/
def spCost : Sp := fun vs H Q _ => ∃ p o F m, vs = [.ref p] ∧ Own H F ((p, o) :: m) ∧ PoolOk F o ∧ ∀ r H' o', 0 ≤ r → Own H' F ((p, o') :: m) → PoolOk F o' → Q (.int r) H'
structure RowsOk (rows : List Row) : Prop where
  wf : WF rows
  len : rows.length ≤ 2000
  few : ∀ row ∈ rows, row.length ≤ 7
def spRows : Sp := fun vs H Q _ => ∃ p o F m, vs = [.ref p] ∧ Own H F ((p, o) :: m) ∧ PoolOk F o ∧ ∀ w H' F' o' rows, Same F F' → Own H' F' ((p, o') :: m) → PoolOk F' o' → rRows F' rows w → RowsOk rows → Q w H'
theorem RowsOk.sum {rows : List Row} (h : RowsOk rows) : rows.length + (rows.map List.length).sum < 1000000 := by
  have : ∀ (l : List Row), (∀ r ∈ l, r.length ≤ 7) → (l.map List.length).sum ≤ 7 * l.length := by
    intro l
    induction l with
    | nil => exact fun _ => Nat.le_refl _
    | cons r l ih =>
      intro hl
      have h1 := hl r List.mem_cons_self
      have h2 := ih fun q hq => hl q (List.mem_cons_of_mem _ hq)
      rw [List.map_cons, List.sum_cons, List.length_cons]
      omega
  have h1 := this rows h.few
  have h2 := h.len
  omega
/-- rows under way: the i-th rows of those that lead to below many -/
structure RowsTo (many : Nat) (rs : List Row) : Prop where
  ent : ∀ (j : Nat) (row : Row), rs[j]? = some row → row.length ≤ 7 ∧ ∀ q ∈ row, 0 ≤ q.1 ∧ j < q.2 ∧ q.2 < many
theorem RowsTo.nil {many : Nat} : RowsTo many [] := ⟨fun j row h => by simp at h⟩
theorem RowsTo.snoc {many : Nat} {rs : List Row} {row : Row} (h : RowsTo many rs) (h1 : row.length ≤ 7) (h2 : ∀ q ∈ row, 0 ≤ q.1 ∧ rs.length < q.2 ∧ q.2 < many) : RowsTo many (rs ++ [row]) := ⟨fun j r hr => by
  by_cases hj : j < rs.length
  · rw [List.getElem?_append_left hj] at hr
    exact h.ent j r hr
  · rw [List.getElem?_append_right (by omega)] at hr
    have : j = rs.length := by
      have := (List.getElem?_eq_some_iff.mp hr).1
      simp at this
      omega
    subst this
    simp at hr
    subst hr
    exact ⟨h1, h2⟩⟩
theorem RowsTo.done {many : Nat} {rs : List Row} (h : RowsTo many rs) (hl : rs.length + 1 = many) (hm : many ≤ 2000) : RowsOk (rs ++ [[]]) := by
  have hlen : (rs ++ [([] : Row)]).length = many := by
    rw [List.length_append]
    exact hl
  have g := h.snoc (row := []) (by simp) (fun q hq => (nomatch hq))
  refine ⟨⟨by omega, fun k row hr p hp => ?_⟩, by omega, fun row hr => ?_⟩
  · rw [hlen]
    exact (g.ent k row hr).2 p hp
  · obtain ⟨k, hk⟩ := List.getElem?_of_mem hr
    exact (g.ent k row hk).1
/-- a row under way -/
def RowTo (k many : Nat) (row : Row) : Prop := ∀ q ∈ row, 0 ≤ q.1 ∧ k < q.2 ∧ q.2 < many
theorem RowTo.snoc {k many : Nat} {row : Row} {c : Int} {a : Nat} (h : RowTo k many row) (h1 : 0 ≤ c) (h2 : k < a) (h3 : a < many) : RowTo k many (row ++ [(c, a)]) := fun q hq => by
  rcases List.mem_append.mp hq with hq | hq
  · exact h q hq
  · rw [List.mem_singleton.mp hq]
    exact ⟨h1, h2, h3⟩
def spLawLens : Sp := fun vs H Q _ => ∃ v rows F m, vs = [v] ∧ Own H F m ∧ rRows F rows v ∧ RowsOk rows ∧ ∀ w H' F', Same F F' → Own H' F' m → rList rLens F' ((List.range rows.length).map (lens rows)) w → Q w H'
def spLawTold : Sp := fun vs H Q _ => ∃ v d F m, vs = [v] ∧ Own H F m ∧ rLens F d v ∧ d.length < 1000000 ∧ ∀ w H' F', Same F F' → Own H' F' m → rTold F' (told d) w → Q w H'
def spLawPaper : Sp := fun vs H Q _ => ∃ v rows F m, vs = [v] ∧ Own H F m ∧ rRows F rows v ∧ RowsOk rows ∧ ∀ w H' F' p, Same F F' → Own H' F' m → rPaper F' p w → PaperOk rows p → Q w H'
theorem perm_of {l1 l2 : List Int} (h1 : l1.Nodup) (h2 : l2.Nodup) (h : ∀ x, x ∈ l1 ↔ x ∈ l2) : l1.Perm l2 := (List.perm_ext_iff_of_nodup h1 h2).mpr h
theorem PaperOk.one {rows : List Row} {p q : List (Int × List (Int × Int))} (hp : PaperOk rows p) (hq : PaperOk rows q) : p = q := by
  obtain ⟨ks, a1, a2, a3, a4, rfl⟩ := hp
  obtain ⟨ls, b1, b2, b3, b4, rfl⟩ := hq
  have e : ks = ls := sorted_one (perm_of a1 b1 fun x => ⟨fun h => by
    have := a3 x h
    obtain ⟨n, rfl⟩ : ∃ n : Nat, x = (n : Int) := ⟨x.toNat, by omega⟩
    exact (b4 n).mpr ((a4 n).mp h), fun h => by
    have := b3 x h
    obtain ⟨n, rfl⟩ : ∃ n : Nat, x = (n : Int) := ⟨x.toNat, by omega⟩
    exact (a4 n).mpr ((b4 n).mp h)⟩) a2 b2
  rw [e]
theorem PaperOk.first {rows : List Row} {p : List (Int × List (Int × Int))} (hp : PaperOk rows p) : p[0]? = some (0, told (lens rows 0)) := by
  obtain ⟨ks, a1, a2, a3, a4, rfl⟩ := hp
  have h0 : (0 : Int) ∈ ks := (a4 0).mpr .first
  cases ks with
  | nil => cases h0
  | cons k ks =>
    have e : k = 0 := by
      rcases List.mem_cons.mp h0 with h | h
      · exact h.symm
      · have := (List.pairwise_cons.mp a2).1 0 h
        have := a3 k List.mem_cons_self
        omega
    subst e
    rfl
theorem PaperOk.len {rows : List Row} {p : List (Int × List (Int × Int))} (hp : PaperOk rows p) (w : WF rows) : p.length ≤ rows.length ∧ ∀ x ∈ p, x.2.length ≤ rows.length := by
  obtain ⟨ks, a1, a2, a3, a4, rfl⟩ := hp
  have hk : ∀ x ∈ ks, 0 ≤ x ∧ x < (rows.length : Int) := fun x hx => by
    have h0 := a3 x hx
    obtain ⟨n, rfl⟩ : ∃ n : Nat, x = (n : Int) := ⟨x.toNat, by omega⟩
    have := ((a4 n).mp hx).lt w
    omega
  refine ⟨?_, fun x hx => ?_⟩
  · rw [List.length_map]
    exact nodup_len _ _ a1 hk
  · obtain ⟨k, h, rfl⟩ := List.mem_map.mp hx
    have := hk k h
    show (told (lens rows k.toNat)).length ≤ _
    unfold told
    rw [List.length_map, (sortI_perm _).length_eq, List.length_map]
    have := (lens_keys w (rows.length - k.toNat) k.toNat (by omega) (by omega)).len
    omega
/-! papers are alike -/
theorem sim_told {F : Hp} {d : List (Int × Int)} {v w : V} (hl : d.length < 16777216) (h : rTold F d v) (h' : rTold F d w) : Sim F 2 v w := by
  have : SimR (rPair rInt rInt) 1 := sim_pair (R := rInt) (S := rInt) (n := 0) SimR.sim SimR.sim
  exact sim_tup hl h h'
theorem all2_simX {α : Type} {R : Rp α} {n : Nat} {F : Hp} : ∀ {xs : List α} {vs ws : List V}, (∀ x ∈ xs, ∀ v w, R F x v → R F x w → Sim F n v w) → All2 (R F) xs vs → All2 (R F) xs ws → All2 (Sim F n) vs ws
  | _, _, _, _, .nil, .nil => .nil
  | _, _, _, f, .cons h t, .cons h' t' => .cons (f _ List.mem_cons_self _ _ h h') (all2_simX (fun x hx => f x (List.mem_cons_of_mem _ hx)) t t')
theorem sim_paper {F : Hp} {p : List (Int × List (Int × Int))} {v w : V} (hl : p.length < 16777216) (hx : ∀ x ∈ p, x.2.length < 16777216) : rPaper F p v → rPaper F p w → Sim F 4 v w := fun ⟨a, vs, e, h, r⟩ ⟨a', vs', e', h', r'⟩ =>
  .inr ⟨a, a', vs, vs', e, e', all2_simX (fun x hm v w ⟨b, u, z, e1, hb, hu, hz⟩ ⟨b', u', z', e2, hb', hu', hz'⟩ =>
    .inr ⟨b, b', _, _, e1, e2, .cons ((SimR.sim (R := rInt) (n := 0) hu hu').le (by decide)) (.cons (sim_told (hx x hm) hz hz') .nil), by show 2 < _; decide, .inl ⟨hb, hb'⟩⟩) r r', by rw [← r.length]; exact hl, .inl ⟨h, h'⟩⟩
theorem sim_rows {F : Hp} {p : List Row} {v w : V} (hl : p.length < 16777216) (hx : ∀ x ∈ p, x.length < 16777216) : rRows F p v → rRows F p w → Sim F 4 v w := fun ⟨a, vs, e, h, r⟩ ⟨a', vs', e', h', r'⟩ => by
  have : SimR (rPair rInt rNat) 1 := sim_pair (R := rInt) (S := rNat) (n := 0) SimR.sim SimR.sim
  exact Sim.le (n := 3) (by decide) (.inr ⟨a, a', vs, vs', e, e', all2_simX (fun x hm v w h1 h2 => sim_list (hx x hm) h1 h2) r r', by rw [← r.length]; exact hl, .inr ⟨h, h'⟩⟩)
end Tf
local macro_rules | `(tactic| walk_at "x1") => `(tactic| first
  | with_reducible refine Tf.x_seq ?_
  | with_reducible refine Tf.x_asg ?_
  | with_reducible refine Tf.x_name ?_
  | with_reducible refine Tf.x_c ?_
  | with_reducible refine Tf.x_op ?_
  | ((with_reducible refine Tf.x_var (v := ?v0) ?hv ?_); (case hv => rfl))
  | with_reducible refine Tf.x_I0 ?_
  | with_reducible refine Tf.x_nx ?_
  | with_reducible refine Tf.x_rt ?_
  | with_reducible refine Tf.x_eqI ?_
  | with_reducible refine Tf.x_neI ?_
  | with_reducible refine Tf.x_test ?_
  | with_reducible refine Tf.x_bl ?_
  | with_reducible refine Tf.x_if ?_
  | with_reducible refine Tf.x_cons ?_
  | with_reducible refine Tf.x_nil ?_
  | with_reducible refine Tf.x_call ?_
  | with_reducible refine Tf.x_cb ?_
  | with_reducible refine Tf.x_sub ?_
  | with_reducible refine Tf.x_ret ?_
  | with_reducible refine Tf.x_drop ?_
  | with_reducible refine Tf.x_next ?_
  | with_reducible refine Tf.x_int ?_
  | with_reducible refine Tf.x_intB ?_
  | with_reducible refine Tf.x_abs ?_
  | with_reducible refine Tf.x_and ?_
  | with_reducible refine Tf.x_bndM ?_
  | with_reducible refine Tf.x_make ?_
  | with_reducible refine Tf.x_meth ?_
  | with_reducible refine Tf.x_tru ?_
  | with_reducible refine Tf.x_ckw ?_
  | with_reducible refine Tf.x_bm ?_
  | with_reducible refine Tf.x_bm0 ?_
  | with_reducible refine Tf.x_sfld ?_
  | with_reducible refine Tf.x_forS ?_
  | with_reducible refine Tf.x_forE ?_
  | with_reducible refine Tf.x_lcS ?_
  | with_reducible refine Tf.x_min2 ?_
  | with_reducible refine Tf.x_max2 ?_
  | with_reducible refine Tf.x_isNon ?_
  | with_reducible refine Tf.x_notNon ?_
  | with_reducible refine Tf.x_isB ?_
  | with_reducible refine Tf.x_or ?_
  | with_reducible refine Tf.x_not ?_
  | with_reducible refine Tf.x_B ?_
  | with_reducible refine Tf.x_tup ?_
  | with_reducible refine Tf.x_lst ?_
  | with_reducible refine Tf.x_dget ?_
  | with_reducible refine Tf.x_din ?_
  | with_reducible refine Tf.x_dnotin ?_
  | with_reducible refine Tf.x_dput ?_
  | with_reducible refine Tf.x_gcons ?_
  | with_reducible refine Tf.x_gnil ?_
  | with_reducible refine Tf.x_un ?_
  | with_reducible refine Tf.x_U ?_
  | with_reducible refine Tf.x_ct ?_
  | with_reducible refine Tf.x_bk ?_
  | with_reducible refine Tf.x_brk ?_
  | with_reducible refine Tf.x_cont ?_
  | with_reducible refine Tf.x_retN ?_
  | with_reducible refine Tf.x_forL ?_
  | with_reducible refine Tf.x_forT ?_
  | with_reducible refine Tf.x_forR1 ?_
  | with_reducible refine Tf.x_forR2 ?_
  | with_reducible refine Tf.x_forR3 ?_
  | with_reducible refine Tf.x_forK ?_
  | with_reducible refine Tf.x_abs ?_
  | with_reducible refine Tf.x_lcL ?_
  | with_reducible refine Tf.x_lcT ?_
  | with_reducible refine Tf.x_lcR1 ?_
  | with_reducible refine Tf.x_yes ?_
  | with_reducible refine Tf.x_ifE ?_
  | with_reducible refine Tf.x_andV ?_
  | with_reducible refine Tf.x_orV ?_
  | with_reducible refine Tf.x_notV ?_
  | with_reducible refine Tf.x_fld ?_
  | ((with_reducible refine Tf.x_aug (v := ?v0) ?hv ?_); (case hv => rfl))
  | with_reducible refine Tf.x_ipI ?_
  | with_reducible refine Tf.p_get0 (by assumption) ?_
  | with_reducible refine Tf.p_get1 (by assumption) ?_
  | with_reducible refine Tf.p_get2 (by assumption) ?_
  | with_reducible refine Tf.p_get3 (by assumption) ?_
  | with_reducible refine Tf.p_get4 (by assumption) ?_
  | with_reducible refine Tf.p_set1 (by assumption) (fun H' O' => ?_)
  | with_reducible refine Tf.p_set2 (by assumption) (fun H' O' => ?_)
  | with_reducible refine Tf.p_set3 (by assumption) (fun H' O' => ?_)
  | with_reducible refine Tf.p_set4 (by assumption) (fun H' O' => ?_)
  | ((with_reducible refine Tf.x_I ?h ?_); (case h => walk_at "xC")))
local macro_rules | `(tactic| walk_at "xC") => `(tactic| first
  | (show (0 : Int) < _; first | decide | omega)
  | (refine Or.inr ⟨?_, ?_⟩ <;> first | decide | omega)
  | (refine Or.inl ⟨?_, ?_⟩ <;> first | decide | omega)
  | exact L2.wide_div (b := 60) (by omega) (by omega) (by decide) (by decide)
  | (refine ⟨?_, ?_, ?_⟩ <;> decide))
local macro_rules | `(tactic| walk_at "x") => `(tactic| repeat walk_at "x1")
namespace Tf
open PySem PySem.Spec PyProof.Rows L2
def top (i : Nat) : Stmt := PySem.Challenge.pw_typeforge_k74_spectra_of_tasks.main.body.getD i (.Pass ⟨0, 0, 0, 0⟩)
section
variable {P : Program} {w : World} {K : PySem.W.Frag} {mg : Str → Option Value} {base : Heap}
abbrev sDr : Stmt := top 15
abbrev NDr : List Str := ["pool", "many", "cell", "got", "one"]
theorem scDr : FnScope NDr ["pool", "many"] (defScope sDr) := ⟨rfl, rfl, rfl, by decide +kernel, rfl, by decide +kernel, by decide +kernel⟩
theorem ok_Dr {f : Addr} {fd : FuncData} (F : Fun K "_law_draw" "_law_draw" sDr f fd) (T : Bi mg) : FnOk P w K mg base CX0 1 f fd ["pool", "many"] spDraw := by
  refine F.ok scDr (fun vs H Q E h => ?_) (fun cdv A outer s H vs Q E hr h => ?_)
  · obtain ⟨p, o, n, F, m, rfl, _⟩ := h
    rfl
  · obtain ⟨p, _, n, F, m, rfl, O, ⟨s, script, i, b, c, z, rfl, hs, hi, hb⟩, n0, n1, k⟩ := h
    refine ⟨_, 
    (pss_cons (ps_asg (pe_op op_add (pe_ix ix_list (pv 0) pe_int (fun _ _ => rfl)) pe_int) (pg_sub (pv 0) pe_int set_list))
    (Tf.pss_cut (ps_if (PW.pt (pw_and (pt_cmpR op_eq (pe_ix ix_list (pv 0) pe_int (fun _ _ => rfl)) pe_int (nomark _)) (pw_and1 (pt_cmpR op_lt (pe_ix ix_list (pv 0) pe_int (fun _ _ => rfl)) (pe_callB cr_len (by rfl) T.b_len (by decide +kernel) (pa_cons (pe_ix ix_list (pv 0) pe_int (fun _ _ => rfl)) pa_nil)) (nomark _))))) 
      (pss_cons (ps_set (i := 2) scDr.nd rfl (Or.inl rfl) (pe_ix ix_list (pe_ix ix_list (pv 0) pe_int (fun _ _ => rfl)) (pe_ix ix_list (pv 0) pe_int (fun _ _ => rfl)) (fun _ _ => rfl)))
      (pss_cons (ps_asg (pe_op op_add (pe_ix ix_list (pv 0) pe_int (fun _ _ => rfl)) pe_int) (pg_sub (pv 0) pe_int set_list))
      (pss_one (ps_if (pt_cmpR op_ge (pe_callB cr_abs (by rfl) T.b_abs (by decide +kernel) (pa_cons (pv 2) pa_nil)) (pe_op op_pow pe_int pe_int) (nomark _)) 
        (pss_one (ps_asg (pe_callB cr_abs (by rfl) T.b_abs (by decide +kernel) (pa_cons (pv 2) pa_nil)) (pg_sub (pv 0) pe_int set_list))) 
        (pss_one (ps_asg (pe_op op_mod (pe_callTy cr_int (by rfl) T.b_int (by decide +kernel) (pa_cons (pe_op op_add (pe_op op_add (pe_op op_mul (pe_ix ix_list (pv 0) pe_int (fun _ _ => rfl)) pe_int) (pe_op op_mul (pv 2) pe_int)) pe_int) pa_nil)) pe_int) (pg_sub (pv 0) pe_int set_list))))))) pss_nil)
    (pss_cons (ps_if (pt_cmpR op_gt (pe_ix ix_list (pv 0) pe_int (fun _ _ => rfl)) pe_int (nomark _)) 
      (pss_cons (ps_set (i := 3) scDr.nd rfl (Or.inl rfl) (pe_op op_mod (pe_callTy cr_int (by rfl) T.b_int (by decide +kernel) (pa_cons (pe_ix ix_list (pv 0) pe_int (fun _ _ => rfl)) pa_nil)) (pv 1)))
      (pss_cons (ps_asg (pe_op op_fdivW (pe_ix ix_list (pv 0) pe_int (fun _ _ => rfl)) (pv 1)) (pg_sub (pv 0) pe_int set_list))
      (pss_one (ps_ret (pv 3))))) pss_nil)
    (pss_cons (ps_set (i := 4) scDr.nd rfl (Or.inl rfl) (pe_op op_mod (pe_callTy cr_int (by rfl) T.b_int (by decide +kernel) (pa_cons (pe_op op_add (pe_ix ix_list (pv 0) pe_int (fun _ _ => rfl)) (pe_op op_mul (pe_ix ix_list (pv 0) pe_int (fun _ _ => rfl)) pe_int)) pa_nil)) pe_int))
    (pss_cons (ps_set (i := 4) scDr.nd rfl (Or.inl rfl) (pe_op op_mod (pe_callTy cr_int (by rfl) T.b_int (by decide +kernel) (pa_cons (pe_op op_add (pe_op op_add (pe_op op_mul (pv 4) (pv 4)) (pe_op op_mul (pe_ix ix_list (pv 0) pe_int (fun _ _ => rfl)) pe_int)) pe_int) pa_nil)) pe_int))
    (pss_cons (ps_set (i := 4) scDr.nd rfl (Or.inl rfl) (pe_op op_mod (pe_callTy cr_int (by rfl) T.b_int (by decide +kernel) (pa_cons (pe_op op_add (pe_op op_add (pe_op op_mul (pv 4) (pv 4)) (pe_ix ix_list (pv 0) pe_int (fun _ _ => rfl))) pe_int) pa_nil)) pe_int))
    (pss_one (ps_ret (pe_op op_mod (pe_callTy cr_int (by rfl) T.b_int (by decide +kernel) (pa_cons (pe_op op_fdivW (pv 4) pe_int) pa_nil)) (pv 1)))))))))), ?_⟩
    have fin : ∀ r H' s i b c z, 0 ≤ r → r < n → rList rInt F script s → 0 ≤ i → 0 ≤ b → Own H' F ((p, poolO s i b c z) :: m) → Q (.int r) H' := fun r H' s i b c z h1 h2 h3 h4 h5 O' =>
      k r H' _ h1 h2 O' ⟨s, script, i, b, c, z, rfl, h3, h4, h5⟩
    walk_at "x"
    refine x_cut (fun σ' H' => ∃ i b c z u, σ' = [some (.ref p), some (.int n), u, none, none] ∧ 0 ≤ i ∧ 0 ≤ b ∧ Own H' F ((p, poolO s i b c z) :: m)) ?_ ?_
    · walk_at "x"
      have nxt : ∀ (σ' : L2.St) H' i b c z u, σ' = [some (.ref p), some (.int n), u, none, none] → 0 ≤ i → 0 ≤ b → Own H' F ((p, poolO s i b c z) :: m) →
        ∃ i b c z u, σ' = [some (.ref p), some (.int n), u, none, none] ∧ 0 ≤ i ∧ 0 ≤ b ∧ Own H' F ((p, poolO s i b c z) :: m) := fun σ' H' i b c z u h1 h2 h3 h4 => ⟨i, b, c, z, u, h1, h2, h3, h4⟩
      refine x_iteD (fun h0 => ?_) (fun h0 => ?_)
      · walk_at "x"
        refine x_lenL (by assumption) hs ?_
        walk_at "x"
        refine x_iteD (fun h1 => ?_) (fun h1 => ?_)
        · walk_at "x"
          obtain ⟨cell, hc⟩ : ∃ cell, script[i.toNat]? = some cell := ⟨_, List.getElem?_eq_getElem (by omega)⟩
          refine x_ixL (j := i.toNat) (by assumption) hs (by omega) hc (fun w hw => ?_)
          have hw : w = .int cell := hw
          subst hw
          walk_at "x"
          have hcell : ((if cell < 0 then -cell else cell) : Int) ≥ 0 := by split <;> omega
          refine x_iteD (fun h2 => ?_) (fun h2 => ?_)
          · walk_at "x"
            refine nxt _ _ _ _ _ _ _ rfl ?_ ?_ (by assumption) <;> omega
          · have h2' : ((if cell < 0 then -cell else cell) : Int) < 10 ^ 18 := by
              have : ((10 : Int) ^ (18 : Int).toNat) = 10 ^ 18 := rfl
              omega
            walk_at "x"
            refine nxt _ _ _ _ _ _ _ rfl ?_ ?_ (by assumption) <;> omega
        · walk_at "x"
          exact nxt _ _ _ _ _ _ _ rfl hi hb (by assumption)
      · walk_at "x"
        exact nxt _ _ _ _ _ _ _ rfl hi hb (by assumption)
    · rintro σ' H' ⟨i, b, c, z, u, rfl, hi, hb, O'⟩
      walk_at "x"
      refine x_iteD (fun h0 => ?_) (fun h0 => ?_)
      · walk_at "x"
        refine fin _ _ _ _ _ _ _ (Int.emod_nonneg _ ?_) (Int.emod_lt_of_pos _ n0) hs ?_ ?_ (by assumption)
        · omega
        · omega
        · exact Int.ediv_nonneg hb (by omega)
      · walk_at "x"
        refine fin _ _ _ _ _ _ _ (Int.emod_nonneg _ ?_) (Int.emod_lt_of_pos _ n0) hs ?_ ?_ (by assumption) <;> omega
abbrev sPo : Stmt := top 14
abbrev NPo : List Str := ["script"]
theorem scPo : FnScope NPo ["script"] (defScope sPo) := ⟨rfl, rfl, rfl, by decide +kernel, rfl, by decide +kernel, by decide +kernel⟩
theorem ok_Po {f : Addr} {fd : FuncData} (F : Fun K "_law_pool" "_law_pool" sPo f fd) (T : Bi mg) : FnOk P w K mg base CX0 1 f fd ["script"] (spPool K) := by
  refine F.ok scPo (fun vs H Q E h => ?_) (fun cdv A outer s H vs Q E hr h => ?_)
  · obtain ⟨a, ns, F, m, rfl, _⟩ := h
    rfl
  · obtain ⟨a, ns, F, m, rfl, hs, O, k⟩ := h
    refine ⟨_, 
    (pss_one (ps_ret (pe_lst (pa_cons (pe_callTy cr_list (by rfl) T.b_list (by decide +kernel) (pa_cons (pv 0) pa_nil)) (pa_cons pe_int (pa_cons pe_int (pa_cons pe_int (pa_cons pe_int pa_nil)))))))), ?_⟩
    walk_at "x"
    refine ⟨a, ns.map V.int, rfl, .inl hs, fun l hl => ?_⟩
    walk_at "x"
    refine x_ownL (O.new hl) (by show 5 ≤ _; decide) (fun p H' hp O' => ?_)
    walk_at "x"
    exact k p H' _ _ (same_new (O.fresh hl)) O' ⟨.ref l, ns, 0, 0, 0, 1, rfl, ⟨l, _, rfl, upd_same, All2.ofmap⟩, by decide, by decide⟩
abbrev sPi : Stmt := top 16
abbrev NPi : List Str := ["pool", "row"]
theorem scPi : FnScope NPi ["pool", "row"] (defScope sPi) := ⟨rfl, rfl, rfl, by decide +kernel, rfl, by decide +kernel, by decide +kernel⟩
theorem ok_Pi {f fC__law_draw : Addr} {fd fd__law_draw : FuncData} (F : Fun K "_law_pick" "_law_pick" sPi f fd) (T : Bi mg) (C__law_draw : Cal P w K mg base "_law_draw" 1 fC__law_draw fd__law_draw ["pool", "many"] spDraw) : FnOk P w K mg base CX0 2 f fd ["pool", "row"] spPick := by
  refine F.ok scPi (fun vs H Q E h => ?_) (fun cdv A outer s H vs Q E hr h => ?_)
  · obtain ⟨p, o, a, us, F, m, rfl, _⟩ := h
    rfl
  · obtain ⟨p, o, a, us, F, m, rfl, O, hp, ha, hn, hl, k⟩ := h
    refine ⟨_, 
    (pss_one (ps_ret (pe_ix ix_list (pv 1) (pe_call C__law_draw.ok (hr.mono (by first | decide | omega)) rfl C__law_draw.mg C__law_draw.kp C__law_draw.bi .nil pass0 (pa_cons (pv 0) (pa_cons (pe_callB cr_len (by rfl) T.b_len (by decide +kernel) (pa_cons (pv 1) pa_nil)) pa_nil))) (fun _ _ => rfl)))), ?_⟩
    walk_at "x"
    refine ⟨a, us, rfl, .inl (.inl (.inl (O.frz ha))), ?_⟩
    walk_at "x"
    have h0 : 0 < us.length := List.length_pos_iff.mpr hn
    refine ⟨p, o, _, F, m, rfl, O, hp, by omega, by omega, fun r H' o' h1 h2 O' hp' => ?_⟩
    have hr' : r.toNat < us.length := by omega
    refine ⟨a, us, r, us[r.toNat], rfl, rfl, .inl (.inl (O'.frz ha)), atI_of (j := r.toNat) (by omega) (List.getElem?_eq_getElem hr'), ?_⟩
    exact k _ H' o' (List.getElem_mem hr') O' hp'
abbrev sRa : Stmt := top 17
abbrev NRa : List Str := ["pool", "many"]
theorem scRa : FnScope NRa ["pool", "many"] (defScope sRa) := ⟨rfl, rfl, rfl, by decide +kernel, rfl, by decide +kernel, by decide +kernel⟩
theorem ok_Ra {f fC__law_draw : Addr} {fd fd__law_draw : FuncData} (F : Fun K "_law_rare" "_law_rare" sRa f fd) (T : Bi mg) (C__law_draw : Cal P w K mg base "_law_draw" 1 fC__law_draw fd__law_draw ["pool", "many"] spDraw) : FnOk P w K mg base CX0 2 f fd ["pool", "many"] spRare := by
  refine F.ok scRa (fun vs H Q E h => ?_) (fun cdv A outer s H vs Q E hr h => ?_)
  · obtain ⟨p, o, n, F, m, rfl, _⟩ := h
    rfl
  · obtain ⟨p, o, n, F, m, rfl, O, hp, n0, n1, k⟩ := h
    refine ⟨_, 
    (pss_one (ps_ret (pe_cmpR op_eq (pe_call C__law_draw.ok (hr.mono (by first | decide | omega)) rfl C__law_draw.mg C__law_draw.kp C__law_draw.bi .nil pass0 (pa_cons (pv 0) (pa_cons (pv 1) pa_nil))) (pe_op op_sub (pv 1) pe_int) (nomark _)))), ?_⟩
    walk_at "x"
    refine ⟨p, o, _, F, m, rfl, O, hp, n0, n1, fun r H' o' h1 h2 O' hp' => ?_⟩
    walk_at "x"
    exact k _ H' o' O' hp'
abbrev sFe : Stmt := top 18
abbrev NFe : List Str := ["pool", "usual", "most"]
theorem scFe : FnScope NFe ["pool", "usual", "most"] (defScope sFe) := ⟨rfl, rfl, rfl, by decide +kernel, rfl, by decide +kernel, by decide +kernel⟩
theorem ok_Fe {f fC__law_draw fC__law_rare : Addr} {fd fd__law_draw fd__law_rare : FuncData} (F : Fun K "_law_few" "_law_few" sFe f fd) (T : Bi mg) (C__law_draw : Cal P w K mg base "_law_draw" 1 fC__law_draw fd__law_draw ["pool", "many"] spDraw)
    (C__law_rare : Cal P w K mg base "_law_rare" 2 fC__law_rare fd__law_rare ["pool", "many"] spRare) : FnOk P w K mg base CX0 3 f fd ["pool", "usual", "most"] spFew := by
  refine F.ok scFe (fun vs H Q E h => ?_) (fun cdv A outer s H vs Q E hr h => ?_)
  · obtain ⟨p, o, a, b, F, m, rfl, _⟩ := h
    rfl
  · obtain ⟨p, o, a, b, F, m, rfl, O, hp, a0, a1, b0, b1, k⟩ := h
    refine ⟨_, 
    (pss_cons (ps_if (pt_val (pe_call C__law_rare.ok (hr.mono (by first | decide | omega)) rfl C__law_rare.mg C__law_rare.kp C__law_rare.bi .nil pass0 (pa_cons (pv 0) (pa_cons pe_int pa_nil)))) 
      (pss_one (ps_ret (pe_call C__law_draw.ok (hr.mono (by first | decide | omega)) rfl C__law_draw.mg C__law_draw.kp C__law_draw.bi .nil pass0 (pa_cons (pv 0) (pa_cons (pe_op op_add (pv 2) pe_int) pa_nil))))) pss_nil)
    (pss_one (ps_ret (pe_call C__law_draw.ok (hr.mono (by first | decide | omega)) rfl C__law_draw.mg C__law_draw.kp C__law_draw.bi .nil pass0 (pa_cons (pv 0) (pa_cons (pe_op op_add (pv 1) pe_int) pa_nil)))))), ?_⟩
    walk_at "x"
    refine ⟨p, o, _, F, m, rfl, O, hp, by decide, by decide, fun c H' o' O' hp' => ?_⟩
    walk_at "x"
    refine x_ite (fun _ => ?_) (fun _ => ?_)
    · walk_at "x"
      refine ⟨p, o', _, F, m, rfl, O', hp', by omega, by omega, fun r H2 o2 h1 h2 O2 hp2 => ?_⟩
      exact k r H2 o2 h1 (.inr (by omega)) O2 hp2
    · walk_at "x"
      refine ⟨p, o', _, F, m, rfl, O', hp', by omega, by omega, fun r H2 o2 h1 h2 O2 hp2 => ?_⟩
      exact k r H2 o2 h1 (.inl (by omega)) O2 hp2
abbrev sSa : Stmt := top 19
abbrev NSa : List Str := ["got", "due", "k"]
theorem scSa : FnScope NSa ["got", "due"] (defScope sSa) := ⟨rfl, rfl, rfl, by decide +kernel, rfl, by decide +kernel, by decide +kernel⟩
theorem ok_Sa {f : Addr} {fd : FuncData} (F : Fun K "_law_same" "_law_same" sSa f fd) (T : Bi mg) (mgS : mg "_law_same" = some (.ref f)) (bi : Binds K fd ["got", "due"] []) : ∀ n, FnOk P w K mg base CX0 n f fd ["got", "due"] (spSame n)
  | 0 => fn_never
  | n + 1 => by
    have C__law_same : Cal P w K mg base "_law_same" n f fd ["got", "due"] (spSame n) := ⟨ok_Sa F T mgS bi n, mgS, F.kp, bi⟩
    refine F.ok scSa (fun vs H Q E h => ?_) (fun cdv A outer s H vs Q E hr h => ?_)
    · obtain ⟨v, w, F, m, rfl, _⟩ := h
      rfl
    · obtain ⟨v, w, F, m, rfl, O, hS, k⟩ := h
      refine ⟨_, 
    (pss_cons (ps_if (pt_cmpR op_isNon (pv 1) pe_non (nomark _)) 
      (pss_one (ps_ret (pe_cmpR op_isNon (pv 0) pe_non (nomark _)))) pss_nil)
    (pss_cons (ps_if (pt_cmpR op_isB (pv 1) pe_bl (nomark _)) 
      (pss_one (ps_ret (pe_cmpR op_isB (pv 0) pe_bl (nomark _)))) pss_nil)
    (pss_cons (ps_if (pt_cmpR op_isB (pv 1) pe_bl (nomark _)) 
      (pss_one (ps_ret (pe_cmpR op_isB (pv 0) pe_bl (nomark _)))) pss_nil)
    (pss_cons (ps_if (pt_val (pe_callB call_isi (by rfl) T.b_isinstance (by decide +kernel) (pa_cons (pv 1) (pa_cons (pe_bltn (v := .ty "int") (by rfl) T.b_int (by decide +kernel) rfl) pa_nil)))) 
      (pss_one (ps_ret (pe_and (pe_callB call_isi (by rfl) T.b_isinstance (by decide +kernel) (pa_cons (pv 0) (pa_cons (pe_bltn (v := .ty "int") (by rfl) T.b_int (by decide +kernel) rfl) pa_nil))) (pe_and (pe_not (pe_callB call_isi (by rfl) T.b_isinstance (by decide +kernel) (pa_cons (pv 0) (pa_cons (pe_bltn (v := .ty "bool") (by rfl) T.b_bool (by decide +kernel) rfl) pa_nil)))) (pe_one (pe_cmpR op_eq (pv 0) (pv 1) (nomark _))))))) pss_nil)
    (pss_cons (ps_if (pt_val (pe_callB call_isi (by rfl) T.b_isinstance (by decide +kernel) (pa_cons (pv 1) (pa_cons (pe_bltn (v := .ty "str") (by rfl) T.b_str (by decide +kernel) rfl) pa_nil)))) 
      (pss_one (ps_ret (pe_and (pe_callB call_isi (by rfl) T.b_isinstance (by decide +kernel) (pa_cons (pv 0) (pa_cons (pe_bltn (v := .ty "str") (by rfl) T.b_str (by decide +kernel) rfl) pa_nil))) (pe_one (pe_cmpR op_eq (pv 0) (pv 1) (nomark _)))))) pss_nil)
    (Tf.pss_cut (ps_if (pt_val (pe_callB call_isi (by rfl) T.b_isinstance (by decide +kernel) (pa_cons (pv 1) (pa_cons (pe_bltn (v := .ty "tuple") (by rfl) T.b_tuple (by decide +kernel) rfl) pa_nil)))) 
      (pss_one (ps_if (PW.pt (pw_or (pt_not (pt_val (pe_callB call_isi (by rfl) T.b_isinstance (by decide +kernel) (pa_cons (pv 0) (pa_cons (pe_bltn (v := .ty "tuple") (by rfl) T.b_tuple (by decide +kernel) rfl) pa_nil))))) (pw_or1 (pt_cmpR op_ne (pe_callB cr_len (by rfl) T.b_len (by decide +kernel) (pa_cons (pv 0) pa_nil)) (pe_callB cr_len (by rfl) T.b_len (by decide +kernel) (pa_cons (pv 1) pa_nil)) (nomark _))))) 
        (pss_one (ps_ret pe_bl)) pss_nil)) 
      (pss_one (ps_if (PW.pt (pw_or (pt_not (pt_val (pe_callB call_isi (by rfl) T.b_isinstance (by decide +kernel) (pa_cons (pv 0) (pa_cons (pe_bltn (v := .ty "list") (by rfl) T.b_list (by decide +kernel) rfl) pa_nil))))) (pw_or1 (pt_cmpR op_ne (pe_callB cr_len (by rfl) T.b_len (by decide +kernel) (pa_cons (pv 0) pa_nil)) (pe_callB cr_len (by rfl) T.b_len (by decide +kernel) (pa_cons (pv 1) pa_nil)) (nomark _))))) 
        (pss_one (ps_ret pe_bl)) pss_nil)))
    (pss_cons (ps_for PassesOwn.never rfl (pi_range1 (by rfl) T.b_range (pa_cons (pe_callB cr_len (by rfl) T.b_len (by decide +kernel) (pa_cons (pv 1) pa_nil)) pa_nil)) (pg_name (i := 2) scSa.nd rfl (Or.inl rfl)) 
      (pss_one (ps_if (pt_not (pt_val (pe_call C__law_same.ok (hr.mono (by first | decide | omega)) rfl C__law_same.mg C__law_same.kp C__law_same.bi .nil pass0 (pa_cons (pe_ix ix_seq (pv 0) (pv 2) (fun _ _ => rfl)) (pa_cons (pe_ix ix_seq (pv 1) (pv 2) (fun _ _ => rfl)) pa_nil))))) 
        (pss_one (ps_ret pe_bl)) pss_nil)))
    (pss_one (ps_ret pe_bl))))))))), ?_⟩
      walk_at "x"
      have hS2 : (v = w ∧ atomV w = true) ∨ ∃ j a b vs ws, n = j + 1 ∧ v = .ref a ∧ w = .ref b ∧ All2 (Sim F j) vs ws ∧ vs.length < 16777216 ∧ ((F a = some (.tup vs) ∧ F b = some (.tup ws)) ∨ (F a = some (.lst vs) ∧ F b = some (.lst ws))) := by
        cases n with
        | zero => exact .inl hS
        | succ j =>
          rcases hS with hS | ⟨a, b, vs, ws, h⟩
          · exact .inl hS
          · exact .inr ⟨j, a, b, vs, ws, rfl, h⟩
      rcases hS2 with ⟨rfl, hw⟩ | ⟨j, a, b, vs, ws, rfl, rfl, rfl, hr2, hl, hA⟩
      · cases v with
        | non =>
          refine x_iteT (by simp) ?_
          walk_at "x"
          have z := k H O
          simpa using z
        | bl b =>
          refine x_iteF (by simp) ?_
          walk_at "x"
          cases b with
          | true =>
            refine x_iteT (by simp) ?_
            walk_at "x"
            have z := k H O
            simpa using z
          | false =>
            refine x_iteF (by simp) ?_
            walk_at "x"
            refine x_iteT (by simp) ?_
            walk_at "x"
            have z := k H O
            simpa using z
        | int i =>
          refine x_iteF (by simp) ?_
          walk_at "x"
          refine x_iteF (by simp) ?_
          walk_at "x"
          refine x_iteF (by simp) ?_
          walk_at "x"
          refine x_isi (.int i) (b := true) (by decide +kernel) ?_
          walk_at "x"
          refine x_iteT rfl ?_
          walk_at "x"
          refine x_isi (.int i) (b := true) (by decide +kernel) ?_
          walk_at "x"
          refine x_iteT rfl ?_
          walk_at "x"
          refine x_isi (.int i) (b := false) (by decide +kernel) ?_
          walk_at "x"
          refine x_iteT rfl ?_
          walk_at "x"
          have z := k H O
          simpa using z
        | str y =>
          refine x_iteF (by simp) ?_
          walk_at "x"
          refine x_iteF (by simp) ?_
          walk_at "x"
          refine x_iteF (by simp) ?_
          walk_at "x"
          refine x_isi (.str y) (b := false) (by decide +kernel) ?_
          walk_at "x"
          refine x_iteF rfl ?_
          walk_at "x"
          refine x_isi (.str y) (b := true) (by decide +kernel) ?_
          walk_at "x"
          refine x_iteT rfl ?_
          walk_at "x"
          refine x_isi (.str y) (b := true) (by decide +kernel) ?_
          walk_at "x"
          refine x_iteT rfl ?_
          walk_at "x"
          refine ⟨rfl, ?_⟩
          have z := k H O
          simpa using z
        | byt _ => cases hw
        | flt _ => cases hw
        | ref _ => cases hw
        | ty _ => cases hw
      · have hlw : vs.length = ws.length := hr2.length
        refine x_iteF (by simp) ?_
        walk_at "x"
        refine x_iteF (by simp) ?_
        walk_at "x"
        refine x_iteF (by simp) ?_
        walk_at "x"
        have ty : ∃ t, (t = "tuple" ∨ t = "list") ∧ TyOf K H (.ref b) (.type t) ∧ TyOf K H (.ref a) (.type t) := by
          rcases hA with ⟨ha, hb⟩ | ⟨ha, hb⟩
          · exact ⟨"tuple", .inl rfl, .tup (O.frz hb), .tup (O.frz ha)⟩
          · exact ⟨"list", .inr rfl, .lst (O.frz hb), .lst (O.frz ha)⟩
        obtain ⟨t, ht, tb, ta⟩ := ty
        refine x_isi tb (b := false) (by rcases ht with rfl | rfl <;> decide +kernel) ?_
        walk_at "x"
        refine x_iteF rfl ?_
        walk_at "x"
        refine x_isi tb (b := false) (by rcases ht with rfl | rfl <;> decide +kernel) ?_
        walk_at "x"
        refine x_iteF rfl ?_
        walk_at "x"
        have lenA : ∀ {K' : PySem.W.Frag} {Q' : VK}, Q' (.int vs.length) H → rLen K' [.ref a] H Q' := fun {K' Q'} q => by
          rcases hA with ⟨ha, hb⟩ | ⟨ha, hb⟩
          · exact ⟨a, vs, rfl, .inr (.inl (.inl (O.frz ha))), q⟩
          · exact ⟨a, vs, rfl, .inl (.inl (.inl (O.frz ha))), q⟩
        have lenB : ∀ {K' : PySem.W.Frag} {Q' : VK} {H' : Hp} (O' : Own H' F m), Q' (.int vs.length) H' → rLen K' [.ref b] H' Q' := fun {K' Q' H'} O' q => by
          rcases hA with ⟨ha, hb⟩ | ⟨ha, hb⟩
          · exact ⟨b, ws, rfl, .inr (.inl (.inl (O'.frz hb))), by rw [← hlw]; exact q⟩
          · exact ⟨b, ws, rfl, .inl (.inl (.inl (O'.frz hb))), by rw [← hlw]; exact q⟩
        refine x_cut (fun σ' H' => σ' = [some (.ref a), some (.ref b), none] ∧ Own H' F m) ?_ ?_
        · walk_at "x"
          rcases ht with rfl | rfl
          · refine x_isi tb (b := true) (by decide +kernel) ?_
            walk_at "x"
            refine x_iteT rfl ?_
            walk_at "x"
            refine x_isi ta (b := true) (by decide +kernel) ?_
            walk_at "x"
            refine x_iteF rfl ?_
            walk_at "x"
            refine lenA ?_
            walk_at "x"
            refine lenB O ?_
            walk_at "x"
            refine x_iteDn (fun h => (h rfl).elim) (fun _ => ?_)
            walk_at "x"
            exact ⟨rfl, O⟩
          · refine x_isi tb (b := false) (by decide +kernel) ?_
            walk_at "x"
            refine x_iteF rfl ?_
            walk_at "x"
            refine x_isi ta (b := true) (by decide +kernel) ?_
            walk_at "x"
            refine x_iteF rfl ?_
            walk_at "x"
            refine lenA ?_
            walk_at "x"
            refine lenB O ?_
            walk_at "x"
            refine x_iteDn (fun h => (h rfl).elim) (fun _ => ?_)
            walk_at "x"
            exact ⟨rfl, O⟩
        · rintro σ' H' ⟨rfl, O'⟩
          walk_at "x"
          refine lenB O' ?_
          walk_at "x"
          refine x_doR1 (n := vs.length) O' (by simp) (by omega) (by omega) (fun i σ F' m' => m' = m ∧ ∃ u, σ = [some (.ref a), some (.ref b), u]) ⟨rfl, _, rfl⟩ ?_ ?_
          · rintro i σ' H2 F' m' hi s O2 ⟨rfl, u, rfl⟩
            walk_at "x"
            obtain ⟨x, hx⟩ : ∃ x, vs[i]? = some x := ⟨_, List.getElem?_eq_getElem hi⟩
            obtain ⟨y, hy, hxy⟩ := hr2.get hx
            have itemA : ∀ {K' : PySem.W.Frag} {Q' : VK}, Q' x H2 → rIx K' (.ref a) (.int (i : Int)) H2 Q' := fun {K' Q'} q => by
              rcases hA with ⟨ha, hb⟩ | ⟨ha, hb⟩
              · exact .inr (.inl ⟨a, vs, _, x, rfl, rfl, .inl (.inl (O2.frz (s _ _ ha))), atI_of rfl hx, q⟩)
              · exact .inl ⟨a, vs, _, x, rfl, rfl, .inl (.inl (O2.frz (s _ _ ha))), atI_of rfl hx, q⟩
            have itemB : ∀ {K' : PySem.W.Frag} {Q' : VK}, Q' y H2 → rIx K' (.ref b) (.int (i : Int)) H2 Q' := fun {K' Q'} q => by
              rcases hA with ⟨ha, hb⟩ | ⟨ha, hb⟩
              · exact .inr (.inl ⟨b, ws, _, y, rfl, rfl, .inl (.inl (O2.frz (s _ _ hb))), atI_of rfl hy, q⟩)
              · exact .inl ⟨b, ws, _, y, rfl, rfl, .inl (.inl (O2.frz (s _ _ hb))), atI_of rfl hy, q⟩
            refine itemA ?_
            walk_at "x"
            refine itemB ?_
            walk_at "x"
            refine ⟨x, y, F', _, rfl, O2, hxy.up s, fun H3 O3 => ?_⟩
            walk_at "x"
            refine x_iteF rfl ?_
            walk_at "x"
            exact LI.mk s O3 ⟨rfl, _, rfl⟩
          · rintro σ' H2 F' m' s O2 ⟨rfl, u, rfl⟩
            walk_at "x"
            exact k H2 (O2.back s)
end
end Tf
namespace Tf
open PySem PySem.Spec PyProof.Rows L2
section
variable {P : Program} {w : World} {K : PySem.W.Frag} {mg : Str → Option Value} {base : Heap}
abbrev sTI : Stmt := inClass (top 6) 0
abbrev NTI : List Str := ["self", "rows", "table", "k", "row", "cost", "after"]
theorem scTI : FnScope NTI ["self", "rows"] (defScope sTI) := ⟨rfl, rfl, rfl, by decide +kernel, rfl, by decide +kernel, by decide +kernel⟩
theorem ok_TI {f C : Addr} {fd : FuncData} (F : Fun K "__init__" "TableTask.__init__" sTI f fd) (T : Bi mg) (cl : Cls K C) (nT : NoAttr K C "_table") : FnOk P w K mg base CX0 1 f fd ["self", "rows"] (spTInit C) := by
  refine F.ok scTI (fun vs H Q E h => ?_) (fun cdv A outer s H vs Q E hr h => ?_)
  · obtain ⟨x, dx, v, rows, F, m, rfl, _⟩ := h
    rfl
  · obtain ⟨x, dx, v, rows, F, m, rfl, O, hv, wf, hl, hrl, k⟩ := h
    refine ⟨_, 
    (pss_cons (ps_if (pt_cmpR op_eq (pe_callB cr_len (by rfl) T.b_len (by decide +kernel) (pa_cons (pv 1) pa_nil)) pe_int (nomark _)) 
      (pss_one ps_never) pss_nil)
    (pss_cons (ps_set (i := 2) scTI.nd rfl (Or.inl rfl) (pe_lst pa_nil))
    (pss_cons (ps_for PassesOwn.never rfl (pi_enumS (by rfl) T.b_enumerate (pa_cons (pv 1) pa_nil)) (pg_tup (by rfl) (pgs_cons (pg_name (i := 3) scTI.nd rfl (Or.inl rfl)) (pgs_cons (pg_name (i := 4) scTI.nd rfl (Or.inl rfl)) pgs_nil))) 
      (pss_cons (ps_expr (pe_bm PySem.F.plainAttrs_list PySem.F.slot_list_append PySem.F.type_list_append mt_append (pv 2) (pa_cons (pe_lc (own := [("cost", 5), ("after", 6)]) (g := (gTup K 2 (gCons (gName 5) (gCons (gName 6) gNil)))) (tt := tYes) rfl scTI.nd (pi_seq (pv 4)) (blkOk_by (N := NTI) (sc := defScope sTI) (by decide +kernel)) (fun _ _ _ _ _ => (pg_tup (by rfl) (pgs_cons (pg_name (i := 5) scTI.nd rfl (Or.inl rfl)) (pgs_cons (pg_name (i := 6) scTI.nd rfl (Or.inl rfl)) pgs_nil)))) (fun _ _ _ _ _ => pts_nil) (fun _ _ _ _ _ => (pe_tup (pa_cons (pv 5) (pa_cons (pv 6) pa_nil))))) pa_nil)))
      (pss_one (ps_for PassesOwn.never rfl (pi_list (pe_ix ix_list (pv 2) (pv 3) (fun _ _ => rfl))) (pg_tup (by rfl) (pgs_cons (pg_name (i := 5) scTI.nd rfl (Or.inl rfl)) (pgs_cons (pg_name (i := 6) scTI.nd rfl (Or.inl rfl)) pgs_nil))) 
        (pss_one (ps_if (PW.pt (pw_or (pt_cmpR op_lt (pv 5) pe_int (nomark _)) (pw_or (pt_cmpR op_le (pv 6) (pv 3) (nomark _)) (pw_or1 (pt_cmpR op_ge (pv 6) (pe_callB cr_len (by rfl) T.b_len (by decide +kernel) (pa_cons (pv 1) pa_nil)) (nomark _)))))) 
          (pss_one ps_never) pss_nil))))))
    (pss_one (ps_fld (pv 0) (pv 2) rfl))))), ?_⟩
    walk_at "x"
    refine x_lenS O hv ?_
    walk_at "x"
    refine x_iteD (fun h0 => ?_) (fun _ => ?_)
    · have := wf.1
      omega
    walk_at "x"
    refine x_ownL (vs := []) O (Nat.zero_le _) (fun tl H1 htl O1 => ?_)
    walk_at "x"
    refine x_doE O1 hv (fun i σ F' m' => ∃ us a b c d, σ = [some (.ref x), some v, some (.ref tl), a, b, c, d] ∧ m' = (tl, .lst us) :: (x, .ins C dx []) :: m ∧ All2 (rRow F') (rows.take i) us) ⟨[], _, _, _, _, rfl, rfl, by simp; exact .nil⟩ ?_ ?_ ?_
    · rintro i row z σ' H' F' m' hi hz s O' ⟨us, a, b, c, d, rfl, rfl, hus⟩
      refine x_gpair O' hz (fun u1 u2 hu1 hu2 => ?_)
      have hu1 : u1 = .int (i : Int) := hu1
      subst hu1
      walk_at "x"
      have il : i < rows.length := (List.getElem?_eq_some_iff.mp hi).1
      have hul : us.length = i := by
        have := hus.length
        simp at this
        omega
      refine ⟨ty_list O'.at0, ?_⟩
      walk_at "x"
      refine x_docS (S := rPair rInt rNat) O' hu2 (fun j F1 m1 ys => m1 = (tl, .lst us) :: (x, .ins C dx []) :: m ∧ ys = row.take j) ⟨rfl, by simp⟩ ?_ ?_
      · rintro D acc j p z1 H1 F1 m1 ys hj hz1 s1 O1 hacc hylen ⟨rfl, rfl⟩
        refine x_gpair O1 hz1 (fun u3 u4 hu3 hu4 => ?_)
        have hu3 : u3 = .int p.1 := hu3
        have hu4 : u4 = .int (p.2 : Int) := hu4
        subst hu3 hu4
        walk_at "x"
        refine ⟨rfl, ?_⟩
        walk_at "x"
        refine x_iteT rfl ?_
        walk_at "x"
        refine x_newPair (R := rInt) (S := rNat) (x := p.1) (y := p.2) O1 rfl rfl (fun v2 H2 F2 s2 O2 hv2 => ?_)
        have jl : j < row.length := (List.getElem?_eq_some_iff.mp hj).1
        have := hrl row (List.mem_of_getElem? hi)
        refine x_keep O2 (s1.trans s2) hv2 (all2_up s2 hacc) hylen (by omega) ⟨rfl, ?_⟩
        rw [List.take_add_one, hj]
        rfl
      · rintro v2 H2 F2 m2 ys s2 O2 hv2 ⟨rfl, rfl⟩
        rw [List.take_length] at hv2
        walk_at "x"
        refine x_append O2 (by omega) (fun H3 O3 => ?_)
        have hus2 : All2 (rRow F2) (rows.take (i + 1)) (us ++ [v2]) := by
          rw [List.take_add_one, hi]
          exact (all2_up s2 hus).snoc hv2
        walk_at "x"
        refine x_ixO (w := v2) (j := i) O3 rfl (by rw [List.getElem?_append_right (by omega), hul]; simp) ?_
        refine x_doL (R := rPair rInt rNat) O3 hv2 (fun j σ F3 m3 => ∃ c d, σ = [some (.ref x), some v, some (.ref tl), some (.int (i : Int)), some u2, c, d] ∧ m3 = (tl, .lst (us ++ [v2])) :: (x, .ins C dx []) :: m) ⟨_, _, rfl, rfl⟩ ?_ ?_
        · rintro j p z1 σ1 H1 F1 m1 hj hz1 s1 O1 ⟨c1, d1, rfl, rfl⟩
          refine x_gpair O1 hz1 (fun u3 u4 hu3 hu4 => ?_)
          have hu3 : u3 = .int p.1 := hu3
          have hu4 : u4 = .int (p.2 : Int) := hu4
          subst hu3 hu4
          have hp := wf.2 i row hi p (List.mem_of_getElem? hj)
          walk_at "x"
          refine x_iteD (fun h => by omega) (fun _ => ?_)
          walk_at "x"
          refine x_iteD (fun h => by omega) (fun _ => ?_)
          walk_at "x"
          refine x_lenS O1 (up (s.trans (s2.trans s1)) hv) ?_
          walk_at "x"
          refine x_iteD (fun h => by omega) (fun _ => ?_)
          walk_at "x"
          exact LI.mk s1 O1 ⟨_, _, rfl, rfl⟩
        · rintro σ1 H1 F1 m1 s1 O1 ⟨c1, d1, rfl, rfl⟩
          walk_at "x"
          exact LI.mk (s.trans (s2.trans s1)) O1 ⟨_, _, _, _, _, rfl, rfl, all2_up s1 hus2⟩
    · rintro σ1 H1 F1 m1 s1 O1 ⟨us, a, b, c, d, rfl, rfl, hus⟩
      rw [List.take_length] at hus
      walk_at "x"
      have O2 := O1.swap
      refine x_setF O2 cl nT (by show 0 < 1000; decide) (fun H3 O3 => ?_)
      have O4 := O3.swap.freeze
      have s4 : Same F1 (upd F1 tl (.lst us)) := O3.swap.freeze_same
      exact k _ _ _ (s1.trans s4) O4 ⟨tl, us, rfl, upd_same, all2_up s4 hus⟩
    · rintro i σ' F1 F2 m1 s ⟨us, a, b, c, d, e1, e2, h⟩
      exact ⟨us, a, b, c, d, e1, e2, all2_up s h⟩
abbrev sTF : Stmt := inClass (top 6) 1
abbrev NTF : List Str := ["self"]
theorem scTF : FnScope NTF ["self"] (defScope sTF) := ⟨rfl, rfl, rfl, by decide +kernel, rfl, by decide +kernel, by decide +kernel⟩
theorem ok_TF {f C : Addr} {fd : FuncData} (F : Fun K "first" "TableTask.first" sTF f fd) : FnOk P w K mg base CX0 1 f fd ["self"] (spTFirst C) := by
  refine F.ok scTF (fun vs H Q E h => ?_) (fun cdv A outer s H vs Q E hr h => ?_)
  · obtain ⟨v, rows, F, m, rfl, _⟩ := h
    rfl
  · obtain ⟨v, rows, F, m, rfl, O, hv, k⟩ := h
    refine ⟨_, 
    (pss_one (ps_ret pe_int)), ?_⟩
    walk_at "x"
    exact k
abbrev sTE : Stmt := inClass (top 6) 2
abbrev NTE : List Str := ["self", "state"]
theorem scTE : FnScope NTE ["self", "state"] (defScope sTE) := ⟨rfl, rfl, rfl, by decide +kernel, rfl, by decide +kernel, by decide +kernel⟩
theorem ok_TE {f C : Addr} {fd : FuncData} (F : Fun K "is_end" "TableTask.is_end" sTE f fd) (T : Bi mg) (cl : Cls K C) (nT : NoAttr K C "_table") : FnOk P w K mg base CX0 1 f fd ["self", "state"] (spTEnd C) := by
  refine F.ok scTE (fun vs H Q E h => ?_) (fun cdv A outer s H vs Q E hr h => ?_)
  · obtain ⟨v, rows, k, F, m, rfl, _⟩ := h
    rfl
  · obtain ⟨v, rows, j, F, m, rfl, O, ⟨a, dx, t, rfl, ha, ht⟩, k⟩ := h
    refine ⟨_, 
    (pss_one (ps_ret (pe_cmpR op_eq (pv 1) (pe_op op_sub (pe_callB cr_len (by rfl) T.b_len (by decide +kernel) (pa_cons (pe_fld (pv 0) rfl) pa_nil)) pe_int) (nomark _)))), ?_⟩
    walk_at "x"
    refine x_fldF O ha cl nT lk_eq ?_
    walk_at "x"
    refine x_lenL O ht ?_
    walk_at "x"
    have e : decide ((j : Int) = (rows.length : Int) - 1) = decide (j + 1 = rows.length) := by
      by_cases h : j + 1 = rows.length
      · rw [decide_eq_true h, decide_eq_true (by omega)]
      · rw [decide_eq_false h, decide_eq_false (by omega)]
    rw [e]
    exact k
abbrev sTS : Stmt := inClass (top 6) 3
abbrev NTS : List Str := ["self", "state"]
theorem scTS : FnScope NTS ["self", "state"] (defScope sTS) := ⟨rfl, rfl, rfl, by decide +kernel, rfl, by decide +kernel, by decide +kernel⟩
theorem ok_TS {f C : Addr} {fd : FuncData} (F : Fun K "steps" "TableTask.steps" sTS f fd) (T : Bi mg) (cl : Cls K C) (nT : NoAttr K C "_table") : FnOk P w K mg base CX0 1 f fd ["self", "state"] (spTSteps C) := by
  refine F.ok scTS (fun vs H Q E h => ?_) (fun cdv A outer s H vs Q E hr h => ?_)
  · obtain ⟨v, rows, k, row, F, m, rfl, _⟩ := h
    rfl
  · obtain ⟨v, rows, j, row, F, m, rfl, O, ⟨a, dx, t, rfl, ha, ht⟩, hrow, k⟩ := h
    refine ⟨_, 
    (pss_one (ps_ret (pe_callTy cr_list (by rfl) T.b_list (by decide +kernel) (pa_cons (pe_ix ix_list (pe_fld (pv 0) rfl) (pv 1) (fun _ _ => rfl)) pa_nil)))), ?_⟩
    walk_at "x"
    refine x_fldF O ha cl nT lk_eq ?_
    walk_at "x"
    refine x_ixL (R := rRow) (j := j) O ht rfl hrow (fun w hw => ?_)
    walk_at "x"
    refine x_listL O hw (fun w' H' F' s O' hw' => ?_)
    walk_at "x"
    exact k w' H' F' s O' hw'
abbrev sTR : Stmt := inClass (top 6) 4
abbrev NTR : List Str := ["self", "state"]
theorem scTR : FnScope NTR ["self", "state"] (defScope sTR) := ⟨rfl, rfl, rfl, by decide +kernel, rfl, by decide +kernel, by decide +kernel⟩
theorem ok_TR {f : Addr} {fd : FuncData} (F : Fun K "rank" "TableTask.rank" sTR f fd) : FnOk P w K mg base CX0 1 f fd ["self", "state"] spTRank := by
  refine F.ok scTR (fun vs H Q E h => ?_) (fun cdv A outer s H vs Q E hr h => ?_)
  · obtain ⟨v, k, rfl, _⟩ := h
    rfl
  · obtain ⟨v, j, rfl, k⟩ := h
    refine ⟨_, 
    (pss_one (ps_ret (pv 1))), ?_⟩
    walk_at "x"
    exact k
abbrev sSR : Stmt := top 7
abbrev NSR : List Str := ["task", "found", "waiting", "state", "_", "after"]
theorem scSR : FnScope NSR ["task"] (defScope sSR) := ⟨rfl, rfl, rfl, by decide +kernel, rfl, by decide +kernel, by decide +kernel⟩
theorem ok_SR {f C f1 f2 : Addr} {fd fd1 fd2 : FuncData} (F : Fun K "steps_of_reached" "steps_of_reached" sSR f fd) (T : Bi mg) (M_TableTask_first : Met P w K mg base C "first" 1 f1 fd1 ["self"] (spTFirst C)) (M_TableTask_steps : Met P w K mg base C "steps" 1 f2 fd2 ["self", "state"] (spTSteps C)) : FnOk P w K mg base CX0 2 f fd ["task"] (spReached C) := by
  refine F.ok scSR (fun vs H Q E h => ?_) (fun cdv A outer s H vs Q E hr h => ?_)
  · obtain ⟨v, rows, F, m, rfl, _⟩ := h
    rfl
  · obtain ⟨v, rows, F, m, rfl, O, hv, wf, hN, k⟩ := h
    have hu := hu_of hr
    refine ⟨_, 
    (pss_cons (ps_set (i := 1) scSR.nd rfl (Or.inl rfl) pe_dnewK)
    (pss_cons (ps_set (i := 2) scSR.nd rfl (Or.inl rfl) (pe_lst (pa_cons (pe_meth0 (pv 0) M_TableTask_first.cl M_TableTask_first.me M_TableTask_first.ok (hr.mono (by first | decide | omega)) M_TableTask_first.bi .nil pass0) pa_nil)))
    (pss_cons (ps_while PassesOwn.never (pt_tru (pv 2) (by intro _; rfl)) 
      (pss_cons (ps_set (i := 3) scSR.nd rfl (Or.inl rfl) (pe_bm0 PySem.F.plainAttrs_list PySem.F.slot_list_pop PySem.F.type_list_pop mt_pop (pv 2)))
      (pss_one (ps_if (pt_cmp (pc_dnotin hu (pv 3) (pv 1))) 
        (pss_cons (ps_dput hu (pv 1) (pv 3) (pe_meth (pv 0) M_TableTask_steps.cl M_TableTask_steps.me M_TableTask_steps.ok (hr.mono (by first | decide | omega)) M_TableTask_steps.bi .nil pass0 (pa_cons (pv 3) pa_nil)) rfl)
        (pss_one (ps_expr (pe_bm PySem.F.plainAttrs_list PySem.F.slot_list_extend PySem.F.type_list_extend mt_extend (pv 2) (pa_cons (pe_lc (own := [("_", 4), ("after", 5)]) (g := (gTup K 2 (gCons (gName 4) (gCons (gName 5) gNil)))) (tt := tYes) rfl scSR.nd (pi_list (pe_dget hu (pv 1) (pv 3) (fun _ _ => rfl))) (blkOk_by (N := NSR) (sc := defScope sSR) (by decide +kernel)) (fun _ _ _ _ _ => (pg_tup (by rfl) (pgs_cons (pg_name (i := 4) scSR.nd rfl (Or.inl rfl)) (pgs_cons (pg_name (i := 5) scSR.nd rfl (Or.inl rfl)) pgs_nil)))) (fun _ _ _ _ _ => pts_nil) (fun _ _ _ _ _ => (pv 5))) pa_nil))))) pss_nil))))
    (pss_one (ps_ret (pv 1)))))), ?_⟩
    walk_at "x"
    refine x_dnew O (fun fdd H1 hn1 O1 => ?_)
    walk_at "x"
    obtain ⟨a, dx, t, rfl, ha, ht⟩ := id hv
    refine mq_of (O1.frz ha) (lk_ne (by decide +kernel)) ?_
    walk_at "x"
    refine ⟨.ref a, rows, F, _, rfl, O1, hv, ?_⟩
    walk_at "x"
    refine x_ownL O1 (by show 1 ≤ _; decide) (fun wl H2 hn2 O2 => ?_)
    walk_at "x"
    refine x_while O2 (fun n σ F' m' => ∃ (kvs : List (Key × V)) (d : List (Int × Row)) (ws : List Nat) (u1 u2 u3 : Option V), σ = [some (.ref a), some (.ref fdd), some (.ref wl), u1, u2, u3] ∧ m' = (wl, .lst (ws.map fun j : Nat => V.int (j : Int))) :: (fdd, .dK kvs) :: m ∧ kvR rRow F' d kvs ∧
      (d.map (·.1)).Nodup ∧ (∀ p ∈ d, ∃ j : Nat, p.1 = (j : Int) ∧ rows[j]? = some p.2 ∧ Reach rows j) ∧ (∀ j ∈ ws, Reach rows j) ∧ (∀ p ∈ d, ∀ q ∈ p.2, (q.2 : Int) ∈ d.map (·.1) ∨ q.2 ∈ ws) ∧ ((0 : Int) ∈ d.map (·.1) ∨ 0 ∈ ws) ∧ n = ws.length + wt rows (d.map (·.1)) ∧ n < 1000001)
      _ ⟨[], [], [0], _, _, _, rfl, rfl, .nil, List.nodup_nil, fun _ h => (nomatch h), fun j h => by
        rw [List.mem_singleton.mp h]
        exact .first, fun _ h => (nomatch h), .inr List.mem_cons_self, rfl, by
        have := wt_nil rows
        simp
        omega⟩ ?_
    rintro n σ' H' F' m' s O' ⟨kvs, d, ws, u1, u2, u3, rfl, rfl, hk, hnd, hent, hws, hcl, h0, hn, hn1⟩
    walk_at "x"
    refine tq_list O'.at0 ?_
    rcases List.eq_nil_or_concat ws with rfl | ⟨ws, j, rfl⟩
    · refine x_iteF rfl ?_
      walk_at "x"
      have O3 := O'.tail
      obtain ⟨O4, s4, h4⟩ := freezeD O3 hk
      refine k _ _ _ d (s.trans s4) O4 h4 ⟨hnd, fun p hp => ?_, fun j => ⟨fun hj => ?_, fun hj => ?_⟩⟩
      · obtain ⟨j, e1, e2, _⟩ := hent p hp
        exact ⟨j, e1, e2⟩
      · obtain ⟨p, hp, e⟩ := List.mem_map.mp hj
        obtain ⟨i, e1, e2, e3⟩ := hent p hp
        have : i = j := by omega
        exact this ▸ e3
      · induction hj with
        | first =>
          rcases h0 with h | h
          · exact h
          · cases h
        | @step i row p hi hrow hp ih =>
          obtain ⟨q, hq, e⟩ := List.mem_map.mp ih
          obtain ⟨i2, e1, e2, _⟩ := hent q hq
          have : i2 = i := by omega
          subst this
          rw [hrow] at e2
          have e3 := Option.some.inj e2
          rcases hcl q hq p (e3 ▸ hp) with h | h
          · exact h
          · cases h
    · refine x_iteT (by simp) ?_
      refine ⟨_, fun _ _ h => h, ?_⟩
      rw [List.concat_eq_append] at O' hws hcl h0 hn
      have em : ((ws ++ [j]).map fun j : Nat => V.int (j : Int)) = (ws.map fun j : Nat => V.int (j : Int)) ++ [V.int (j : Int)] := by simp
      rw [em] at O'
      walk_at "x"
      refine ⟨ty_list O'.at0, x_pop O' (fun H3 O3 => ?_)⟩
      walk_at "x"
      have hj := hws j (by simp)
      have hj' := hj.lt wf
      obtain ⟨row, hrow⟩ := wf.row hj'
      have hnl : n = ws.length + 1 + wt rows (d.map (·.1)) := by
        rw [hn, List.length_append]
        rfl
      refine x_dinO O3.swap hk ?_
      walk_at "x"
      cases hg : getD d (j : Int) with
      | some row2 =>
        refine x_iteF rfl ?_
        walk_at "x"
        have hm : (j : Int) ∈ d.map (·.1) := List.mem_map.mpr ⟨_, getD_mem hg, rfl⟩
        refine ⟨ws.length + wt rows (d.map (·.1)), by omega, LI.mk s O3 ⟨kvs, d, ws, _, _, _, rfl, rfl, hk, hnd, hent, fun i hi => hws i (List.mem_append_left _ hi), fun p hp q hq => ?_, ?_, rfl, by omega⟩⟩
        · rcases hcl p hp q hq with h | h
          · exact .inl h
          · rcases List.mem_append.mp h with h | h
            · exact .inr h
            · rw [List.mem_singleton.mp h]
              exact .inl hm
        · rcases h0 with h | h
          · exact .inl h
          · rcases List.mem_append.mp h with h | h
            · exact .inr h
            · rw [← List.mem_singleton.mp h] at hm
              exact .inl hm
      | none =>
        refine x_iteT rfl ?_
        have hm : (j : Int) ∉ d.map (·.1) := getD_none.mp hg
        walk_at "x"
        refine mq_of (O3.frz (s _ _ ha)) (lk_ne (by decide +kernel)) ?_
        walk_at "x"
        refine ⟨.ref a, rows, j, row, F', _, rfl, O3, up s hv, hrow, fun rv H4 F4 s4 O4 hrv => ?_⟩
        walk_at "x"
        have hput : putD d (j : Int) row = d ++ [((j : Int), row)] := by
          unfold putD
          rw [if_neg]
          intro h
          obtain ⟨p, hp, e⟩ := List.any_eq_true.mp h
          exact hm (List.mem_map.mpr ⟨p, hp, of_decide_eq_true e⟩)
        have hdl : d.length ≤ rows.length := by
          have := nodup_len rows.length (d.map (·.1)) hnd fun x hx => by
            obtain ⟨p, hp, e⟩ := List.mem_map.mp hx
            obtain ⟨i, e1, e2, e3⟩ := hent p hp
            have := e3.lt wf
            omega
          rw [List.length_map] at this
          exact this
        refine x_dputO O4.swap (hk.up s4) hrv (by omega) (fun kvs' H5 hk5 O5 => ?_)
        rw [hput] at hk5
        walk_at "x"
        refine ⟨ty_list O5.swap.at0, ?_⟩
        walk_at "x"
        refine x_dgetO O5 hk5 (x := row) (by rw [getD_app, hg]; simp [getD_cons]) (fun rv2 hrv2 => ?_)
        refine x_docL (S := rNat) O5 hrv2 (fun i F1 m1 ys => m1 = (fdd, .dK kvs') :: (wl, .lst (ws.map fun j : Nat => V.int (j : Int))) :: m ∧ ys = (row.take i).map (·.2)) ⟨rfl, by simp⟩ ?_ ?_
        · rintro D acc i p z H6 F6 m6 ys hi hz s6 O6 hacc hyl ⟨rfl, rfl⟩
          refine x_gpair O6 hz (fun u3 u4 hu3 hu4 => ?_)
          have hu4 : u4 = .int (p.2 : Int) := hu4
          subst hu4
          walk_at "x"
          refine ⟨rfl, ?_⟩
          walk_at "x"
          refine x_iteT rfl ?_
          walk_at "x"
          have il : i < row.length := (List.getElem?_eq_some_iff.mp hi).1
          have h3 := wt_add (ks := d.map (·.1)) hrow hm
          refine x_keep (S := rNat) (z := p.2) O6 s6 rfl hacc hyl (by omega) ⟨rfl, ?_⟩
          rw [List.take_add_one, hi]
          simp
        · rintro ev H6 F6 m6 ys s6 O6 hev ⟨rfl, rfl⟩
          rw [List.take_length] at hev
          obtain ⟨eb, us, rfl, heb, hus⟩ := hev
          walk_at "x"
          have eus : us = (row.map (·.2)).map fun j : Nat => V.int (j : Int) := All2.eqmap (f := fun j : Nat => V.int (j : Int)) hus
          subst eus
          have h3 := wt_add (ks := d.map (·.1)) hrow hm
          refine x_extend O6.swap heb (by simp; omega) (fun H7 O7 => ?_)
          walk_at "x"
          have ks' : (d ++ [((j : Int), row)]).map (·.1) = d.map (·.1) ++ [(j : Int)] := by simp
          refine ⟨(ws ++ row.map (·.2)).length + wt rows ((d ++ [((j : Int), row)]).map (·.1)), ?_, LI.mk (s.trans (s4.trans s6)) O7 ⟨kvs', d ++ [((j : Int), row)], ws ++ row.map (·.2), _, _, _, rfl, by simp, hk5.up s6, ?_, ?_, ?_, ?_, ?_, rfl, ?_⟩⟩
          · rw [ks', List.length_append, List.length_map]
            omega
          · rw [ks']
            exact nd_snoc hnd hm
          · intro p hp
            rcases List.mem_append.mp hp with h | h
            · exact hent p h
            · rw [List.mem_singleton.mp h]
              exact ⟨j, rfl, hrow, hj⟩
          · intro i hi
            rcases List.mem_append.mp hi with h | h
            · exact hws i (List.mem_append_left _ h)
            · obtain ⟨q, hq, rfl⟩ := List.mem_map.mp h
              exact .step hj hrow hq
          · intro p hp q hq
            rw [ks']
            rcases List.mem_append.mp hp with h | h
            · rcases hcl p h q hq with h | h
              · exact .inl (List.mem_append_left _ h)
              · rcases List.mem_append.mp h with h | h
                · exact .inr (List.mem_append_left _ h)
                · rw [List.mem_singleton.mp h]
                  exact .inl (List.mem_append_right _ List.mem_cons_self)
            · rw [List.mem_singleton.mp h] at hq
              exact .inr (List.mem_append_right _ (List.mem_map_of_mem hq))
          · rw [ks']
            rcases h0 with h | h
            · exact .inl (List.mem_append_left _ h)
            · rcases List.mem_append.mp h with h | h
              · exact .inr (List.mem_append_left _ h)
              · have e := List.mem_singleton.mp h
                subst e
                exact .inl (List.mem_append_right _ List.mem_cons_self)
          · rw [ks', List.length_append, List.length_map]
            omega
abbrev sLL : Stmt := top 9
abbrev NLL : List Str := ["steps", "table", "least", "cost", "after", "many", "total"]
theorem scLL : FnScope NLL ["steps", "table"] (defScope sLL) := ⟨rfl, rfl, rfl, by decide +kernel, rfl, by decide +kernel, by decide +kernel⟩
theorem ok_LL {f : Addr} {fd : FuncData} (F : Fun K "least_lengths" "least_lengths" sLL f fd) : FnOk P w K mg base CX0 1 f fd ["steps", "table"] spLeast := by
  refine F.ok scLL (fun vs H Q E h => ?_) (fun cdv A outer s H vs Q E hr h => ?_)
  · obtain ⟨v, w, row, tab, look, B, F, m, rfl, _⟩ := h
    rfl
  · obtain ⟨v, w, row, tab, look, B, F, m, rfl, O, hv, hw, hrow, hB, k⟩ := h
    have hu := hu_of hr
    refine ⟨_, 
    (pss_cons (ps_set (i := 2) scLL.nd rfl (Or.inl rfl) pe_dnewK)
    (pss_cons (ps_for PassesOwn.never rfl (pi_list (pv 0)) (pg_tup (by rfl) (pgs_cons (pg_name (i := 3) scLL.nd rfl (Or.inl rfl)) (pgs_cons (pg_name (i := 4) scLL.nd rfl (Or.inl rfl)) pgs_nil))) 
      (pss_one (ps_lock (ps_for PassesOwn.never rfl (pi_keys (pe_dget hu (pv 1) (pv 4) (fun _ _ => rfl))) (pg_name (i := 5) scLL.nd rfl (Or.inl rfl)) 
        (pss_cons (ps_set (i := 6) scLL.nd rfl (Or.inl rfl) (pe_op op_add (pv 3) (pe_dget hu (pe_dget hu (pv 1) (pv 4) (fun _ _ => rfl)) (pv 5) (fun _ _ => rfl))))
        (pss_one (ps_if (PW.pt (pw_or (pt_cmp (pc_dnotin hu (pe_op op_add (pv 5) pe_int) (pv 2))) (pw_or1 (pt_cmpR op_lt (pv 6) (pe_dget hu (pv 2) (pe_op op_add (pv 5) pe_int) (fun _ _ => rfl)) (nomark _))))) 
          (pss_one (ps_dput hu (pv 2) (pe_op op_add (pv 5) pe_int) (pv 6) rfl)) pss_nil)))))))
    (pss_one (ps_ret (pv 2))))), ?_⟩
    walk_at "x"
    refine x_dnew O (fun ld H1 hn1 O1 => ?_)
    walk_at "x"
    refine x_doL O1 hv (fun i σ F' m' => F' = F ∧ ∃ (kvs : List (Key × V)) (u1 u2 u3 u4 : Option V), σ = [some v, some w, some (.ref ld), u1, u2, u3, u4] ∧ m' = (ld, .dK kvs) :: m ∧ kvR rInt F (leastOf (row.take i) look) kvs)
      ⟨rfl, [], _, _, _, _, rfl, rfl, .nil⟩ ?_ ?_
    · rintro i p z σ' H' F' m' hi hz s O' ⟨rfl, kvs, u1, u2, u3, u4, rfl, rfl, hk⟩
      refine x_gpair O' hz (fun a1 a2 ha1 ha2 => ?_)
      have ha1 : a1 = .int p.1 := ha1
      have ha2 : a2 = .int (p.2 : Int) := ha2
      subst ha1 ha2
      walk_at "x"
      obtain ⟨hg, hkeys⟩ := hrow p (List.mem_of_getElem? hi)
      obtain ⟨tb, kvT, _, rfl, htb, hvT, a, kv1, rfl, ha, hkv⟩ := dictX_at hw hg
      have hacc : Keys (B + 1) (leastOf (row.take i) look) := Keys.of _ _ Keys.nil fun q hq => (hrow q (List.mem_of_mem_take hq)).2
      refine x_lock O' ha (fun od H2 F2 O2 le2 hf2 back => ?_)
      have hR2 : Rd F2 tb (.dK kvT) := le2.dk _ _ (.inl htb)
      walk_at "x"
      refine x_dgetR O2 hR2 hvT ?_
      refine x_doK O2 hf2 hkv (fun j σ F3 m3 => ∃ (kvs : List (Key × V)) (u1 u2 : Option V), σ = [some v, some (.ref tb), some (.ref ld), some (.int p.1), some (.int (p.2 : Int)), u1, u2] ∧ m3 = (ld, .dK kvs) :: m ∧
        kvR rInt F2 ((((look p.2).take j).map (·.1)).foldl (leastStep p.1 (look p.2)) (leastOf (row.take i) look)) kvs) ⟨kvs, _, _, rfl, rfl, hk⟩ ?_ ?_
      · rintro j q σ' H3 F3 m3 hj s3 O3 ⟨kvs3, u5, u6, rfl, rfl, hk3⟩
        walk_at "x"
        refine x_dgetR O3 (rd_same s3 hR2) hvT ?_
        walk_at "x"
        have hqm : q.1 ∈ (look p.2).map (·.1) := List.mem_map_of_mem (List.mem_of_getElem? hj)
        obtain ⟨c, hc⟩ := getD_some hqm
        have hvc : valV kv1 (Sum.inl q.1) = some (.int c) := by
          rcases hkv.get q.1 with ⟨e1, _⟩ | ⟨y, w1, e1, e2, hr⟩
          · rw [hc] at e1
            cases e1
          · rw [hc] at e1
            cases e1
            cases hr
            exact e2
        refine x_dgetR O3 (.inr ⟨od, s3 _ _ hf2⟩) hvc ?_
        walk_at "x"
        have hk3' := hk3.up s3
        have hstep : (((look p.2).take (j + 1)).map (·.1)).foldl (leastStep p.1 (look p.2)) (leastOf (row.take i) look) = leastStep p.1 (look p.2) ((((look p.2).take j).map (·.1)).foldl (leastStep p.1 (look p.2)) (leastOf (row.take i) look)) q.1 := by
          rw [List.take_add_one, hj, List.map_append, List.foldl_append]
          rfl
        have hK : Keys (B + 1) ((((look p.2).take j).map (·.1)).foldl (leastStep p.1 (look p.2)) (leastOf (row.take i) look)) := Keys.fold _ hacc fun x hx => by
          obtain ⟨y, hy, rfl⟩ := List.mem_map.mp hx
          exact hkeys.2 _ (List.mem_map_of_mem (List.mem_of_mem_take hy))
        generalize hA : (((look p.2).take j).map (·.1)).foldl (leastStep p.1 (look p.2)) (leastOf (row.take i) look) = acc at hk3 hk3' hstep hK
        have hlen := hK.len
        refine x_dinO O3 hk3' ?_
        walk_at "x"
        cases hg1 : getD acc (q.1 + 1) with
        | none =>
          refine x_iteT rfl ?_
          walk_at "x"
          refine x_iteT rfl ?_
          walk_at "x"
          refine x_dputO O3 hk3' (x := p.1 + c) (R := rInt) rfl (by omega) (fun kvs4 H4 hk4 O4 => ?_)
          walk_at "x"
          refine LI.mk s3 O4 ?_
          refine ⟨kvs4, _, _, rfl, rfl, ?_⟩
          rw [hstep]
          unfold leastStep
          rw [hg1, hc]
          exact hk4.mono fun _ _ h => h
        | some x =>
          refine x_iteF rfl ?_
          walk_at "x"
          refine x_dgetO O3 hk3' hg1 (fun wx hwx => ?_)
          have hwx : wx = .int x := hwx
          subst hwx
          walk_at "x"
          refine x_iteD (fun hlt => ?_) (fun hlt => ?_)
          · walk_at "x"
            refine x_dputO O3 hk3' (x := p.1 + c) (R := rInt) rfl (by omega) (fun kvs4 H4 hk4 O4 => ?_)
            walk_at "x"
            refine LI.mk s3 O4 ?_
            refine ⟨kvs4, _, _, rfl, rfl, ?_⟩
            rw [hstep]
            unfold leastStep
            rw [hg1, hc]
            dsimp only [Option.getD_some]
            rw [if_pos hlt]
            exact hk4.mono fun _ _ h => h
          · walk_at "x"
            refine LI.mk s3 O3 ?_
            refine ⟨kvs3, _, _, rfl, rfl, ?_⟩
            rw [hstep]
            unfold leastStep
            rw [hg1, hc]
            dsimp only [Option.getD_some]
            rw [if_neg hlt]
            exact hk3.mono fun _ _ h => h
      · rintro σ' H3 F3 m3 s3 O3 ⟨kvs3, u5, u6, rfl, rfl, hk3⟩
        rw [List.take_length] at hk3
        refine x_unlock O3 hf2 back s3 (fun H4 F4 s4 le4 O4 => ?_)
        walk_at "x"
        refine LI.mk (Same.refl _) (O4.back s4) ⟨rfl, kvs3, _, _, _, _, rfl, rfl, ?_⟩
        rw [List.take_add_one, hi]
        show kvR rInt _ (leastOf (row.take i ++ [p]) look) kvs3
        unfold leastOf
        rw [List.foldl_append]
        exact hk3.mono fun _ _ h => h
    · rintro σ' H' F' m' s O' ⟨rfl, kvs, u1, u2, u3, u4, rfl, rfl, hk⟩
      rw [List.take_length] at hk
      walk_at "x"
      exact k ld kvs H' O' hk
abbrev sLI : Stmt := inClass (top 10) 0
abbrev NLI : List Str := ["self", "task", "state"]
theorem scLI : FnScope NLI ["self", "task"] (defScope sLI) := ⟨rfl, rfl, rfl, by decide +kernel, rfl, by decide +kernel, by decide +kernel⟩
theorem ok_LI {f C CT fE fR fS fL : Addr} {fd fdE fdS fdL : FuncData} (F : Fun K "__init__" "Lengths.__init__" sLI f fd) (T : Bi mg) (L : LCls K C) (clT : Cls K CT) (bR : BMeth K CT "rank" fR) (FR : FnR P w K mg base CX0 1 fR (fun vs H Q E => spTRank (vs ++ []) H Q E))
    (M_TableTask_is_end : Met P w K mg base CT "is_end" 1 fE fdE ["self", "state"] (spTEnd CT)) (C_steps_of_reached : Cal P w K mg base "steps_of_reached" 2 fS fdS ["task"] (spReached CT)) (C_least_lengths : Cal P w K mg base "least_lengths" 1 fL fdL ["steps", "table"] spLeast) :
    FnOk P w K mg base CX0 4 f fd ["self", "task"] (spLInit C CT) := by
  refine F.ok scLI (fun vs H Q E h => ?_) (fun cdv A outer s H vs Q E hr h => ?_)
  · obtain ⟨x, dx, v, rows, F, m, rfl, _⟩ := h
    rfl
  · obtain ⟨x, dx, v, rows, F, m, rfl, O, hv, wf, hN, k⟩ := h
    have hu := hu_of hr
    refine ⟨_, 
    (pss_cons (ps_fld (pv 0) (pv 1) rfl)
    (pss_cons (ps_fld (pv 0) (pe_call C_steps_of_reached.ok (hr.mono (by first | decide | omega)) rfl C_steps_of_reached.mg C_steps_of_reached.kp C_steps_of_reached.bi .nil pass0 (pa_cons (pv 1) pa_nil)) rfl)
    (pss_cons (ps_fld (pv 0) pe_dnewK rfl)
    (pss_one (ps_for PassesOwn.never rfl (pi_list (pe_callBK (cr_sortedM (g := fR) (b := true) FR (hr.mono (by decide))) (by rfl) T.b_sorted (by decide +kernel) (pa_cons (pe_callTy (call_list_dK rfl) (by rfl) T.b_list (by decide +kernel) (pa_cons (pe_fld (pv 0) rfl) pa_nil)) pa_nil) (pk_cons (pe_bndM (pv 1) clT bR) (pk_cons pe_bl pk_nil)))) (pg_name (i := 2) scLI.nd rfl (Or.inl rfl)) 
      (pss_one (ps_if (pt_val (pe_meth (pv 1) M_TableTask_is_end.cl M_TableTask_is_end.me M_TableTask_is_end.ok (hr.mono (by first | decide | omega)) M_TableTask_is_end.bi .nil pass0 (pa_cons (pv 2) pa_nil))) 
        (pss_one (ps_dput hu (pe_fld (pv 0) rfl) (pv 2) (pe_disp (pps_cons pe_int pe_int pps_nil) (by rfl) (by rfl) (fun z => by cases z) (by decide)) rfl)) 
        (pss_one (ps_dput hu (pe_fld (pv 0) rfl) (pv 2) (pe_call C_least_lengths.ok (hr.mono (by first | decide | omega)) rfl C_least_lengths.mg C_least_lengths.kp C_least_lengths.bi .nil pass0 (pa_cons (pe_dget hu (pe_fld (pv 0) rfl) (pv 2) (fun _ _ => rfl)) (pa_cons (pe_fld (pv 0) rfl) pa_nil))) rfl))))))))), ?_⟩
    walk_at "x"
    refine x_setF O L.cl L.n1 (by show 0 < 1000; decide) (fun H1 O1 => ?_)
    walk_at "x"
    refine ⟨v, rows, F, _, rfl, O1, hv, wf, hN, fun fv H2 F2 d s2 O2 hfv hd => ?_⟩
    walk_at "x"
    refine x_setF O2 L.cl L.n2 (by show 1 < 1000; decide) (fun H3 O3 => ?_)
    walk_at "x"
    refine x_dnew O3 (fun tb H4 hn4 O4 => ?_)
    walk_at "x"
    refine x_setF O4.swap L.cl L.n3 (by show 2 < 1000; decide) (fun H5 O5 => ?_)
    rw [lF_make] at O5
    walk_at "x"
    refine x_fldO O5.at0 L.cl L.n2 lF_found ?_
    walk_at "x"
    refine x_listD O5 hfv (fun lv H6 F6 s6 O6 hlv => ?_)
    walk_at "x"
    obtain ⟨ta, tdx, tt, rfl, hta, htt⟩ := id hv
    have s26 := s2.trans s6
    refine bm_of O6 (s26 _ _ hta) (lk_ne (by decide +kernel)) (fun q H7 F7 s7 O7 hq => ?_)
    walk_at "x"
    refine x_sortedM O7 (up s7 hlv) hq (fun n hn Q' hQ => ⟨_, n, rfl, hQ⟩) (fun ns' sv H8 F8 hperm hpw s8 O8 hsv => ?_)
    have s28 := s26.trans (s7.trans s8)
    have s68 := s6.trans (s7.trans s8)
    have hnd : ns'.Nodup := hperm.nodup_iff.mpr hd.nd
    have hmem : ∀ n, n ∈ ns' ↔ n ∈ d.map (·.1) := fun n => hperm.mem_iff
    have hpw : ns'.Pairwise (fun x y => y ≤ x) := hpw.imp fun h => by simpa using h
    have hlen : d.length ≤ rows.length := by
      have := nodup_len rows.length (d.map (·.1)) hd.nd fun y hy => by
        obtain ⟨p, hp, e⟩ := List.mem_map.mp hy
        obtain ⟨i, e1, e2⟩ := hd.ent p hp
        have := (List.getElem?_eq_some_iff.mp e2).1
        omega
      rw [List.length_map] at this
      exact this
    have hnl : ns'.length = d.length := by rw [hperm.length_eq, List.length_map]
    refine x_doL O8.swap hsv (fun i σ F' m' => ∃ (kvs : List (Key × V)) (tab : List (Int × List (Int × Int))) (u : Option V), σ = [some (.ref x), some (.ref ta), u] ∧ m' = (tb, .dK kvs) :: (x, .ins C dx (lF (.ref ta) fv (.ref tb))) :: m ∧ kvR rLens F' tab kvs ∧
      tab.map (·.1) = ns'.take i ∧ ∀ p ∈ tab, ∃ j : Nat, p.1 = (j : Int) ∧ j < rows.length ∧ p.2 = lens rows j) ⟨[], [], _, rfl, ?_, .nil, by simp, fun _ h => (nomatch h)⟩ ?_ ?_
    · rfl
    · rintro i n w1 σ' H' F' m' hi hw1 s' O' ⟨kvs, tab, u, rfl, rfl, hk, hkeys, hent⟩
      have hw1 : w1 = .int n := hw1
      subst hw1
      walk_at "x"
      have sF := s28.trans s'
      have il : i < ns'.length := (List.getElem?_eq_some_iff.mp hi).1
      have hnm : n ∈ d.map (·.1) := (hmem n).mp (List.mem_of_getElem? hi)
      obtain ⟨pr, hpr, hpe⟩ := List.mem_map.mp hnm
      obtain ⟨j, e1, hrow⟩ := hd.ent pr hpr
      have hj : n = (j : Int) := by rw [← hpe, e1]
      subst hj
      have jl : j < rows.length := (List.getElem?_eq_some_iff.mp hrow).1
      have htl : tab.length = i := by
        have := congrArg List.length hkeys
        simp at this
        omega
      have hnot : (j : Int) ∉ tab.map (·.1) := by
        rw [hkeys]
        intro h
        obtain ⟨i2, hi2⟩ := List.getElem?_of_mem h
        have hi2' := (List.getElem?_eq_some_iff.mp hi2).1
        simp at hi2'
        rw [List.getElem?_take_of_lt (by omega)] at hi2
        have := nd_ix hnd hi2 hi
        omega
      -- behind the store
      have store : ∀ (x1 : List (Int × Int)) (kvs2 : List (Key × V)) (F2 H2 : Hp), x1 = lens rows j → Same F' F2 → kvR rLens F2 (putD tab (j : Int) x1) kvs2 → Own H2 F2 ((tb, .dK kvs2) :: (x, .ins C dx (lF (.ref ta) fv (.ref tb))) :: m) →
          ∃ (kvs : List (Key × V)) (tab : List (Int × List (Int × Int))) (u : Option V), [some (V.ref x), some (V.ref ta), some (V.int (j : Int))] = [some (.ref x), some (.ref ta), u] ∧ (tb, HO.dK kvs2) :: (x, HO.ins C dx (lF (.ref ta) fv (.ref tb))) :: m = (tb, .dK kvs) :: (x, .ins C dx (lF (.ref ta) fv (.ref tb))) :: m ∧ kvR rLens F2 tab kvs ∧
            tab.map (·.1) = ns'.take (i + 1) ∧ ∀ p ∈ tab, ∃ j : Nat, p.1 = (j : Int) ∧ j < rows.length ∧ p.2 = lens rows j := fun x1 kvs2 F2 H2 hx1 _ hk2 _ => by
        have hput : putD tab (j : Int) x1 = tab ++ [((j : Int), x1)] := by
          unfold putD
          rw [if_neg]
          intro h
          obtain ⟨p, hp, e⟩ := List.any_eq_true.mp h
          exact hnot (List.mem_map.mpr ⟨p, hp, of_decide_eq_true e⟩)
        rw [hput] at hk2
        refine ⟨kvs2, _, _, rfl, rfl, hk2, ?_, fun p hp => ?_⟩
        · rw [List.map_append, hkeys, List.take_add_one, hi]
          rfl
        · rcases List.mem_append.mp hp with h | h
          · exact hent p h
          · rw [List.mem_singleton.mp h]
            exact ⟨j, rfl, jl, hx1⟩
      refine mq_of (O'.frz (sF _ _ hta)) (lk_ne (by decide +kernel)) ?_
      walk_at "x"
      refine ⟨.ref ta, rows, j, F', _, rfl, O', up sF hv, ?_⟩
      walk_at "x"
      refine x_iteD (fun hend => ?_) (fun hend => ?_)
      · walk_at "x"
        refine x_disp1 O' (fun p H9 hn9 O9 => ?_)
        obtain ⟨O10, s10, h10⟩ := freezeD (R := rInt) (d := [(0, 0)]) O9 (.cons ⟨rfl, rfl⟩ .nil)
        walk_at "x"
        refine x_fldO O10.swap.at0 L.cl L.n3 lF_table ?_
        walk_at "x"
        refine x_dputO O10 (hk.up s10) h10 (by omega) (fun kvs2 H11 hk2 O11 => ?_)
        walk_at "x"
        refine LI.mk (s'.trans s10) O11 ?_
        exact store _ _ _ _ (lens_last hend).symm s10 hk2 O11
      · walk_at "x"
        refine x_fldO O'.swap.at0 L.cl L.n2 lF_found ?_
        walk_at "x"
        obtain ⟨row2, hrow2⟩ := getD_some hnm
        have hr2 : row2 = pr.2 := by
          obtain ⟨j2, f1, f2⟩ := hd.ent _ (getD_mem hrow2)
          have : j2 = j := by
            have : ((j : Int)) = (j2 : Int) := f1
            omega
          subst this
          rw [hrow] at f2
          exact (Option.some.inj f2).symm
        subst hr2
        refine x_dgetF O' (dictX (up (s68.trans s') hfv)) hrow2 (fun rv hrv => ?_)
        walk_at "x"
        refine x_fldO O'.swap.at0 L.cl L.n3 lF_table ?_
        walk_at "x"
        have Of := O'.freeze
        have sf := O'.freeze_same
        have hfree : F' tb = none := O'.fr0
        have hlook : ∀ p ∈ pr.2, getD tab (p.2 : Int) = some (lens rows p.2) ∧ Keys rows.length (lens rows p.2) := fun p hp => by
          have hw := wf.2 j _ hrow p hp
          have hre : Reach rows p.2 := .step ((hd.all j).mp hnm) hrow hp
          have hmk : (p.2 : Int) ∈ tab.map (·.1) := by
            rw [hkeys]
            have hm2 : (p.2 : Int) ∈ ns' := (hmem _).mpr ((hd.all p.2).mpr hre)
            obtain ⟨i2, hi2⟩ := List.getElem?_of_mem hm2
            have hi2' := (List.getElem?_eq_some_iff.mp hi2).1
            by_cases hlt : i2 < i
            · exact List.mem_of_getElem? (i := i2) (by rw [List.getElem?_take_of_lt hlt]; exact hi2)
            · exfalso
              by_cases he : i2 = i
              · subst he
                rw [hi] at hi2
                have := Option.some.inj hi2
                omega
              · have := List.pairwise_iff_getElem.mp hpw i i2 il hi2' (by omega)
                rw [(List.getElem?_eq_some_iff.mp hi).2, (List.getElem?_eq_some_iff.mp hi2).2] at this
                omega
          obtain ⟨z, hz⟩ := getD_some hmk
          obtain ⟨j2, f1, f2, f3⟩ := hent _ (getD_mem hz)
          have : j2 = p.2 := by
            have : ((p.2 : Int)) = (j2 : Int) := f1
            omega
          subst this
          exact ⟨by rw [hz]; exact congrArg some f3, (lens_keys wf (rows.length - p.2) p.2 (by omega) (by omega)).mono (by omega)⟩
        refine ⟨rv, .ref tb, pr.2, tab, lens rows, rows.length, _, _, rfl, Of, up sf hrv, ⟨tb, kvs, rfl, upd_same, hk.up sf⟩, hlook, by omega, fun p kl H9 O9 hkl => ?_⟩
        have O10 := O9.thaw hfree
        obtain ⟨O11, s11, h11⟩ := freezeD (R := rInt) (d := leastOf pr.2 (lens rows)) O10.swap (hkl.mono fun _ _ h => h)
        walk_at "x"
        refine x_fldO O11.swap.at0 L.cl L.n3 lF_table ?_
        walk_at "x"
        refine x_dputO O11 (hk.up s11) h11 (by omega) (fun kvs2 H12 hk2 O12 => ?_)
        walk_at "x"
        refine LI.mk (s'.trans s11) O12 ?_
        exact store _ _ _ _ (lens_row wf hrow hend).symm s11 hk2 O12
    · rintro σ' H' F' m' s' O' ⟨kvs, tab, u, rfl, rfl, hk, hkeys, hent⟩
      rw [List.take_length] at hkeys
      walk_at "x"
      obtain ⟨O9, s9, h9⟩ := freezeD O' hk
      refine k H' _ fv (.ref tb) d tab (s28.trans (s'.trans s9)) O9 (up (s68.trans (s'.trans s9)) hfv) hd h9 ⟨by rw [hkeys]; exact hnd, hent, fun j => ?_⟩
      rw [hkeys, hmem]
      exact hd.all j
abbrev sLT : Stmt := inClass (top 10) 1
abbrev NLT : List Str := ["self", "state", "lengths", "many"]
theorem scLT : FnScope NLT ["self", "state"] (defScope sLT) := ⟨rfl, rfl, rfl, by decide +kernel, rfl, by decide +kernel, by decide +kernel⟩
theorem ok_LT {f C CT : Addr} {fd : FuncData} (F : Fun K "_told" "Lengths._told" sLT f fd) (T : Bi mg) (L : LCls K C) : FnOk P w K mg base CX0 1 f fd ["self", "state"] (spTold C CT) := by
  refine F.ok scLT (fun vs H Q E h => ?_) (fun cdv A outer s H vs Q E hr h => ?_)
  · obtain ⟨v, rows, j, F, m, rfl, _⟩ := h
    rfl
  · obtain ⟨v, rows, j, F, m, rfl, O, ⟨a, dx, t, fv, b, d, tab, rfl, ha, ht, hf, hd, hb, hT⟩, wf, hN, hre, k⟩ := h
    have hu := hu_of hr
    refine ⟨_, 
    (pss_cons (ps_set (i := 2) scLT.nd rfl (Or.inr rfl) (pe_dget hu (pe_fld (pv 0) rfl) (pv 1) (fun _ _ => rfl)))
    (pss_one (ps_ret (pe_callTy cr_tup (by rfl) T.b_tuple (by decide +kernel) (pa_cons (pe_lc (own := [("many", 3)]) (g := (gName 3)) (tt := tYes) rfl scLT.nd (pi_list (pe_callB cr_sortedI (by rfl) T.b_sorted (by decide +kernel) (pa_cons (pe_callTy (call_list_dK rfl) (by rfl) T.b_list (by decide +kernel) (pa_cons (pv 2) pa_nil)) pa_nil))) (blkOk_by (N := NLT) (sc := defScope sLT) (by decide +kernel)) (fun _ _ _ _ _ => (pg_name (i := 3) scLT.nd rfl (Or.inl rfl))) (fun _ _ _ _ _ => pts_nil) (fun _ _ _ _ _ => (pe_tup (pa_cons (pv 3) (pa_cons (pe_dget hu (pv 2) (pv 3) (fun _ _ => rfl)) pa_nil))))) pa_nil))))), ?_⟩
    walk_at "x"
    refine x_fldF O ha L.cl L.n3 lF_table ?_
    walk_at "x"
    have hg : getD tab (j : Int) = some (lens rows j) := by
      obtain ⟨z, hz⟩ := getD_some ((hT.all j).mpr hre)
      obtain ⟨j2, f1, f2, f3⟩ := hT.ent _ (getD_mem hz)
      have : j2 = j := by
        have : ((j : Int)) = (j2 : Int) := f1
        omega
      subst this
      rw [hz]
      exact congrArg some f3
    have hlt := hre.lt wf
    have hK := lens_keys wf (rows.length - j) j (by omega) (by omega)
    have hKl := hK.len
    refine x_dgetF O (dictX hb) hg (fun lv hlv0 => ?_)
    have hlv : rLens F (lens rows j) lv := hlv0
    walk_at "x"
    refine x_listD O hlv (fun w1 H1 F1 s1 O1 hw1 => ?_)
    walk_at "x"
    refine x_sortedL O1 hw1 (fun ns' w2 H2 F2 hp hs s2 O2 hw2 => ?_)
    have hns := sortI_eq hp hs
    subst hns
    refine x_docL (S := rPair rInt rInt) O2 hw2 (fun i F3 m3 ys => m3 = m ∧ ys = ((sortI ((lens rows j).map (·.1))).take i).map fun q => (q, (getD (lens rows j) q).getD 0)) ⟨rfl, by simp⟩ ?_ ?_
    · rintro D acc i q w3 H3 F3 m3 ys hi hw3 s3 O3 hacc hyl ⟨rfl, rfl⟩
      have hw3 : w3 = .int q := hw3
      subst hw3
      walk_at "x"
      refine ⟨rfl, ?_⟩
      walk_at "x"
      refine x_iteT rfl ?_
      walk_at "x"
      have hqm : q ∈ (lens rows j).map (·.1) := (sortI_perm _).mem_iff.mp (List.mem_of_getElem? hi)
      obtain ⟨c, hc⟩ := getD_some hqm
      refine x_dgetF O3 (dictX (up (s1.trans (s2.trans s3)) hlv)) hc (fun w4 hw4 => ?_)
      have hw4 : w4 = .int c := hw4
      subst hw4
      walk_at "x"
      refine x_newPair (R := rInt) (S := rInt) (x := q) (y := c) O3 rfl rfl (fun v4 H4 F4 s4 O4 hv4 => ?_)
      have il : i < (sortI ((lens rows j).map (·.1))).length := (List.getElem?_eq_some_iff.mp hi).1
      rw [(sortI_perm _).length_eq, List.length_map] at il
      refine x_keep O4 (s3.trans s4) hv4 (all2_up s4 hacc) hyl (by omega) ⟨rfl, ?_⟩
      rw [List.take_add_one, hi, List.map_append]
      simp [hc]
    · rintro v4 H4 F4 m4 ys s4 O4 hv4 ⟨rfl, rfl⟩
      rw [List.take_length] at hv4
      walk_at "x"
      refine x_tupL O4 hv4 (fun w5 H5 F5 s5 O5 hw5 => ?_)
      walk_at "x"
      exact k w5 H5 F5 (s1.trans (s2.trans (s4.trans s5))) O5 hw5
abbrev sLS : Stmt := inClass (top 10) 2
abbrev NLS : List Str := ["self"]
theorem scLS : FnScope NLS ["self"] (defScope sLS) := ⟨rfl, rfl, rfl, by decide +kernel, rfl, by decide +kernel, by decide +kernel⟩
theorem ok_LS {f C CT f1 f2 : Addr} {fd fd1 fd2 : FuncData} (F : Fun K "spectrum" "Lengths.spectrum" sLS f fd) (L : LCls K C) (M_Lengths__told : Met P w K mg base C "_told" 1 f1 fd1 ["self", "state"] (spTold C CT)) (M_TableTask_first : Met P w K mg base CT "first" 1 f2 fd2 ["self"] (spTFirst CT)) :
    FnOk P w K mg base CX0 2 f fd ["self"] (spSpec C CT) := by
  refine F.ok scLS (fun vs H Q E h => ?_) (fun cdv A outer s H vs Q E hr h => ?_)
  · obtain ⟨v, rows, F, m, rfl, _⟩ := h
    rfl
  · obtain ⟨v, rows, F, m, rfl, O, hv, wf, hN, k⟩ := h
    obtain ⟨a, dx, t, fv, b, d, tab, rfl, ha, ht, hf, hd, hb, hT⟩ := id hv
    refine ⟨_, 
    (pss_one (ps_ret (pe_meth (pv 0) M_Lengths__told.cl M_Lengths__told.me M_Lengths__told.ok (hr.mono (by first | decide | omega)) M_Lengths__told.bi .nil pass0 (pa_cons (pe_meth0 (pe_fld (pv 0) rfl) M_TableTask_first.cl M_TableTask_first.me M_TableTask_first.ok (hr.mono (by first | decide | omega)) M_TableTask_first.bi .nil pass0) pa_nil)))), ?_⟩
    walk_at "x"
    refine mq_of (O.frz ha) (by rw [lF]; exact (lk_ne (by decide +kernel)).trans ((lk_ne (by decide +kernel)).trans ((lk_ne (by decide +kernel)).trans rfl))) ?_
    walk_at "x"
    refine x_fldF O ha L.cl L.n1 lF_task ?_
    obtain ⟨ta, tdx, tt, rfl, hta, htt⟩ := id ht
    refine mq_of (O.frz hta) (lk_ne (by decide +kernel)) ?_
    walk_at "x"
    refine ⟨.ref ta, rows, F, m, rfl, O, ht, ?_⟩
    walk_at "x"
    exact ⟨.ref a, rows, 0, F, m, rfl, O, hv, wf, hN, .first, k⟩
abbrev sLP : Stmt := inClass (top 10) 3
abbrev NLP : List Str := ["self", "state"]
theorem scLP : FnScope NLP ["self"] (defScope sLP) := ⟨rfl, rfl, rfl, by decide +kernel, rfl, by decide +kernel, by decide +kernel⟩
theorem ok_LP {f C CT f1 : Addr} {fd fd1 : FuncData} (F : Fun K "paper" "Lengths.paper" sLP f fd) (T : Bi mg) (L : LCls K C) (M_Lengths__told : Met P w K mg base C "_told" 1 f1 fd1 ["self", "state"] (spTold C CT)) :
    FnOk P w K mg base CX0 2 f fd ["self"] (spPaper C CT) := by
  refine F.ok scLP (fun vs H Q E h => ?_) (fun cdv A outer s H vs Q E hr h => ?_)
  · obtain ⟨v, rows, F, m, rfl, _⟩ := h
    rfl
  · obtain ⟨v, rows, F, m, rfl, O, hv, wf, hN, k⟩ := h
    obtain ⟨a, dx, t, fv, b, d, tab, rfl, ha, ht, hf, hd, hb, hT⟩ := id hv
    refine ⟨_, 
    (pss_one (ps_ret (pe_callTy cr_tup (by rfl) T.b_tuple (by decide +kernel) (pa_cons (pe_lc (own := [("state", 1)]) (g := (gName 1)) (tt := tYes) rfl scLP.nd (pi_list (pe_callB cr_sortedI (by rfl) T.b_sorted (by decide +kernel) (pa_cons (pe_callTy (call_list_dK rfl) (by rfl) T.b_list (by decide +kernel) (pa_cons (pe_fld (pv 0) rfl) pa_nil)) pa_nil))) (blkOk_by (N := NLP) (sc := defScope sLP) (by decide +kernel)) (fun _ _ _ _ _ => (pg_name (i := 1) scLP.nd rfl (Or.inl rfl))) (fun _ _ _ _ _ => pts_nil) (fun _ _ _ _ _ => (pe_tup (pa_cons (pv 1) (pa_cons (pe_meth (pv 0) M_Lengths__told.cl M_Lengths__told.me M_Lengths__told.ok (hr.mono (by first | decide | omega)) M_Lengths__told.bi .nil pass0 (pa_cons (pv 1) pa_nil)) pa_nil))))) pa_nil)))), ?_⟩
    walk_at "x"
    refine x_fldF O ha L.cl L.n3 lF_table ?_
    walk_at "x"
    refine x_listD O hb (fun w1 H1 F1 s1 O1 hw1 => ?_)
    walk_at "x"
    refine x_sortedL O1 hw1 (fun ns' w2 H2 F2 hp hs s2 O2 hw2 => ?_)
    have hks : ∀ x ∈ ns', ∃ j : Nat, x = (j : Int) ∧ Reach rows j := fun x hx => by
      obtain ⟨p, hp', e⟩ := List.mem_map.mp (hp.mem_iff.mp hx)
      obtain ⟨j, e1, _⟩ := hT.ent p hp'
      have e2 : x = (j : Int) := by rw [← e, e1]
      exact ⟨j, e2, (hT.all j).mp (e2 ▸ hp.mem_iff.mp hx)⟩
    have hnl : ns'.length ≤ rows.length := nodup_len rows.length ns' (hp.nodup_iff.mpr hT.nd) fun x hx => by
      obtain ⟨j, e, hr⟩ := hks x hx
      have := hr.lt wf
      omega
    refine x_docL (S := rPair rInt rTold) O2 hw2 (fun i F3 m3 ys => m3 = m ∧ ys = (ns'.take i).map fun q => (q, told (lens rows q.toNat))) ⟨rfl, by simp⟩ ?_ ?_
    · rintro D acc i q w3 H3 F3 m3 ys hi hw3 s3 O3 hacc hyl ⟨rfl, rfl⟩
      have hw3 : w3 = .int q := hw3
      subst hw3
      walk_at "x"
      refine ⟨rfl, ?_⟩
      walk_at "x"
      refine x_iteT rfl ?_
      walk_at "x"
      obtain ⟨j, rfl, hre⟩ := hks q (List.mem_of_getElem? hi)
      have sA := s1.trans (s2.trans s3)
      refine mq_of (O3.frz (sA _ _ ha)) (by rw [lF]; exact (lk_ne (by decide +kernel)).trans ((lk_ne (by decide +kernel)).trans ((lk_ne (by decide +kernel)).trans rfl))) ?_
      walk_at "x"
      refine ⟨.ref a, rows, j, F3, _, rfl, O3, up sA hv, wf, hN, hre, fun w4 H4 F4 s4 O4 hw4 => ?_⟩
      walk_at "x"
      refine x_newPair (R := rInt) (S := rTold) (x := (j : Int)) (y := told (lens rows j)) O4 rfl hw4 (fun v5 H5 F5 s5 O5 hv5 => ?_)
      have il : i < ns'.length := (List.getElem?_eq_some_iff.mp hi).1
      refine x_keep O5 (s3.trans (s4.trans s5)) hv5 (all2_up (s4.trans s5) hacc) hyl (by omega) ⟨rfl, ?_⟩
      rw [List.take_add_one, hi, List.map_append]
      simp
    · rintro v4 H4 F4 m4 ys s4 O4 hv4 ⟨rfl, rfl⟩
      rw [List.take_length] at hv4
      walk_at "x"
      refine x_tupL O4 hv4 (fun w5 H5 F5 s5 O5 hw5 => ?_)
      walk_at "x"
      refine k w5 H5 F5 _ (s1.trans (s2.trans (s4.trans s5))) O5 hw5 ⟨ns', hp.nodup_iff.mpr hT.nd, hs, fun x hx => ?_, fun j => ?_, rfl⟩
      · obtain ⟨j, e, _⟩ := hks x hx
        omega
      · rw [hp.mem_iff]
        exact hT.all j
abbrev sGS : Stmt := top 11
abbrev NGS : List Str := ["task"]
theorem scGS : FnScope NGS ["task"] (defScope sGS) := ⟨rfl, rfl, rfl, by decide +kernel, rfl, by decide +kernel, by decide +kernel⟩
theorem ok_GS {f C CT f1 f2 : Addr} {fd fd1 fd2 : FuncData} (F : Fun K "spectrum" "spectrum" sGS f fd) (L : LCls K C) (MkL : Mk K C f1) (GL : FnOk P w K mg base CX0 4 f1 fd1 ["self", "task"] (spLInit C CT)) (mgL : mg "Lengths" = some (.ref C)) (bL : Binds K fd1 ["self", "task"] [])
    (M_Lengths_spectrum : Met P w K mg base C "spectrum" 2 f2 fd2 ["self"] (spSpec C CT)) : FnOk P w K mg base CX0 6 f fd ["task"] (spTopSpec CT) := by
  refine F.ok scGS (fun vs H Q E h => ?_) (fun cdv A outer s H vs Q E hr h => ?_)
  · obtain ⟨v, rows, F, m, rfl, _⟩ := h
    rfl
  · obtain ⟨v, rows, F, m, rfl, O, hv, wf, hN, k⟩ := h
    refine ⟨_, 
    (pss_one (ps_ret (pe_meth0 (pe_make MkL GL (hr.mono (by first | decide | omega)) rfl mgL bL .nil pass0 (pa_cons (pv 0) pa_nil)) M_Lengths_spectrum.cl M_Lengths_spectrum.me M_Lengths_spectrum.ok (hr.mono (by first | decide | omega)) M_Lengths_spectrum.bi .nil pass0))), ?_⟩
    walk_at "x"
    refine mk_of O (fun x dx H1 F1 hx s1 O1 => ⟨x, dx, v, rows, F1, m, rfl, O1, up s1 hv, wf, hN, fun H2 F2 fv b d tab s2 O2 hf hd hb hT => ⟨rfl, ?_⟩⟩)
    have O3 := O2.freeze
    have s3 := O2.freeze_same
    have hL : rLengths C CT (upd F2 x (.ins C dx (lF v fv b))) rows (.ref x) := ⟨x, dx, v, fv, b, d, tab, rfl, upd_same, up (s1.trans (s2.trans s3)) hv, up s3 hf, hd, up s3 hb, hT⟩
    refine mq_of (O3.frz upd_same) (by rw [lF]; exact (lk_ne (by decide +kernel)).trans ((lk_ne (by decide +kernel)).trans ((lk_ne (by decide +kernel)).trans rfl))) ?_
    walk_at "x"
    exact ⟨.ref x, rows, _, m, rfl, O3, hL, wf, by omega, fun w4 H4 F4 s4 O4 hw4 => k w4 H4 F4 (s1.trans (s2.trans (s3.trans s4))) O4 hw4⟩
abbrev sGP : Stmt := top 12
abbrev NGP : List Str := ["task"]
theorem scGP : FnScope NGP ["task"] (defScope sGP) := ⟨rfl, rfl, rfl, by decide +kernel, rfl, by decide +kernel, by decide +kernel⟩
theorem ok_GP {f C CT f1 f2 : Addr} {fd fd1 fd2 : FuncData} (F : Fun K "spectra" "spectra" sGP f fd) (L : LCls K C) (MkL : Mk K C f1) (GL : FnOk P w K mg base CX0 4 f1 fd1 ["self", "task"] (spLInit C CT)) (mgL : mg "Lengths" = some (.ref C)) (bL : Binds K fd1 ["self", "task"] [])
    (M_Lengths_paper : Met P w K mg base C "paper" 2 f2 fd2 ["self"] (spPaper C CT)) : FnOk P w K mg base CX0 6 f fd ["task"] (spTopSpectra CT) := by
  refine F.ok scGP (fun vs H Q E h => ?_) (fun cdv A outer s H vs Q E hr h => ?_)
  · obtain ⟨v, rows, F, m, rfl, _⟩ := h
    rfl
  · obtain ⟨v, rows, F, m, rfl, O, hv, wf, hN, k⟩ := h
    refine ⟨_, 
    (pss_one (ps_ret (pe_meth0 (pe_make MkL GL (hr.mono (by first | decide | omega)) rfl mgL bL .nil pass0 (pa_cons (pv 0) pa_nil)) M_Lengths_paper.cl M_Lengths_paper.me M_Lengths_paper.ok (hr.mono (by first | decide | omega)) M_Lengths_paper.bi .nil pass0))), ?_⟩
    walk_at "x"
    refine mk_of O (fun x dx H1 F1 hx s1 O1 => ⟨x, dx, v, rows, F1, m, rfl, O1, up s1 hv, wf, hN, fun H2 F2 fv b d tab s2 O2 hf hd hb hT => ⟨rfl, ?_⟩⟩)
    have O3 := O2.freeze
    have s3 := O2.freeze_same
    have hL : rLengths C CT (upd F2 x (.ins C dx (lF v fv b))) rows (.ref x) := ⟨x, dx, v, fv, b, d, tab, rfl, upd_same, up (s1.trans (s2.trans s3)) hv, up s3 hf, hd, up s3 hb, hT⟩
    refine mq_of (O3.frz upd_same) (by rw [lF]; exact (lk_ne (by decide +kernel)).trans ((lk_ne (by decide +kernel)).trans ((lk_ne (by decide +kernel)).trans rfl))) ?_
    walk_at "x"
    exact ⟨.ref x, rows, _, m, rfl, O3, hL, wf, by omega, fun w4 H4 F4 p s4 O4 hw4 hp => k w4 H4 F4 p (s1.trans (s2.trans (s3.trans s4))) O4 hw4 hp⟩
end
end Tf
namespace Tf
open PySem PySem.Spec PyProof.Rows L2
section
variable {P : Program} {w : World} {K : PySem.W.Frag} {mg : Str → Option Value} {base : Heap}
abbrev sCo : Stmt := top 20
abbrev NCo : List Str := ["pool"]
theorem scCo : FnScope NCo ["pool"] (defScope sCo) := ⟨rfl, rfl, rfl, by decide +kernel, rfl, by decide +kernel, by decide +kernel⟩
theorem ok_Co {f fC__law_draw fC__law_rare : Addr} {fd fd__law_draw fd__law_rare : FuncData} (F : Fun K "_law_cost" "_law_cost" sCo f fd) (T : Bi mg) (C__law_draw : Cal P w K mg base "_law_draw" 1 fC__law_draw fd__law_draw ["pool", "many"] spDraw)
    (C__law_rare : Cal P w K mg base "_law_rare" 2 fC__law_rare fd__law_rare ["pool", "many"] spRare) : FnOk P w K mg base CX0 3 f fd ["pool"] spCost := by
  refine F.ok scCo (fun vs H Q E h => ?_) (fun cdv A outer s H vs Q E hr h => ?_)
  · obtain ⟨p, o, F, m, rfl, _⟩ := h
    rfl
  · obtain ⟨p, o, F, m, rfl, O, hp, k⟩ := h
    refine ⟨_, 
    (pss_cons (ps_if (pt_val (pe_call C__law_rare.ok (hr.mono (by first | decide | omega)) rfl C__law_rare.mg C__law_rare.kp C__law_rare.bi .nil pass0 (pa_cons (pv 0) (pa_cons pe_int pa_nil)))) 
      (pss_one (ps_ret (pe_call C__law_draw.ok (hr.mono (by first | decide | omega)) rfl C__law_draw.mg C__law_draw.kp C__law_draw.bi .nil pass0 (pa_cons (pv 0) (pa_cons (pe_op op_pow pe_int pe_int) pa_nil))))) pss_nil)
    (pss_one (ps_ret (pe_call C__law_draw.ok (hr.mono (by first | decide | omega)) rfl C__law_draw.mg C__law_draw.kp C__law_draw.bi .nil pass0 (pa_cons (pv 0) (pa_cons pe_int pa_nil)))))), ?_⟩
    walk_at "x"
    refine ⟨p, o, _, F, m, rfl, O, hp, by decide, by decide, fun b H' o' O' hp' => ?_⟩
    walk_at "x"
    refine x_ite (fun _ => ?_) (fun _ => ?_)
    · walk_at "x"
      refine ⟨p, o', _, F, m, rfl, O', hp', by decide, by decide, fun r H2 o2 h1 h2 O2 hp2 => ?_⟩
      exact k r H2 o2 h1 O2 hp2
    · walk_at "x"
      refine ⟨p, o', _, F, m, rfl, O', hp', by decide, by decide, fun r H2 o2 h1 h2 O2 hp2 => ?_⟩
      exact k r H2 o2 h1 O2 hp2
abbrev sRo : Stmt := top 21
abbrev NRo : List Str := ["pool", "many", "rows", "k", "n", "row", "far"]
theorem scRo : FnScope NRo ["pool"] (defScope sRo) := ⟨rfl, rfl, rfl, by decide +kernel, rfl, by decide +kernel, by decide +kernel⟩
theorem ok_Ro {f f1 f2 f3 f4 f5 : Addr} {fd fd1 fd2 fd3 fd4 fd5 : FuncData} (F : Fun K "_law_rows" "_law_rows" sRo f fd) (T : Bi mg) (C__law_draw : Cal P w K mg base "_law_draw" 1 f1 fd1 ["pool", "many"] spDraw)
    (C__law_rare : Cal P w K mg base "_law_rare" 2 f2 fd2 ["pool", "many"] spRare) (C__law_pick : Cal P w K mg base "_law_pick" 2 f3 fd3 ["pool", "row"] spPick) (C__law_few : Cal P w K mg base "_law_few" 3 f4 fd4 ["pool", "usual", "most"] spFew)
    (C__law_cost : Cal P w K mg base "_law_cost" 3 f5 fd5 ["pool"] spCost) : FnOk P w K mg base CX0 4 f fd ["pool"] spRows := by
  refine F.ok scRo (fun vs H Q E h => ?_) (fun cdv A outer s H vs Q E hr h => ?_)
  · obtain ⟨p, o, F, m, rfl, _⟩ := h
    rfl
  · obtain ⟨p, o, F, m, rfl, O, hp, k⟩ := h
    refine ⟨_, 
    (pss_cons (ps_if (pt_val (pe_call C__law_rare.ok (hr.mono (by first | decide | omega)) rfl C__law_rare.mg C__law_rare.kp C__law_rare.bi .nil pass0 (pa_cons (pv 0) (pa_cons pe_int pa_nil)))) 
      (pss_cons (ps_set (i := 1) scRo.nd rfl (Or.inl rfl) (pe_op op_add pe_int (pe_call C__law_draw.ok (hr.mono (by first | decide | omega)) rfl C__law_draw.mg C__law_draw.kp C__law_draw.bi .nil pass0 (pa_cons (pv 0) (pa_cons pe_int pa_nil)))))
      (pss_cons (ps_set (i := 2) scRo.nd rfl (Or.inl rfl) (pe_lst pa_nil))
      (pss_cons (ps_for PassesOwn.never rfl (pi_range1 (by rfl) T.b_range (pa_cons (pe_op op_sub (pv 1) pe_int) pa_nil)) (pg_name (i := 3) scRo.nd rfl (Or.inr rfl)) 
        (pss_one (ps_expr (pe_bm PySem.F.plainAttrs_list PySem.F.slot_list_append PySem.F.type_list_append mt_append (pv 2) (pa_cons (pe_lc (own := [("n", 4)]) (g := (gName 4)) (tt := tYes) rfl scRo.nd (pi_range1 (by rfl) T.b_range (pa_cons (pe_op op_add pe_int (pe_callTy cr_int (by rfl) T.b_int (by decide +kernel) (pa_cons (pe_cmpR op_eq (pe_op op_mod (pv 3) pe_int) pe_int (nomark _)) pa_nil))) pa_nil)) (blkOk_by (N := NRo) (sc := defScope sRo) (by decide +kernel)) (fun _ _ _ _ _ => (pg_name (i := 4) scRo.nd rfl (Or.inl rfl))) (fun _ _ _ _ _ => pts_nil) (fun _ _ _ _ _ => (pe_tup (pa_cons (pe_call C__law_draw.ok (hr.mono (by first | decide | omega)) rfl C__law_draw.mg C__law_draw.kp C__law_draw.bi .nil pass0 (pa_cons (pv 0) (pa_cons pe_int pa_nil))) (pa_cons (pe_op op_add (pv 3) pe_int) pa_nil))))) pa_nil)))))
      (pss_one (ps_ret (pe_op op_cat (pv 2) (pe_lst (pa_cons (pe_lst pa_nil) pa_nil)))))))) pss_nil)
    (pss_cons (ps_set (i := 1) scRo.nd rfl (Or.inl rfl) (pe_op op_add pe_int (pe_call C__law_few.ok (hr.mono (by first | decide | omega)) rfl C__law_few.mg C__law_few.kp C__law_few.bi .nil pass0 (pa_cons (pv 0) (pa_cons pe_int (pa_cons pe_int pa_nil))))))
    (pss_cons (ps_set (i := 2) scRo.nd rfl (Or.inl rfl) (pe_lst pa_nil))
    (pss_cons (ps_for PassesOwn.never rfl (pi_range1 (by rfl) T.b_range (pa_cons (pe_op op_sub (pv 1) pe_int) pa_nil)) (pg_name (i := 3) scRo.nd rfl (Or.inr rfl)) 
      (pss_cons (ps_set (i := 5) scRo.nd rfl (Or.inl rfl) (pe_lst pa_nil))
      (pss_cons (ps_for PassesOwn.never rfl (pi_range1 (by rfl) T.b_range (pa_cons (pe_call C__law_pick.ok (hr.mono (by first | decide | omega)) rfl C__law_pick.mg C__law_pick.kp C__law_pick.bi .nil pass0 (pa_cons (pv 0) (pa_cons (pe_lst (pa_cons pe_int (pa_cons pe_int (pa_cons pe_int (pa_cons pe_int (pa_cons pe_int (pa_cons pe_int (pa_cons pe_int (pa_cons pe_int (pa_cons pe_int (pa_cons pe_int pa_nil))))))))))) pa_nil))) pa_nil)) (pg_name (i := 4) scRo.nd rfl (Or.inl rfl)) 
        (pss_cons (ps_set (i := 6) scRo.nd rfl (Or.inl rfl) (pe_callB (cr_min2 rfl) (by rfl) T.b_min (by decide +kernel) (pa_cons (pe_op op_sub (pe_op op_sub (pv 1) pe_int) (pv 3)) (pa_cons (pe_call C__law_pick.ok (hr.mono (by first | decide | omega)) rfl C__law_pick.mg C__law_pick.kp C__law_pick.bi .nil pass0 (pa_cons (pv 0) (pa_cons (pe_lst (pa_cons pe_int (pa_cons pe_int (pa_cons pe_int (pa_cons (pv 1) pa_nil))))) pa_nil))) pa_nil))))
        (pss_one (ps_expr (pe_bm PySem.F.plainAttrs_list PySem.F.slot_list_append PySem.F.type_list_append mt_append (pv 5) (pa_cons (pe_tup (pa_cons (pe_call C__law_cost.ok (hr.mono (by first | decide | omega)) rfl C__law_cost.mg C__law_cost.kp C__law_cost.bi .nil pass0 (pa_cons (pv 0) pa_nil)) (pa_cons (pe_op op_add (pe_op op_add (pv 3) pe_int) (pe_call C__law_draw.ok (hr.mono (by first | decide | omega)) rfl C__law_draw.mg C__law_draw.kp C__law_draw.bi .nil pass0 (pa_cons (pv 0) (pa_cons (pv 6) pa_nil)))) pa_nil))) pa_nil))))))
      (Tf.pss_cut (ps_if (PW.pt (pw_and (pt_tru (pv 5) (by intro _; rfl)) (pw_and1 (pt_val (pe_call C__law_rare.ok (hr.mono (by first | decide | omega)) rfl C__law_rare.mg C__law_rare.kp C__law_rare.bi .nil pass0 (pa_cons (pv 0) (pa_cons pe_int pa_nil))))))) 
        (pss_one (ps_expr (pe_bm PySem.F.plainAttrs_list PySem.F.slot_list_append PySem.F.type_list_append mt_append (pv 5) (pa_cons (pe_tup (pa_cons (pe_call C__law_cost.ok (hr.mono (by first | decide | omega)) rfl C__law_cost.mg C__law_cost.kp C__law_cost.bi .nil pass0 (pa_cons (pv 0) pa_nil)) (pa_cons (pe_ix ix_tup (pe_ix ix_list (pv 5) pe_int (fun _ _ => rfl)) pe_int (fun _ _ => rfl)) pa_nil))) pa_nil)))) pss_nil)
      (pss_one (ps_expr (pe_bm PySem.F.plainAttrs_list PySem.F.slot_list_append PySem.F.type_list_append mt_append (pv 2) (pa_cons (pv 5) pa_nil))))))))
    (pss_one (ps_ret (pe_op op_cat (pv 2) (pe_lst (pa_cons (pe_lst pa_nil) pa_nil))))))))), ?_⟩
    walk_at "x"
    refine ⟨p, o, _, F, m, rfl, O, hp, by decide, by decide, fun b H1 o1 O1 hp1 => ?_⟩
    walk_at "x"
    refine x_ite (fun _ => ?_) (fun _ => ?_)
    · walk_at "x"
      refine ⟨p, o1, _, F, m, rfl, O1, hp1, by decide, by decide, fun r H2 o2 r0 r1 O2 hp2 => ?_⟩
      walk_at "x"
      refine x_ownL (vs := []) O2 (Nat.zero_le _) (fun rl H3 hn3 O3 => ?_)
      walk_at "x"
      obtain ⟨n, hn⟩ : ∃ n : Nat, (1050 + r - 1).toNat = n := ⟨_, rfl⟩
      refine x_doR1 O3 hn (by omega) (by omega) (fun i σ F' m' => ∃ (us : List V) (rs : List Row) (o' : HO) (u1 u2 u3 u4 : Option V), σ = [some (.ref p), some (.int (1050 + r)), some (.ref rl), u1, u2, u3, u4] ∧ m' = (rl, .lst us) :: (p, o') :: m ∧ PoolOk F' o' ∧ All2 (rRow F') rs us ∧ rs.length = i ∧ RowsTo (n + 1) rs)
        ⟨[], [], o2, _, _, _, _, rfl, rfl, hp2, .nil, rfl, .nil⟩ ?_ ?_
      · rintro i σ' H4 F4 m4 hi s4 O4 ⟨us, rs, o4, u1, u2, u3, u4, rfl, rfl, hp4, hus, hrs, hto⟩
        walk_at "x"
        refine ⟨ty_list O4.at0, ?_⟩
        walk_at "x"
        refine x_docR1 (S := rPair rInt rNat) (n := (1 + (if decide ((i : Int) % 5 = 3) then 1 else 0) : Int).toNat) O4 rfl ?_ ?_ (fun j F5 m5 ys => ∃ o5, m5 = (rl, .lst us) :: (p, o5) :: m ∧ PoolOk F5 o5 ∧ RowTo i (n + 1) ys ∧ ys.length ≤ j) ⟨o4, rfl, hp4, fun q hq => (nomatch hq), Nat.le_refl _⟩ ?_ ?_ ?_
        · split <;> omega
        · split <;> omega
        · rintro D acc j H5 F5 m5 ys hj s5 O5 hacc hyl ⟨o5, rfl, hp5, hq5, hq5l⟩
          walk_at "x"
          refine ⟨rfl, ?_⟩
          walk_at "x"
          refine x_iteT rfl ?_
          walk_at "x"
          refine ⟨p, o5, _, F5, _, rfl, O5.rot3, hp5, by decide, by decide, fun c H6 o6 c0 c1 O6 hp6 => ?_⟩
          walk_at "x"
          refine x_newPair (R := rInt) (S := rNat) (x := c) (y := i + 1) O6 rfl (by show V.int _ = V.int _; congr 1) (fun v7 H7 F7 s7 O7 hv7 => ?_)
          refine x_keep (O7.perm (m' := (D, .lst acc) :: (rl, .lst us) :: (p, o6) :: m) ?_) (s5.trans s7) hv7 (all2_up s7 hacc) hyl ?_ ⟨o6, rfl, hp6.up s7, hq5.snoc c0 (by omega) (by omega), by rw [List.length_append]; exact Nat.succ_le_succ hq5l⟩
          · exact ((List.Perm.swap _ _ _).trans (((List.Perm.swap _ _ _)).cons _))
          · have : (1 + (if decide ((i : Int) % 5 = 3) then 1 else 0) : Int) ≤ 2 := by split <;> omega
            omega
        · rintro v5 H5 F5 m5 ys s5 O5 hv5 ⟨o5, rfl, hp5, hq5, hq5l⟩
          walk_at "x"
          have hul : us.length = i := by rw [← hus.length]; exact hrs
          refine x_append O5 (by omega) (fun H6 O6 => ?_)
          walk_at "x"
          refine LI.mk (s4.trans s5) O6 ?_
          refine ⟨us ++ [v5], rs ++ [ys], o5, _, _, _, _, rfl, rfl, hp5, (all2_up s5 hus).snoc hv5, by rw [List.length_append]; exact congrArg (· + 1) hrs, hto.snoc ?_ ?_⟩
          · have : (1 + (if decide ((i : Int) % 5 = 3) then 1 else 0) : Int) ≤ 2 := by split <;> omega
            omega
          · rw [hrs]
            exact hq5
        · rintro F6 F7 m6 ys j s6 ⟨o6, e6, h6, h7⟩
          exact ⟨o6, e6, h6.up s6, h7⟩
      · rintro σ' H4 F4 m4 s4 O4 ⟨us, rs, o4, u1, u2, u3, u4, rfl, rfl, hp4, hus, hrs, hto⟩
        have O5 := O4.freeze
        have s5 := O4.freeze_same
        walk_at "x"
        refine x_newL (R := rPair rInt rNat) (xs := []) O5 (Nat.zero_le _) .nil (fun v6 H6 F6 s6 O6 hv6 => ?_)
        walk_at "x"
        refine x_newL (R := rRow) (xs := [[]]) O6 (by show 1 ≤ _; decide) (.cons hv6 .nil) (fun v7 H7 F7 s7 O7 hv7 => ?_)
        walk_at "x"
        have hrl : rRows (upd F4 rl (.lst us)) rs (.ref rl) := ⟨rl, us, rfl, upd_same, all2_up s5 hus⟩
        refine x_cat (R := rRow) O7 (up (s6.trans s7) hrl) hv7 (by show _ + 1 ≤ _; omega) (fun v8 H8 F8 s8 O8 hv8 => ?_)
        walk_at "x"
        exact k v8 H8 F8 o4 _ (s4.trans (s5.trans (s6.trans (s7.trans s8)))) O8 (hp4.up (s5.trans (s6.trans (s7.trans s8)))) hv8 (hto.done (by omega) (by omega))
    · walk_at "x"
      refine ⟨p, o1, _, _, F, m, rfl, O1, hp1, by decide, by decide, by decide, by decide, fun r H2 o2 r0 r1 O2 hp2 => ?_⟩
      walk_at "x"
      refine x_ownL (vs := []) O2 (Nat.zero_le _) (fun rl H3 hn3 O3 => ?_)
      walk_at "x"
      obtain ⟨n, hn⟩ : ∃ n : Nat, (1 + r - 1).toNat = n := ⟨_, rfl⟩
      have er : 1 + r = ((n + 1 : Nat) : Int) := by omega
      refine x_doR1 O3 hn (by omega) (by omega) (fun i σ F' m' => ∃ (us : List V) (rs : List Row) (o' : HO) (u1 u2 u3 u4 : Option V), σ = [some (.ref p), some (.int (1 + r)), some (.ref rl), u1, u2, u3, u4] ∧ m' = (rl, .lst us) :: (p, o') :: m ∧ PoolOk F' o' ∧ All2 (rRow F') rs us ∧ rs.length = i ∧ RowsTo (n + 1) rs)
        ⟨[], [], o2, _, _, _, _, rfl, rfl, hp2, .nil, rfl, .nil⟩ ?_ ?_
      · rintro i σ' H4 F4 m4 hi s4 O4 ⟨us, rs, o4, u1, u2, u3, u4, rfl, rfl, hp4, hus, hrs, hto⟩
        walk_at "x"
        refine x_ownL (vs := []) O4 (Nat.zero_le _) (fun rw H5 hn5 O5 => ?_)
        walk_at "x"
        have hmenu : ∀ {F' : Hp}, All2 (rInt F') [(0 : Int), 1, 1, 2, 2, 2, 3, 3, 4, 6] [V.int 0, V.int 1, V.int 1, V.int 2, V.int 2, V.int 2, V.int 3, V.int 3, V.int 4, V.int 6] := All2.ofmap (f := V.int)
        refine x_newL (R := rInt) (xs := [0, 1, 1, 2, 2, 2, 3, 3, 4, 6]) O5 (by show 10 ≤ _; decide) hmenu (fun v6 H6 F6 s6 O6 hv6 => ?_)
        obtain ⟨a6, us6, rfl, ha6, hus6⟩ := hv6
        have eus6 := ints_of hus6
        subst eus6
        walk_at "x"
        refine ⟨p, o4, a6, _, F6, _, rfl, O6.rot3, hp4.up s6, ha6, by simp, by simp, fun w7 H7 o7 hw7 O7 hp7 => ?_⟩
        obtain ⟨z, hz, rfl⟩ := List.mem_map.mp hw7
        have hz6 : 0 ≤ z ∧ z ≤ 6 := by
          simp at hz
          omega
        walk_at "x"
        refine x_doR1 (n := z.toNat) O7 rfl (by omega) (by omega) (fun j σ F' m' => ∃ (qs : List V) (row : Row) (o' : HO) (u1 u2 : Option V), σ = [some (.ref p), some (.int (1 + r)), some (.ref rl), some (.int (i : Int)), u1, some (.ref rw), u2] ∧ m' = (p, o') :: (rw, .lst qs) :: (rl, .lst us) :: m ∧ PoolOk F' o' ∧ All2 (rPair rInt rNat F') row qs ∧ row.length = j ∧ RowTo i (n + 1) row)
          ⟨[], [], o7, _, _, rfl, rfl, hp7, .nil, rfl, fun q hq => (nomatch hq)⟩ ?_ ?_
        · rintro j σ' H8 F8 m8 hj s8 O8 ⟨qs, row, o8, u5, u6, rfl, rfl, hp8, hqs, hjl, hrow⟩
          walk_at "x"
          have hmenu2 : ∀ {F' : Hp}, All2 (rInt F') [1, 2, 3, 1 + r] [V.int 1, V.int 2, V.int 3, V.int (1 + r)] := All2.ofmap (f := V.int)
          refine x_newL (R := rInt) (xs := [1, 2, 3, 1 + r]) O8 (by show 4 ≤ _; decide) hmenu2 (fun v9 H9 F9 s9 O9 hv9 => ?_)
          obtain ⟨a9, us9, rfl, ha9, hus9⟩ := hv9
          have eus9 := ints_of hus9
          subst eus9
          walk_at "x"
          refine ⟨p, o8, a9, _, F9, _, rfl, O9, hp8.up s9, ha9, by simp, by simp, fun wa Ha oa hwa Oa hpa => ?_⟩
          obtain ⟨z2, hz2, rfl⟩ := List.mem_map.mp hwa
          have hz2' : 0 < z2 ∧ z2 < 1000 := by
            simp at hz2
            omega
          walk_at "x"
          refine ⟨ty_list (Oa.swap.at0), ?_⟩
          walk_at "x"
          refine ⟨p, oa, F9, _, rfl, Oa, hpa, fun c Hb ob c0 Ob hpb => ?_⟩
          walk_at "x"
          have hfar : (0 : Int) < (if z2 < 1 + r - 1 - (i : Int) then z2 else 1 + r - 1 - (i : Int)) ∧ (if z2 < 1 + r - 1 - (i : Int) then z2 else 1 + r - 1 - (i : Int)) ≤ 1 + r - 1 - (i : Int) := by
            split <;> omega
          refine ⟨p, ob, _, F9, _, rfl, Ob, hpb, hfar.1, by omega, fun d Hc oc d0 d1 Oc hpc => ?_⟩
          walk_at "x"
          obtain ⟨b, hb⟩ : ∃ b : Nat, (i : Int) + 1 + d = (b : Int) := ⟨((i : Int) + 1 + d).toNat, by omega⟩
          rw [hb]
          refine x_newPair (R := rInt) (S := rNat) (x := c) (y := b) Oc rfl rfl (fun ve He Fe se Oe hve => ?_)
          walk_at "x"
          have hql : qs.length = j := by rw [← hqs.length]; exact hjl
          refine x_append Oe.swap (by omega) (fun Hf Of => ?_)
          walk_at "x"
          refine LI.mk (s8.trans (s9.trans se)) Of.swap ?_
          exact ⟨qs ++ [ve], row ++ [(c, b)], oc, _, _, rfl, rfl, hpc.up se, (all2_up (s9.trans se) hqs).snoc hve, by rw [List.length_append]; exact congrArg (· + 1) hjl, hrow.snoc c0 (by omega) (by omega)⟩
        · rintro σ' H8 F8 m8 s8 O8 ⟨qs, row, o8, u5, u6, rfl, rfl, hp8, hqs, hjl, hrow⟩
          walk_at "x"
          have hql : qs.length = row.length := hqs.length.symm
          have hul : us.length = i := by rw [← hus.length]; exact hrs
          refine x_cut (fun σ' H' => ∃ (F' : Hp) (qs : List V) (row : Row) (o' : HO) (u1 u2 : Option V), Same F8 F' ∧ Own H' F' ((p, o') :: (rw, .lst qs) :: (rl, .lst us) :: m) ∧ σ' = [some (.ref p), some (.int (1 + r)), some (.ref rl), some (.int (i : Int)), u1, some (.ref rw), u2] ∧ PoolOk F' o' ∧ All2 (rPair rInt rNat F') row qs ∧ row.length ≤ 7 ∧ RowTo i (n + 1) row) ?_ ?_
          · walk_at "x"
            refine tq_list O8.swap.at0 ?_
            refine x_ite (fun hne => ?_) (fun _ => ?_)
            · walk_at "x"
              refine ⟨p, o8, _, F8, _, rfl, O8, hp8, by decide, by decide, fun b9 H9 o9 O9 hp9 => ?_⟩
              walk_at "x"
              refine x_ite (fun _ => ?_) (fun _ => ?_)
              · walk_at "x"
                refine ⟨ty_list O9.swap.at0, ?_⟩
                walk_at "x"
                refine ⟨p, o9, F8, _, rfl, O9, hp9, fun c Ha oa c0 Oa hpa => ?_⟩
                walk_at "x"
                cases row with
                | nil =>
                  cases hqs
                  cases hne
                | cons q row =>
                  cases hqs with
                  | @cons _ v0 _ qs hq0 hqs =>
                    refine x_ixO (j := 0) Oa.swap rfl rfl ?_
                    walk_at "x"
                    refine x_snd Oa hq0 (fun w2 hw2 => ?_)
                    have hw2 : w2 = .int (q.2 : Int) := hw2
                    subst hw2
                    walk_at "x"
                    refine x_newPair (R := rInt) (S := rNat) (x := c) (y := q.2) Oa rfl rfl (fun ve He Fe se Oe hve => ?_)
                    walk_at "x"
                    refine x_append Oe.swap (by simp at hql hjl ⊢; omega) (fun Hf Of => ?_)
                    walk_at "x"
                    have hqm := hrow q List.mem_cons_self
                    refine ⟨Fe, (v0 :: qs) ++ [ve], (q :: row) ++ [(c, q.2)], oa, _, _, se, Of.swap, rfl, hpa.up se, (all2_up se (All2.cons hq0 hqs)).snoc hve, ?_, hrow.snoc c0 hqm.2.1 hqm.2.2⟩
                    rw [List.length_append, hjl]
                    simp
                    omega
              · walk_at "x"
                exact ⟨F8, qs, row, o9, _, _, Same.refl _, O9, rfl, hp9, hqs, by omega, hrow⟩
            · walk_at "x"
              exact ⟨F8, qs, row, o8, _, _, Same.refl _, O8, rfl, hp8, hqs, by omega, hrow⟩
          · rintro σ' H9 ⟨F9, qs9, row9, o9, u7, u8, s9, O9, rfl, hp9, hqs9, hr7, hrow9⟩
            walk_at "x"
            have Oa := O9.swap.freeze
            have sa := O9.swap.freeze_same
            refine ⟨ty_list Oa.swap.at0, ?_⟩
            walk_at "x"
            refine x_append Oa.swap (by omega) (fun Hb Ob => ?_)
            walk_at "x"
            have sall := s6.trans (s8.trans (s9.trans sa))
            refine LI.mk (s4.trans sall) Ob ?_
            refine ⟨us ++ [.ref rw], rs ++ [row9], o9, _, _, _, _, rfl, rfl, hp9.up sa, (all2_up sall hus).snoc ⟨rw, qs9, rfl, upd_same, all2_up sa hqs9⟩, by rw [List.length_append]; exact congrArg (· + 1) hrs, hto.snoc hr7 ?_⟩
            rw [hrs]
            exact hrow9
      · rintro σ' H4 F4 m4 s4 O4 ⟨us, rs, o4, u1, u2, u3, u4, rfl, rfl, hp4, hus, hrs, hto⟩
        walk_at "x"
        have O5 := O4.freeze
        have s5 := O4.freeze_same
        walk_at "x"
        refine x_newL (R := rPair rInt rNat) (xs := []) O5 (Nat.zero_le _) .nil (fun v6 H6 F6 s6 O6 hv6 => ?_)
        walk_at "x"
        refine x_newL (R := rRow) (xs := [[]]) O6 (by show 1 ≤ _; decide) (.cons hv6 .nil) (fun v7 H7 F7 s7 O7 hv7 => ?_)
        walk_at "x"
        have hrl : rRows (upd F4 rl (.lst us)) rs (.ref rl) := ⟨rl, us, rfl, upd_same, all2_up s5 hus⟩
        refine x_cat (R := rRow) O7 (up (s6.trans s7) hrl) hv7 (by show _ + 1 ≤ _; omega) (fun v8 H8 F8 s8 O8 hv8 => ?_)
        walk_at "x"
        exact k v8 H8 F8 o4 _ (s4.trans (s5.trans (s6.trans (s7.trans s8)))) O8 (hp4.up (s5.trans (s6.trans (s7.trans s8)))) hv8 (hto.done (by omega) (by omega))
abbrev sLe : Stmt := top 22
abbrev NLe : List Str := ["rows", "found", "k", "best", "step", "m", "total"]
theorem scLe : FnScope NLe ["rows"] (defScope sLe) := ⟨rfl, rfl, rfl, by decide +kernel, rfl, by decide +kernel, by decide +kernel⟩
theorem ok_Le {f : Addr} {fd : FuncData} (F : Fun K "_law_lengths" "_law_lengths" sLe f fd) (T : Bi mg) : FnOk P w K mg base CX0 1 f fd ["rows"] spLawLens := by
  refine F.ok scLe (fun vs H Q E h => ?_) (fun cdv A outer s H vs Q E hr h => ?_)
  · obtain ⟨v, rows, F, m, rfl, _⟩ := h
    rfl
  · obtain ⟨v, rows, F, m, rfl, O, hv, ok, k⟩ := h
    have hu := hu_of hr
    have wf := ok.wf
    have hN := ok.len
    refine ⟨_, 
    (pss_cons (ps_set (i := 1) scLe.nd rfl (Or.inl rfl) (pe_op op_rep (pe_lst (pa_cons (pe_lst pa_nil) pa_nil)) (pe_callB cr_len (by rfl) T.b_len (by decide +kernel) (pa_cons (pv 0) pa_nil))))
    (pss_cons (ps_for PassesOwn.never rfl (pi_range3 (by rfl) T.b_range (pa_cons (pe_op op_sub (pe_callB cr_len (by rfl) T.b_len (by decide +kernel) (pa_cons (pv 0) pa_nil)) pe_int) (pa_cons (pe_un un_neg pe_int) (pa_cons (pe_un un_neg pe_int) pa_nil)))) (pg_name (i := 2) scLe.nd rfl (Or.inl rfl)) 
      (pss_cons (ps_set (i := 3) scLe.nd rfl (Or.inl rfl) pe_dnewK)
      (Tf.pss_cut (ps_if (pt_cmpR op_eq (pv 2) (pe_op op_sub (pe_callB cr_len (by rfl) T.b_len (by decide +kernel) (pa_cons (pv 0) pa_nil)) pe_int) (nomark _)) 
        (pss_one (ps_dput hu (pv 3) pe_int pe_int rfl)) pss_nil)
      (pss_cons (ps_for PassesOwn.never rfl (pi_list (pe_ix ix_list (pv 0) (pv 2) (fun _ _ => rfl))) (pg_name (i := 4) scLe.nd rfl (Or.inl rfl)) 
        (pss_one (ps_lock (ps_for PassesOwn.never rfl (pi_keys (pe_ix ix_list (pv 1) (pe_ix ix_tup (pv 4) pe_int (fun _ _ => rfl)) (fun _ _ => rfl))) (pg_name (i := 5) scLe.nd rfl (Or.inl rfl)) 
          (pss_cons (ps_set (i := 6) scLe.nd rfl (Or.inl rfl) (pe_op op_add (pe_ix ix_tup (pv 4) pe_int (fun _ _ => rfl)) (pe_dget hu (pe_ix ix_list (pv 1) (pe_ix ix_tup (pv 4) pe_int (fun _ _ => rfl)) (fun _ _ => rfl)) (pv 5) (fun _ _ => rfl))))
          (pss_one (ps_if (PW.pt (pw_or (pt_cmp (pc_dnotin hu (pe_op op_add (pv 5) pe_int) (pv 3))) (pw_or1 (pt_cmpR op_lt (pv 6) (pe_dget hu (pv 3) (pe_op op_add (pv 5) pe_int) (fun _ _ => rfl)) (nomark _))))) 
            (pss_one (ps_dput hu (pv 3) (pe_op op_add (pv 5) pe_int) (pv 6) rfl)) pss_nil)))))))
      (pss_one (ps_asg (pv 3) (pg_sub (pv 1) (pv 2) set_list)))))))
    (pss_one (ps_ret (pv 1))))), ?_⟩
    walk_at "x"
    refine x_newL (R := rInt) (xs := []) O (Nat.zero_le _) .nil (fun v1 H1 F1 s1 O1 hv1 => ?_)
    walk_at "x"
    refine x_newL (R := rList rInt) (xs := [[]]) (vs := [v1]) O1 (by show 1 ≤ _; decide) (.cons hv1 .nil) (fun v2 H2 F2 s2 O2 hv2 => ?_)
    walk_at "x"
    refine x_lenL O2 (up (s1.trans s2) hv) ?_
    walk_at "x"
    refine x_rep1 O2 hv2 rfl (by omega) (fun fl H3 F3 vs0 hn3 s3 O3 hvs0 => ?_)
    walk_at "x"
    have s03 := s1.trans (s2.trans s3)
    refine x_lenL O3 (up s03 hv) ?_
    walk_at "x"
    have hvs0l : vs0.length = rows.length := by
      have := hvs0.length
      simp at this
      exact this.symm
    refine x_doDown (n := rows.length) O3 rfl (by omega) (fun i σ F' m' => ∃ (vs : List V) (u1 u2 u3 u4 u5 : Option V), σ = [some v, some (.ref fl), u1, u2, u3, u4, u5] ∧ m' = (fl, .lst vs) :: m ∧ vs.length = rows.length ∧
      ∀ j : Nat, rows.length - i ≤ j → j < rows.length → ∃ w, vs[j]? = some w ∧ rLens F' (lens rows j) w) ⟨vs0, _, _, _, _, _, rfl, rfl, hvs0l, fun j h1 h2 => by omega⟩ ?_ ?_
    · rintro i j σ' H4 F4 m4 hij s4 O4 ⟨vs, u1, u2, u3, u4, u5, rfl, rfl, hvl, hdone⟩
      walk_at "x"
      refine x_dnew O4 (fun bd H5 hn5 O5 => ?_)
      walk_at "x"
      have jl : j < rows.length := by omega
      obtain ⟨row, hrow⟩ := wf.row jl
      have s04 := s03.trans s4
      refine x_cut (fun σ' H' => ∃ (kvs : List (Key × V)), σ' = [some v, some (.ref fl), some (.int (j : Int)), some (.ref bd), u3, u4, u5] ∧ Own H' F4 ((bd, .dK kvs) :: (fl, .lst vs) :: m) ∧ kvR rInt F4 (if j + 1 = rows.length then [(0, 0)] else []) kvs) ?_ ?_
      · walk_at "x"
        refine x_lenL O5 (up s04 hv) ?_
        walk_at "x"
        refine x_iteD (fun h => ?_) (fun h => ?_)
        · walk_at "x"
          refine x_dputO (R := rInt) (d := []) (x := 0) O5 .nil rfl (by simp) (fun kvs6 H6 hk6 O6 => ?_)
          walk_at "x"
          refine ⟨kvs6, rfl, O6, ?_⟩
          rw [if_pos (by omega)]
          exact hk6
        · walk_at "x"
          refine ⟨[], rfl, O5, ?_⟩
          rw [if_neg (by omega)]
          exact .nil
      · rintro σ' H6 ⟨kvs6, rfl, O6, hk6⟩
        have hfin : row.foldl (fun acc p => leastAll p.1 (lens rows p.2) acc) (if j + 1 = rows.length then [(0, 0)] else []) = lens rows j := by
          by_cases e : j + 1 = rows.length
          · rw [if_pos e, wf.last hrow e, lens_last e]
            rfl
          · rw [if_neg e, lens_row wf hrow e]
            rfl
        have hK0 : Keys (rows.length + 1) (if j + 1 = rows.length then [((0 : Int), (0 : Int))] else []) := by
          split
          · refine ⟨by simp, fun x hx => ?_⟩
            simp at hx
            subst hx
            omega
          · exact Keys.nil
        generalize (if j + 1 = rows.length then [((0 : Int), (0 : Int))] else []) = acc0 at hk6 hfin hK0
        walk_at "x"
        refine x_ixL (R := rRow) (j := j) O6 (up s04 hv) rfl hrow (fun rv hrv => ?_)
        have hlook : ∀ p ∈ row, Keys rows.length (lens rows p.2) ∧ j < p.2 ∧ p.2 < rows.length := fun p hp => by
          have hw := wf.2 j _ hrow p hp
          exact ⟨(lens_keys wf (rows.length - p.2) p.2 (by omega) (by omega)).mono (by omega), hw.2.1, hw.2.2⟩
        refine x_doL O6 hrv (fun i2 σ F' m' => F' = F4 ∧ ∃ (kvs : List (Key × V)) (u1 u2 u3 : Option V), σ = [some v, some (.ref fl), some (.int (j : Int)), some (.ref bd), u1, u2, u3] ∧ m' = (bd, .dK kvs) :: (fl, .lst vs) :: m ∧ kvR rInt F4 ((row.take i2).foldl (fun acc p => leastAll p.1 (lens rows p.2) acc) acc0) kvs)
          ⟨rfl, kvs6, _, _, _, rfl, rfl, hk6⟩ ?_ ?_
        · rintro i2 p z σ' H7 F7 m7 hi2 hz s7 O7 ⟨rfl, kvs7, u6, u7, u8, rfl, rfl, hk7⟩
          walk_at "x"
          obtain ⟨hkeys, hp1, hp2⟩ := hlook p (List.mem_of_getElem? hi2)
          have hacc : Keys (rows.length + 1) ((row.take i2).foldl (fun acc p => leastAll p.1 (lens rows p.2) acc) acc0) := Keys.of _ _ hK0 fun q hq => (hlook q (List.mem_of_mem_take hq)).1
          generalize hA0 : (row.take i2).foldl (fun acc p => leastAll p.1 (lens rows p.2) acc) acc0 = accI at hk7 hacc
          obtain ⟨w8, hw8, hr8⟩ := hdone p.2 (by omega) hp2
          obtain ⟨a, kv1, rfl, ha, hkv⟩ := hr8
          refine x_lock O7 ha (fun od H8 F8 O8 le8 hf8 back => ?_)
          walk_at "x"
          have hz8 : rPair rInt rNat F8 p z := Mono.le le8 hz
          refine x_snd O8 hz8 (fun w9 hw9 => ?_)
          have hw9 : w9 = .int (p.2 : Int) := hw9
          subst hw9
          refine x_ixO (j := p.2) O8.swap rfl hw8 ?_
          refine x_doK O8 hf8 hkv (fun j2 σ F3 m3 => ∃ (kvs : List (Key × V)) (u1 u2 : Option V), σ = [some v, some (.ref fl), some (.int (j : Int)), some (.ref bd), some z, u1, u2] ∧ m3 = (bd, .dK kvs) :: (fl, .lst vs) :: m ∧
            kvR rInt F8 ((((lens rows p.2).take j2).map (·.1)).foldl (leastStep p.1 (lens rows p.2)) accI) kvs) ⟨kvs7, _, _, rfl, rfl, hk7⟩ ?_ ?_
          · rintro j2 q σ' Ha Fa ma hj2 sa Oa ⟨kvs3, u5, u6, rfl, rfl, hk3⟩
            walk_at "x"
            refine x_fst Oa (up sa hz8) (fun wa hwa => ?_)
            have hwa : wa = .int p.1 := hwa
            subst hwa
            walk_at "x"
            refine x_snd Oa (up sa hz8) (fun wb hwb => ?_)
            have hwb : wb = .int (p.2 : Int) := hwb
            subst hwb
            refine x_ixO (j := p.2) Oa.swap rfl hw8 ?_
            walk_at "x"
            have hqm : q.1 ∈ (lens rows p.2).map (·.1) := List.mem_map_of_mem (List.mem_of_getElem? hj2)
            obtain ⟨c, hc⟩ := getD_some hqm
            have hvc : valV kv1 (Sum.inl q.1) = some (.int c) := by
              rcases hkv.get q.1 with ⟨e1, _⟩ | ⟨y, w1, e1, e2, hr⟩
              · rw [hc] at e1
                cases e1
              · rw [hc] at e1
                cases e1
                cases hr
                exact e2
            refine x_dgetR Oa (.inr ⟨od, sa _ _ hf8⟩) hvc ?_
            walk_at "x"
            have hk3' := hk3.up sa
            have hstep : (((lens rows p.2).take (j2 + 1)).map (·.1)).foldl (leastStep p.1 (lens rows p.2)) accI = leastStep p.1 (lens rows p.2) ((((lens rows p.2).take j2).map (·.1)).foldl (leastStep p.1 (lens rows p.2)) accI) q.1 := by
              rw [List.take_add_one, hj2, List.map_append, List.foldl_append]
              rfl
            have hKK : Keys (rows.length + 1) ((((lens rows p.2).take j2).map (·.1)).foldl (leastStep p.1 (lens rows p.2)) accI) := Keys.fold _ hacc fun x hx => by
              obtain ⟨y, hy, rfl⟩ := List.mem_map.mp hx
              exact hkeys.2 _ (List.mem_map_of_mem (List.mem_of_mem_take hy))
            generalize hA : (((lens rows p.2).take j2).map (·.1)).foldl (leastStep p.1 (lens rows p.2)) accI = acc at hk3 hk3' hstep hKK
            have hlen := hKK.len
            refine x_dinO Oa hk3' ?_
            walk_at "x"
            cases hg1 : getD acc (q.1 + 1) with
            | none =>
              refine x_iteT rfl ?_
              walk_at "x"
              refine x_iteT rfl ?_
              walk_at "x"
              refine x_dputO Oa hk3' (x := p.1 + c) (R := rInt) rfl (by omega) (fun kvs4 H4 hk4 O4 => ?_)
              walk_at "x"
              refine LI.mk sa O4 ?_
              refine ⟨kvs4, _, _, rfl, rfl, ?_⟩
              rw [hstep]
              unfold leastStep
              rw [hg1, hc]
              exact hk4.mono fun _ _ h => h
            | some x =>
              refine x_iteF rfl ?_
              walk_at "x"
              refine x_dgetO Oa hk3' hg1 (fun wx hwx => ?_)
              have hwx : wx = .int x := hwx
              subst hwx
              walk_at "x"
              refine x_iteD (fun hlt => ?_) (fun hlt => ?_)
              · walk_at "x"
                refine x_dputO Oa hk3' (x := p.1 + c) (R := rInt) rfl (by omega) (fun kvs4 H4 hk4 O4 => ?_)
                walk_at "x"
                refine LI.mk sa O4 ?_
                refine ⟨kvs4, _, _, rfl, rfl, ?_⟩
                rw [hstep]
                unfold leastStep
                rw [hg1, hc]
                dsimp only [Option.getD_some]
                rw [if_pos hlt]
                exact hk4.mono fun _ _ h => h
              · walk_at "x"
                refine LI.mk sa Oa ?_
                refine ⟨kvs3, _, _, rfl, rfl, ?_⟩
                rw [hstep]
                unfold leastStep
                rw [hg1, hc]
                dsimp only [Option.getD_some]
                rw [if_neg hlt]
                exact hk3.mono fun _ _ h => h
          · rintro σ' Ha Fa ma sa Oa ⟨kvs3, u5, u6, rfl, rfl, hk3⟩
            rw [List.take_length] at hk3
            refine x_unlock Oa hf8 back sa (fun Hb Fb sb leb Ob => ?_)
            walk_at "x"
            refine LI.mk (Same.refl _) (Ob.back sb) ?_
            refine ⟨rfl, kvs3, _, _, _, rfl, rfl, ?_⟩
            rw [List.take_add_one, hi2, List.foldl_append, hA0]
            exact hk3.mono fun _ _ h => h
        · rintro σ' H7 F7 m7 s7 O7 ⟨rfl, kvs7, u6, u7, u8, rfl, rfl, hk7⟩
          rw [List.take_length, hfin] at hk7
          walk_at "x"
          obtain ⟨O8, s8, h8⟩ := freezeD O7 hk7
          refine x_setL (j := j) O8 rfl (by omega) (fun O9 => ?_)
          generalize upd H7 fl (HO.lst (vs.set j (V.ref bd))) = H9 at O9 ⊢
          walk_at "x"
          refine LI.mk (s4.trans s8) O9 ?_
          refine ⟨vs.set j (.ref bd), _, _, _, _, _, rfl, rfl, by rw [List.length_set]; exact hvl, fun j3 h1 h2 => ?_⟩
          by_cases e : j3 = j
          · subst e
            exact ⟨.ref bd, List.getElem?_set_self (by omega), h8⟩
          · obtain ⟨w3, g1, g2⟩ := hdone j3 (by omega) h2
            exact ⟨w3, by rw [List.getElem?_set_ne (Ne.symm e)]; exact g1, up s8 g2⟩
    · rintro σ' H4 F4 m4 s4 O4 ⟨vs, u1, u2, u3, u4, u5, rfl, rfl, hvl, hdone⟩
      walk_at "x"
      have O5 := O4.freeze
      have s5 := O4.freeze_same
      refine k (.ref fl) H4 _ (s03.trans (s4.trans s5)) O5 ⟨fl, vs, rfl, upd_same, ?_⟩
      have go : ∀ (xs : List (List (Int × Int))) (us : List V), xs.length = us.length → (∀ (j : Nat) (x : List (Int × Int)) (u : V), xs[j]? = some x → us[j]? = some u → rLens (upd F4 fl (.lst vs)) x u) → All2 (rLens (upd F4 fl (.lst vs))) xs us := by
        intro xs
        induction xs with
        | nil =>
          intro us hl _
          cases us with
          | nil => exact .nil
          | cons u us => cases hl
        | cons x xs ih =>
          intro us hl h
          cases us with
          | nil => cases hl
          | cons u us => exact .cons (h 0 x u rfl rfl) (ih us (by simpa using hl) fun j y z h1 h2 => h (j + 1) y z (by simpa using h1) (by simpa using h2))
      refine go _ _ (by simp [hvl]) fun j x u h1 h2 => ?_
      have jl : j < rows.length := by
        have := (List.getElem?_eq_some_iff.mp h1).1
        simpa using this
      obtain ⟨w, g1, g2⟩ := hdone j (by omega) jl
      rw [h2] at g1
      cases g1
      rw [List.getElem?_map, List.getElem?_range jl] at h1
      cases h1
      exact up s5 g2
end
end Tf
namespace Tf
open PySem PySem.Spec PyProof.Rows L2
/-- the states seen so far: those below i have told of their next ones -/
structure SeenTo (rows : List Row) (i : Nat) (ks : List Int) : Prop where
  nd : ks.Nodup
  ent : ∀ x ∈ ks, ∃ j : Nat, x = (j : Int) ∧ Reach rows j
  zero : (0 : Int) ∈ ks
  next : ∀ (j : Nat) (row : Row), j < i → (j : Int) ∈ ks → rows[j]? = some row → ∀ p ∈ row, (p.2 : Int) ∈ ks
theorem SeenTo.start {rows : List Row} : SeenTo rows 0 [0] := ⟨by simp, fun x hx => ⟨0, List.mem_singleton.mp hx, .first⟩, by simp, fun j row h => absurd h (Nat.not_lt_zero _)⟩
theorem SeenTo.put {rows : List Row} {i : Nat} {d : List (Int × Bool)} {k : Nat} (w : WF rows) (h : SeenTo rows i (d.map (·.1))) (hr : Reach rows k) (hi : i ≤ k) : SeenTo rows i ((putD d (k : Int) true).map (·.1)) := by
  have hm : ∀ x, x ∈ (putD d (k : Int) true).map (·.1) ↔ x ∈ d.map (·.1) ∨ x = (k : Int) := fun x => by
    rw [putD_keys]
    split
    · next hk => exact ⟨.inl, fun h => h.elim id fun e => e ▸ hk⟩
    · rw [List.mem_append, List.mem_singleton]
  refine ⟨putD_nodup h.nd, fun x hx => ?_, (hm 0).mpr (.inl h.zero), fun j row hj hk hrow p hp => ?_⟩
  · rcases (hm x).mp hx with h1 | h1
    · exact h.ent x h1
    · exact ⟨k, h1, hr⟩
  · refine (hm _).mpr (.inl ?_)
    rcases (hm _).mp hk with h1 | h1
    · exact h.next j row hj h1 hrow p hp
    · omega
theorem SeenTo.all {rows : List Row} {n : Nat} {ks : List Int} (w : WF rows) (h : SeenTo rows n ks) (hn : rows.length ≤ n) (k : Nat) : (k : Int) ∈ ks ↔ Reach rows k := by
  refine ⟨fun hk => ?_, fun hk => ?_⟩
  · obtain ⟨j, e, hj⟩ := h.ent _ hk
    have : j = k := by omega
    exact this ▸ hj
  · induction hk with
    | first => exact h.zero
    | @step j row p hj hrow hp ih => exact h.next j row (by have := hj.lt w; omega) ih hrow p hp
theorem filt_yes {n : Nat} {p : Nat → Bool} (h : p n = true) : (List.range (n + 1)).filter p = (List.range n).filter p ++ [n] := by
  rw [List.range_succ, List.filter_append, List.filter_cons, if_pos h, List.filter_nil]
theorem filt_no {n : Nat} {p : Nat → Bool} (h : p n = false) : (List.range (n + 1)).filter p = (List.range n).filter p := by
  rw [List.range_succ, List.filter_append, List.filter_cons, if_neg (by rw [h]; decide), List.filter_nil, List.append_nil]
section
variable {P : Program} {w : World} {K : PySem.W.Frag} {mg : Str → Option Value} {base : Heap}
abbrev sLt : Stmt := top 23
abbrev NLt : List Str := ["best", "m"]
theorem scLt : FnScope NLt ["best"] (defScope sLt) := ⟨rfl, rfl, rfl, by decide +kernel, rfl, by decide +kernel, by decide +kernel⟩
theorem ok_Lt {f : Addr} {fd : FuncData} (F : Fun K "_law_told" "_law_told" sLt f fd) (T : Bi mg) : FnOk P w K mg base CX0 1 f fd ["best"] spLawTold := by
  refine F.ok scLt (fun vs H Q E h => ?_) (fun cdv A outer s H vs Q E hr h => ?_)
  · obtain ⟨v, d, F, m, rfl, _⟩ := h
    rfl
  · obtain ⟨v, d, F, m, rfl, O, hv, hN, k⟩ := h
    have hu := hu_of hr
    refine ⟨_, 
    (pss_one (ps_ret (pe_callTy cr_tup (by rfl) T.b_tuple (by decide +kernel) (pa_cons (pe_lc (own := [("m", 1)]) (g := (gName 1)) (tt := tYes) rfl scLt.nd (pi_list (pe_callB (cr_sortedDI rfl) (by rfl) T.b_sorted (by decide +kernel) (pa_cons (pv 0) pa_nil))) (blkOk_by (N := NLt) (sc := defScope sLt) (by decide +kernel)) (fun _ _ _ _ _ => (pg_name (i := 1) scLt.nd rfl (Or.inl rfl))) (fun _ _ _ _ _ => pts_nil) (fun _ _ _ _ _ => (pe_tup (pa_cons (pv 1) (pa_cons (pe_dget hu (pv 0) (pv 1) (fun _ _ => rfl)) pa_nil))))) pa_nil)))), ?_⟩
    walk_at "x"
    refine x_sortedD O (dictX hv) (fun ns' w2 H2 F2 hp hs s2 O2 hw2 => ?_)
    have hns := sortI_eq hp hs
    subst hns
    refine x_docL (S := rPair rInt rInt) O2 hw2 (fun i F3 m3 ys => m3 = m ∧ ys = ((sortI (d.map (·.1))).take i).map fun q => (q, (getD d q).getD 0)) ⟨rfl, by simp⟩ ?_ ?_
    · rintro D acc i q w3 H3 F3 m3 ys hi hw3 s3 O3 hacc hyl ⟨rfl, rfl⟩
      have hw3 : w3 = .int q := hw3
      subst hw3
      walk_at "x"
      refine ⟨rfl, ?_⟩
      walk_at "x"
      refine x_iteT rfl ?_
      walk_at "x"
      have hqm : q ∈ d.map (·.1) := (sortI_perm _).mem_iff.mp (List.mem_of_getElem? hi)
      obtain ⟨c, hc⟩ := getD_some hqm
      refine x_dgetF O3 (dictX (up (s2.trans s3) hv)) hc (fun w4 hw4 => ?_)
      have hw4 : w4 = .int c := hw4
      subst hw4
      walk_at "x"
      refine x_newPair (R := rInt) (S := rInt) (x := q) (y := c) O3 rfl rfl (fun v4 H4 F4 s4 O4 hv4 => ?_)
      have il : i < (sortI (d.map (·.1))).length := (List.getElem?_eq_some_iff.mp hi).1
      have hlen : (sortI (d.map (·.1))).length = d.length := by
        rw [(sortI_perm _).length_eq, List.length_map]
      refine x_keep O4 (s3.trans s4) hv4 (all2_up s4 hacc) hyl (by omega) ⟨rfl, ?_⟩
      rw [List.take_add_one, hi, List.map_append]
      simp [hc]
    · rintro v4 H4 F4 m4 ys s4 O4 hv4 ⟨rfl, rfl⟩
      rw [List.take_length] at hv4
      walk_at "x"
      refine x_tupL O4 hv4 (fun w5 H5 F5 s5 O5 hw5 => ?_)
      walk_at "x"
      exact k w5 H5 F5 (s2.trans (s4.trans s5)) O5 hw5
abbrev sLp : Stmt := top 24
abbrev NLp : List Str := ["rows", "found", "seen", "k", "step"]
theorem scLp : FnScope NLp ["rows"] (defScope sLp) := ⟨rfl, rfl, rfl, by decide +kernel, rfl, by decide +kernel, by decide +kernel⟩
theorem ok_Lp {f f1 f2 : Addr} {fd fd1 fd2 : FuncData} (F : Fun K "_law_paper" "_law_paper" sLp f fd) (T : Bi mg) (C__law_lengths : Cal P w K mg base "_law_lengths" 1 f1 fd1 ["rows"] spLawLens) (C__law_told : Cal P w K mg base "_law_told" 1 f2 fd2 ["best"] spLawTold) :
    FnOk P w K mg base CX0 2 f fd ["rows"] spLawPaper := by
  refine F.ok scLp (fun vs H Q E h => ?_) (fun cdv A outer s H vs Q E hr h => ?_)
  · obtain ⟨v, rows, F, m, rfl, _⟩ := h
    rfl
  · obtain ⟨v, rows, F, m, rfl, O, hv, ok, k⟩ := h
    have hu := hu_of hr
    have wf := ok.wf
    have hN := ok.len
    refine ⟨_, 
    (pss_cons (ps_set (i := 1) scLp.nd rfl (Or.inr rfl) (pe_call C__law_lengths.ok (hr.mono (by first | decide | omega)) rfl C__law_lengths.mg C__law_lengths.kp C__law_lengths.bi .nil pass0 (pa_cons (pv 0) pa_nil)))
    (pss_cons (ps_set (i := 2) scLp.nd rfl (Or.inr rfl) pe_dnewK)
    (pss_cons (ps_dput hu (pv 2) pe_int pe_bl rfl)
    (pss_cons (ps_for PassesOwn.never rfl (pi_range1 (by rfl) T.b_range (pa_cons (pe_callB cr_len (by rfl) T.b_len (by decide +kernel) (pa_cons (pv 0) pa_nil)) pa_nil)) (pg_name (i := 3) scLp.nd rfl (Or.inl rfl)) 
      (pss_one (ps_if (pt_cmp (pc_din hu (pv 3) (pv 2))) 
        (pss_one (ps_for PassesOwn.never rfl (pi_list (pe_ix (r := rIxL K) ix_list (pv 0) (pv 3) (fun _ _ => rfl))) (pg_name (i := 4) scLp.nd rfl (Or.inl rfl)) 
          (pss_one (ps_dput hu (pv 2) (pe_ix (r := rIxT K) ix_tup (pv 4) pe_int (fun _ _ => rfl)) pe_bl rfl)))) pss_nil)))
    (pss_one (ps_ret (pe_callTy cr_tup (by rfl) T.b_tuple (by decide +kernel) (pa_cons (pe_lc (own := [("k", 3)]) (g := (gName 3)) rfl scLp.nd (pi_range1 (by rfl) T.b_range (pa_cons (pe_callB cr_len (by rfl) T.b_len (by decide +kernel) (pa_cons (pv 0) pa_nil)) pa_nil)) (blkOk_by (N := NLp) (sc := defScope sLp) (by decide +kernel)) (fun _ _ _ _ _ => (pg_name (i := 3) scLp.nd rfl (Or.inl rfl))) (fun _ _ _ _ _ => (pts_one (pt_cmp (pc_din hu (pv 3) (pv 2))))) (fun _ _ _ _ _ => (pe_tup (pa_cons (pv 3) (pa_cons (pe_call C__law_told.ok (hr.mono (by first | decide | omega)) rfl C__law_told.mg C__law_told.kp C__law_told.bi .nil pass0 (pa_cons (pe_ix (r := rIxL K) ix_list (pv 1) (pv 3) (fun _ _ => rfl)) pa_nil)) pa_nil))))) pa_nil)))))))), ?_⟩
    walk_at "x"
    refine ⟨v, rows, F, m, rfl, O, hv, ok, fun lv H1 F1 s1 O1 hlv => ?_⟩
    walk_at "x"
    refine x_dnew O1 (fun sn H2 hn2 O2 => ?_)
    walk_at "x"
    refine x_dputO (R := rBool) (d := []) (x := true) O2 .nil rfl (by simp) (fun kvs3 H3 hk3 O3 => ?_)
    walk_at "x"
    refine x_lenL O3 (up s1 hv) ?_
    walk_at "x"
    refine x_doR1 (n := rows.length) O3 rfl (by omega) (by omega) (fun i σ F' m' => ∃ (kvs : List (Key × V)) (d : List (Int × Bool)) (u1 u2 : Option V), σ = [some v, some lv, some (.ref sn), u1, u2] ∧ m' = (sn, .dK kvs) :: m ∧ kvR rBool F' d kvs ∧ SeenTo rows i (d.map (·.1)))
      ⟨kvs3, _, _, _, rfl, rfl, hk3, SeenTo.start⟩ ?_ ?_
    · rintro i σ' H4 F4 m4 hi s4 O4 ⟨kvs4, d, u1, u2, rfl, rfl, hk4, hs4⟩
      walk_at "x"
      refine x_dinO O4 hk4 ?_
      walk_at "x"
      obtain ⟨row, hrow⟩ := wf.row hi
      have s14 := s1.trans s4
      cases hg : getD d (i : Int) with
      | none =>
        refine x_iteF rfl ?_
        walk_at "x"
        refine LI.mk s4 O4 ?_
        refine ⟨kvs4, d, _, _, rfl, rfl, hk4, hs4.nd, hs4.ent, hs4.zero, fun j r hj hm hr p hp => ?_⟩
        by_cases e : j = i
        · subst e
          exact (getD_none.mp hg hm).elim
        · exact hs4.next j r (by omega) hm hr p hp
      | some b =>
        refine x_iteT rfl ?_
        walk_at "x"
        have hm : (i : Int) ∈ d.map (·.1) := List.mem_map.mpr ⟨_, getD_mem hg, rfl⟩
        have hre : Reach rows i := by
          obtain ⟨j, e, h⟩ := hs4.ent _ hm
          have : j = i := by omega
          exact this ▸ h
        refine x_ixL (R := rRow) (j := i) O4 (up s14 hv) rfl hrow (fun rv hrv => ?_)
        refine x_doL O4 hrv (fun i2 σ F' m' => ∃ (kvs : List (Key × V)) (d : List (Int × Bool)) (u2 : Option V), σ = [some v, some lv, some (.ref sn), some (.int (i : Int)), u2] ∧ m' = (sn, .dK kvs) :: m ∧ kvR rBool F' d kvs ∧ SeenTo rows i (d.map (·.1)) ∧ ∀ p ∈ row.take i2, (p.2 : Int) ∈ d.map (·.1))
          ⟨kvs4, d, _, rfl, rfl, hk4, hs4, fun p hp => by simp at hp⟩ ?_ ?_
        · rintro i2 p z σ' H5 F5 m5 hi2 hz s5 O5 ⟨kvs5, d5, u2, rfl, rfl, hk5, hs5, ha5⟩
          walk_at "x"
          refine x_snd O5 hz (fun u4 hu4 => ?_)
          have hu4 : u4 = .int (p.2 : Int) := hu4
          subst hu4
          have hw := wf.2 i _ hrow p (List.mem_of_getElem? hi2)
          have hd5 : d5.length ≤ rows.length := by
            have := nodup_len rows.length (d5.map (·.1)) hs5.nd fun x hx => by
              obtain ⟨j, e1, e2⟩ := hs5.ent x hx
              have := e2.lt wf
              omega
            rw [List.length_map] at this
            exact this
          refine x_dputO O5 hk5 (x := true) (R := rBool) rfl (by omega) (fun kvs6 H6 hk6 O6 => ?_)
          walk_at "x"
          refine LI.mk s5 O6 ?_
          refine ⟨kvs6, _, _, rfl, rfl, hk6, hs5.put wf (.step hre hrow (List.mem_of_getElem? hi2)) (by omega), fun q hq => ?_⟩
          rw [List.take_add_one, hi2] at hq
          rw [putD_keys]
          rcases List.mem_append.mp hq with h | h
          · have := ha5 q h
            split
            · exact this
            · exact List.mem_append_left _ this
          · have e : q = p := by simpa using h
            subst e
            split
            · next h => exact h
            · simp
        · rintro σ' H5 F5 m5 s5 O5 ⟨kvs5, d5, u2, rfl, rfl, hk5, hs5, ha5⟩
          rw [List.take_length] at ha5
          walk_at "x"
          refine LI.mk (s4.trans s5) O5 ?_
          refine ⟨kvs5, d5, _, _, rfl, rfl, hk5, hs5.nd, hs5.ent, hs5.zero, fun j r hj hm hr p hp => ?_⟩
          by_cases e : j = i
          · subst e
            rw [hrow] at hr
            cases hr
            exact ha5 p hp
          · exact hs5.next j r (by omega) hm hr p hp
    · rintro σ' H4 F4 m4 s4 O4 ⟨kvs4, d, u1, u2, rfl, rfl, hk4, hs4⟩
      walk_at "x"
      obtain ⟨O5, s5, h5⟩ := freezeD O4 hk4
      have s15 := s1.trans (s4.trans s5)
      refine x_lenL O5 (up s15 hv) ?_
      walk_at "x"
      refine x_docR1 (S := rPair rInt rTold) (n := rows.length) O5 rfl (by omega) (by omega) (fun i F6 m6 ys => m6 = m ∧ ys = ((List.range i).filter fun k : Nat => decide ((k : Int) ∈ d.map (·.1))).map fun k : Nat => ((k : Int), told (lens rows k))) ⟨rfl, by simp⟩ ?_ ?_
      · rintro D acc i H6 F6 m6 ys hi s6 O6 hacc hyl ⟨rfl, rfl⟩
        walk_at "x"
        refine ⟨rfl, ?_⟩
        walk_at "x"
        refine x_dinF O6 (dictX (up s6 h5)) ?_
        refine ⟨_, rfl, ?_⟩
        cases hg : getD d (i : Int) with
        | none =>
          refine x_iteF rfl ?_
          refine x_skip O6 s6 hacc hyl ⟨rfl, ?_⟩
          rw [filt_no (decide_eq_false (getD_none.mp hg))]
        | some b =>
          refine x_iteT rfl ?_
          walk_at "x"
          have hm : (i : Int) ∈ d.map (·.1) := List.mem_map.mpr ⟨_, getD_mem hg, rfl⟩
          refine x_ixL (R := rLens) (j := i) (x := lens rows i) O6 (up (s4.trans (s5.trans s6)) hlv) rfl (by rw [List.getElem?_map, List.getElem?_range hi]; rfl) (fun dv hdv => ?_)
          walk_at "x"
          have hKl := (lens_keys wf (rows.length - i) i (by omega) (by omega)).len
          refine ⟨dv, lens rows i, F6, _, rfl, O6, hdv, by omega, fun w7 H7 F7 s7 O7 hw7 => ?_⟩
          walk_at "x"
          refine x_newPair (R := rInt) (S := rTold) (x := (i : Int)) (y := told (lens rows i)) O7 rfl hw7 (fun v8 H8 F8 s8 O8 hv8 => ?_)
          refine x_keep O8 (s6.trans (s7.trans s8)) hv8 (all2_up (s7.trans s8) hacc) hyl (by omega) ⟨rfl, ?_⟩
          rw [filt_yes (decide_eq_true hm), List.map_append]
          rfl
      · rintro v6 H6 F6 m6 ys s6 O6 hv6 ⟨rfl, rfl⟩
        walk_at "x"
        refine x_tupL O6 hv6 (fun w7 H7 F7 s7 O7 hw7 => ?_)
        walk_at "x"
        refine k w7 H7 F7 _ (s15.trans (s6.trans s7)) O7 hw7 ⟨((List.range rows.length).filter fun k : Nat => decide ((k : Int) ∈ d.map (·.1))).map fun k : Nat => (k : Int), ?_, ?_, ?_, ?_, ?_⟩
        · refine List.pairwise_map.mpr ?_
          exact (List.nodup_range.filter _).imp fun h e => h (by omega)
        · refine List.pairwise_map.mpr ?_
          refine (List.pairwise_lt_range.filter _).imp fun h => ?_
          omega
        · intro x hx
          obtain ⟨j, _, rfl⟩ := List.mem_map.mp hx
          omega
        · intro j
          rw [← hs4.all wf (Nat.le_refl _)]
          refine ⟨fun h => ?_, fun h => ?_⟩
          · obtain ⟨j2, h1, h2⟩ := List.mem_map.mp h
            have : j2 = j := by omega
            subst this
            have := (List.mem_filter.mp h1).2
            exact of_decide_eq_true this
          · refine List.mem_map.mpr ⟨j, List.mem_filter.mpr ⟨?_, decide_eq_true h⟩, rfl⟩
            have := ((hs4.all wf (Nat.le_refl _) j).mp h).lt wf
            exact List.mem_range.mpr this
        · rw [List.map_map]
          rfl
end
end Tf
namespace Tf
open PySem PySem.Spec PyProof.Rows L2
def spLaw (K : PySem.W.Frag) : Sp := fun vs H Q _ => ∃ (a : Addr) (ns : List Int), vs = [.ref a] ∧ SqL K H a (ns.map V.int) ∧ ns.length ≤ 63 ∧ ∀ H', Q (.bl true) H'
section
variable {P : Program} {w : World} {K : PySem.W.Frag} {mg : Str → Option Value} {base : Heap}
abbrev sLw : Stmt := top 25
abbrev NLw : List Str := ["script", "pool", "rows", "others", "due", "handed", "task", "other", "row"]
theorem scLw : FnScope NLw ["script"] (defScope sLw) := ⟨rfl, rfl, rfl, by decide +kernel, rfl, by decide +kernel, by decide +kernel⟩
theorem ok_Lw {f CT f1 f2 f3 f4 f5 f6 f7 f8 : Addr} {fd fd1 fd2 fd3 fd4 fd5 fd6 fd7 fd8 : FuncData} (F : Fun K "law" "law" sLw f fd) (T : Bi mg) (C__law_pool : Cal P w K mg base "_law_pool" 1 f1 fd1 ["script"] (spPool K)) (C__law_draw : Cal P w K mg base "_law_draw" 1 f2 fd2 ["pool", "many"] spDraw)
    (C__law_rows : Cal P w K mg base "_law_rows" 4 f3 fd3 ["pool"] spRows) (C__law_paper : Cal P w K mg base "_law_paper" 2 f4 fd4 ["rows"] spLawPaper) (C__law_same : Cal P w K mg base "_law_same" 5 f5 fd5 ["got", "due"] (spSame 5))
    (C_spectrum : Cal P w K mg base "spectrum" 6 f6 fd6 ["task"] (spTopSpec CT)) (C_spectra : Cal P w K mg base "spectra" 6 f7 fd7 ["task"] (spTopSpectra CT)) (MkT : Mk K CT f8) (GT : FnOk P w K mg base CX0 1 f8 fd8 ["self", "rows"] (spTInit CT)) (mgT : mg "TableTask" = some (.ref CT)) (bT : Binds K fd8 ["self", "rows"] []) :
    FnOk P w K mg base CX0 7 f fd ["script"] (spLaw K) := by
  refine F.ok scLw (fun vs H Q E h => ?_) (fun cdv A outer s H vs Q E hr h => ?_)
  · obtain ⟨a, ns, rfl, _⟩ := h
    rfl
  · obtain ⟨a, ns, rfl, hS, hlen, k⟩ := h
    refine ⟨_, 
    (pss_cons (ps_set (i := 1) scLw.nd rfl (Or.inl rfl) (pe_call C__law_pool.ok (hr.mono (by first | decide | omega)) rfl C__law_pool.mg C__law_pool.kp C__law_pool.bi .nil pass0 (pa_cons (pv 0) pa_nil)))
    (pss_cons (ps_set (i := 2) scLw.nd rfl (Or.inl rfl) (pe_call C__law_rows.ok (hr.mono (by first | decide | omega)) rfl C__law_rows.mg C__law_rows.kp C__law_rows.bi .nil pass0 (pa_cons (pv 1) pa_nil)))
    (pss_cons (ps_set (i := 3) scLw.nd rfl (Or.inl rfl) (pe_call C__law_rows.ok (hr.mono (by first | decide | omega)) rfl C__law_rows.mg C__law_rows.kp C__law_rows.bi .nil pass0 (pa_cons (pv 1) pa_nil)))
    (pss_cons (ps_set (i := 4) scLw.nd rfl (Or.inl rfl) (pe_call C__law_paper.ok (hr.mono (by first | decide | omega)) rfl C__law_paper.mg C__law_paper.kp C__law_paper.bi .nil pass0 (pa_cons (pv 2) pa_nil)))
    (pss_cons (ps_setLc (i := 5) (own := [("row", 8)]) (g := (gName 8)) (tt := tYes) rfl scLw.nd rfl rfl (sw_true rfl rfl rfl (by decide +kernel)) (pi_list (pv 2)) (blkOk_by (N := NLw) (sc := defScope sLw) (by decide +kernel)) (fun _ _ _ _ _ => (pg_name (i := 8) scLw.nd rfl (Or.inl rfl))) (fun _ _ _ _ _ => pts_nil) (fun _ _ _ _ _ => (pe_callTy (T := "list") (r := rListOf K) cr_list (by rfl) T.b_list (by decide +kernel) (pa_cons (pv 8) pa_nil))))
    (Tf.pss_cut (ps_if (pt_cmpR op_eq (pe_call C__law_draw.ok (hr.mono (by first | decide | omega)) rfl C__law_draw.mg C__law_draw.kp C__law_draw.bi .nil pass0 (pa_cons (pv 1) (pa_cons pe_int pa_nil))) pe_int (nomark _)) 
      (pss_one (ps_setLc (i := 5) (own := [("row", 8)]) (g := (gName 8)) (tt := tYes) rfl scLw.nd rfl rfl (sw_true rfl rfl rfl (by decide +kernel)) (pi_list (pv 2)) (blkOk_by (N := NLw) (sc := defScope sLw) (by decide +kernel)) (fun _ _ _ _ _ => (pg_name (i := 8) scLw.nd rfl (Or.inl rfl))) (fun _ _ _ _ _ => pts_nil) (fun _ _ _ _ _ => (pe_callTy (T := "tuple") (r := rTupOf K) cr_tup (by rfl) T.b_tuple (by decide +kernel) (pa_cons (pv 8) pa_nil))))) pss_nil)
    (pss_cons (ps_set (i := 6) scLw.nd rfl (Or.inl rfl) (pe_make MkT GT (hr.mono (by first | decide | omega)) rfl mgT bT .nil pass0 (pa_cons (pv 5) pa_nil)))
    (pss_cons (ps_set (i := 7) scLw.nd rfl (Or.inl rfl) (pe_make MkT GT (hr.mono (by first | decide | omega)) rfl mgT bT .nil pass0 (pa_cons (pe_callTy (T := "tuple") (r := rTupOf K) cr_tup (by rfl) T.b_tuple (by decide +kernel) (pa_cons (pv 3) pa_nil)) pa_nil)))
    (pss_cons (ps_if (PW.pt (pw_or (pt_not (pt_val (pe_call C__law_same.ok (hr.mono (by first | decide | omega)) rfl C__law_same.mg C__law_same.kp C__law_same.bi .nil pass0 (pa_cons (pe_call C_spectra.ok (hr.mono (by first | decide | omega)) rfl C_spectra.mg C_spectra.kp C_spectra.bi .nil pass0 (pa_cons (pv 6) pa_nil)) (pa_cons (pv 4) pa_nil))))) (pw_or1 (pt_not (pt_val (pe_call C__law_same.ok (hr.mono (by first | decide | omega)) rfl C__law_same.mg C__law_same.kp C__law_same.bi .nil pass0 (pa_cons (pe_call C_spectrum.ok (hr.mono (by first | decide | omega)) rfl C_spectrum.mg C_spectrum.kp C_spectrum.bi .nil pass0 (pa_cons (pv 6) pa_nil)) (pa_cons (pe_ix (r := rIxT K) ix_tup (pe_ix (r := rIxT K) ix_tup (pv 4) pe_int (fun _ _ => rfl)) pe_int (fun _ _ => rfl)) pa_nil)))))))) 
      (pss_one (ps_ret pe_bl)) pss_nil)
    (pss_cons (ps_if (pt_not (pt_val (pe_call C__law_same.ok (hr.mono (by first | decide | omega)) rfl C__law_same.mg C__law_same.kp C__law_same.bi .nil pass0 (pa_cons (pe_call C_spectrum.ok (hr.mono (by first | decide | omega)) rfl C_spectrum.mg C_spectrum.kp C_spectrum.bi .nil pass0 (pa_cons (pv 7) pa_nil)) (pa_cons (pe_ix (r := rIxT K) ix_tup (pe_ix (r := rIxT K) ix_tup (pe_call C__law_paper.ok (hr.mono (by first | decide | omega)) rfl C__law_paper.mg C__law_paper.kp C__law_paper.bi .nil pass0 (pa_cons (pv 3) pa_nil)) pe_int (fun _ _ => rfl)) pe_int (fun _ _ => rfl)) pa_nil))))) 
      (pss_one (ps_ret pe_bl)) pss_nil)
    (pss_cons (ps_if (PW.pt (pw_or (pt_not (pt_val (pe_call C__law_same.ok (hr.mono (by first | decide | omega)) rfl C__law_same.mg C__law_same.kp C__law_same.bi .nil pass0 (pa_cons (pe_call C_spectrum.ok (hr.mono (by first | decide | omega)) rfl C_spectrum.mg C_spectrum.kp C_spectrum.bi .nil pass0 (pa_cons (pv 6) pa_nil)) (pa_cons (pe_ix (r := rIxT K) ix_tup (pe_ix (r := rIxT K) ix_tup (pv 4) pe_int (fun _ _ => rfl)) pe_int (fun _ _ => rfl)) pa_nil))))) (pw_or1 (pt_not (pt_val (pe_call C__law_same.ok (hr.mono (by first | decide | omega)) rfl C__law_same.mg C__law_same.kp C__law_same.bi .nil pass0 (pa_cons (pe_call C_spectra.ok (hr.mono (by first | decide | omega)) rfl C_spectra.mg C_spectra.kp C_spectra.bi .nil pass0 (pa_cons (pv 6) pa_nil)) (pa_cons (pv 4) pa_nil)))))))) 
      (pss_one (ps_ret pe_bl)) pss_nil)
    (pss_one (ps_ret (pe_call C__law_same.ok (hr.mono (by first | decide | omega)) rfl C__law_same.mg C__law_same.kp C__law_same.bi .nil pass0 (pa_cons (pe_lc (own := [("row", 8)]) (g := (gName 8)) (tt := tYes) rfl scLw.nd (pi_list (pv 5)) (blkOk_by (N := NLw) (sc := defScope sLw) (by decide +kernel)) (fun _ _ _ _ _ => (pg_name (i := 8) scLw.nd rfl (Or.inl rfl))) (fun _ _ _ _ _ => pts_nil) (fun _ _ _ _ _ => (pe_callTy (T := "list") (r := rListOf K) cr_list (by rfl) T.b_list (by decide +kernel) (pa_cons (pv 8) pa_nil)))) (pa_cons (pv 2) pa_nil)))))))))))))))), ?_⟩
    walk_at "x"
    refine ⟨a, ns, H, [], rfl, hS, Own.refl H, fun p H1 F1 o1 s1 O1 hp1 => ?_⟩
    walk_at "x"
    refine ⟨p, o1, F1, [], rfl, O1, hp1, fun rv H2 F2 o2 rows s2 O2 hp2 hrv ok => ?_⟩
    walk_at "x"
    refine ⟨p, o2, F2, [], rfl, O2, hp2, fun ov H3 F3 o3 others s3 O3 hp3 hov ok' => ?_⟩
    walk_at "x"
    refine ⟨rv, rows, F3, _, rfl, O3, up s3 hrv, ok, fun due H4 F4 pap s4 O4 hdue hpap => ?_⟩
    walk_at "x"
    have hrow : ∀ row ∈ rows, row.length < 16777216 := fun row h => by
      have := ok.few row h
      omega
    have hrow' : ∀ row ∈ others, row.length < 16777216 := fun row h => by
      have := ok'.few row h
      omega
    have hN := ok.len
    have hN' := ok'.len
    have s24 := s3.trans s4
    refine x_docL (R := rRow) (S := rRow) O4 (up s24 hrv) (fun i F5 m5 ys => m5 = [(p, o3)] ∧ ys = rows.take i) ⟨rfl, by simp⟩ ?_ ?_
    · rintro D acc i q z H5 F5 m5 ys hi hz s5 O5 hacc hyl ⟨rfl, rfl⟩
      walk_at "x"
      refine ⟨rfl, ?_⟩
      walk_at "x"
      refine x_iteT rfl ?_
      walk_at "x"
      refine x_listL O5 hz (fun w6 H6 F6 s6 O6 hw6 => ?_)
      have il : i < rows.length := (List.getElem?_eq_some_iff.mp hi).1
      refine x_keep O6 (s5.trans s6) hw6 (all2_up s6 hacc) hyl (by omega) ⟨rfl, ?_⟩
      rw [List.take_add_one, hi]
      rfl
    · rintro hv5 H5 F5 m5 ys s5 O5 hhv ⟨rfl, rfl⟩
      rw [List.take_length] at hhv
      walk_at "x"
      refine x_cut (fun σ' H' => ∃ (hv : V) (F' : Hp) (o' : HO) (u1 u2 u3 : Option V), σ' = [some (.ref a), some (.ref p), some rv, some ov, some due, some hv, u1, u2, u3] ∧ Same F5 F' ∧ Own H' F' [(p, o')] ∧ PoolOk F' o' ∧ rList rRowS F' rows hv) ?_ ?_
      · walk_at "x"
        refine ⟨p, o3, _, F5, [], rfl, O5, hp3.up (s4.trans s5), by decide, by decide, fun b H6 o6 b0 b1 O6 hp6 => ?_⟩
        walk_at "x"
        refine x_iteD (fun h => ?_) (fun h => ?_)
        · walk_at "x"
          refine x_docL (R := rRow) (S := rTup (rPair rInt rNat)) O6 (up (s24.trans s5) hrv) (fun i F7 m7 ys => m7 = [(p, o6)] ∧ ys = rows.take i) ⟨rfl, by simp⟩ ?_ ?_
          · rintro D acc i q z H7 F7 m7 ys hi hz s7 O7 hacc hyl ⟨rfl, rfl⟩
            walk_at "x"
            refine ⟨rfl, ?_⟩
            walk_at "x"
            refine x_iteT rfl ?_
            walk_at "x"
            refine x_tupL O7 hz (fun w8 H8 F8 s8 O8 hw8 => ?_)
            have il : i < rows.length := (List.getElem?_eq_some_iff.mp hi).1
            refine x_keep O8 (s7.trans s8) hw8 (all2_up s8 hacc) hyl (by omega) ⟨rfl, ?_⟩
            rw [List.take_add_one, hi]
            rfl
          · rintro hv7 H7 F7 m7 ys s7 O7 hhv7 ⟨rfl, rfl⟩
            rw [List.take_length] at hhv7
            walk_at "x"
            obtain ⟨b7, us7, rfl, hb7, hu7⟩ := hhv7
            exact ⟨_, F7, o6, _, _, _, rfl, s7, O7, hp6.up s7, b7, us7, rfl, hb7, hu7.mono fun _ _ h => .inr h⟩
        · walk_at "x"
          obtain ⟨b7, us7, rfl, hb7, hu7⟩ := hhv
          exact ⟨_, F5, o6, _, _, _, rfl, Same.refl _, O6, hp6, b7, us7, rfl, hb7, hu7.mono fun _ _ h => .inl h⟩
      · rintro σ' H6 ⟨hv, F6, o6, u1, u2, u3, rfl, s6, O6, hp6, hhv6⟩
        walk_at "x"
        have s46 := s5.trans s6
        refine mk_of O6 (fun x dx H7 F7 hx s7 O7 => ⟨x, dx, hv, rows, F7, _, rfl, O7, .inl (up s7 hhv6), ok.wf, by omega, hrow, fun H8 F8 t8 s8 O8 ht8 => ⟨rfl, ?_⟩⟩)
        have O9 := O8.freeze
        have s9 := O8.freeze_same
        have htask : rTask CT (upd F8 x (.ins CT dx [("_table", t8)])) rows (.ref x) := ⟨x, dx, t8, rfl, upd_same, up s9 ht8⟩
        generalize upd F8 x (.ins CT dx [("_table", t8)]) = F9 at O9 s9 htask
        have s69 := s7.trans (s8.trans s9)
        walk_at "x"
        refine x_tupL O9 (up (s4.trans (s46.trans s69)) hov) (fun w10 H10 F10 s10 O10 hw10 => ?_)
        walk_at "x"
        have hw10' : rRowsS F10 others w10 := by
          obtain ⟨b7, us7, rfl, hb7, hu7⟩ := hw10
          exact .inr ⟨b7, us7, rfl, hb7, hu7.mono fun _ _ h => .inl h⟩
        refine mk_of O10 (fun y dy H11 F11 hy s11 O11 => ⟨y, dy, w10, others, F11, _, rfl, O11, up s11 hw10', ok'.wf, by omega, hrow', fun H12 F12 t12 s12 O12 ht12 => ⟨rfl, ?_⟩⟩)
        have O13 := O12.freeze
        have s13 := O12.freeze_same
        have hother : rTask CT (upd F12 y (.ins CT dy [("_table", t12)])) others (.ref y) := ⟨y, dy, t12, rfl, upd_same, up s13 ht12⟩
        generalize upd F12 y (.ins CT dy [("_table", t12)]) = F13 at O13 s13 hother
        have s913 := s10.trans (s11.trans (s12.trans s13))
        have htask' := up s913 htask
        have hdue' := up (s46.trans (s69.trans s913)) hdue
        have hrv' := up (s24.trans (s46.trans (s69.trans s913))) hrv
        have hov' := up (s4.trans (s46.trans (s69.trans s913))) hov
        have hhv' := up (s69.trans s913) hhv6
        clear htask hdue hrv hov hhv6 hw10 hw10' ht8 ht12
        walk_at "x"
        have hpl := hpap.len ok.wf
        have hsum := ok.sum
        have hsum' := ok'.sum
        refine ⟨.ref x, rows, F13, _, rfl, O13, htask', ok.wf, hsum, fun w14 H14 F14 pap2 s14 O14 hw14 hpap2 => ?_⟩
        walk_at "x"
        cases hpap2.one hpap
        refine ⟨w14, due, F14, _, rfl, O14, sim_paper (by omega) (fun x hx => by have := hpl.2 x hx; omega) hw14 (up s14 hdue'), fun H15 O15 => ?_⟩
        walk_at "x"
        refine x_iteF rfl ?_
        walk_at "x"
        have t14 := up s14 htask'
        refine ⟨.ref x, rows, F14, _, rfl, O15, t14, ok.wf, hsum, fun w16 H16 F16 s16 O16 hw16 => ?_⟩
        walk_at "x"
        have d16 := up (s14.trans s16) hdue'
        refine x_ixT (j := 0) O16 d16 rfl hpap.first (fun w17 hw17 => ?_)
        walk_at "x"
        refine x_snd O16 hw17 (fun w18 hw18 => ?_)
        have htl := hpl.2 _ (List.mem_of_getElem? hpap.first)
        have hsim : ∀ {F : Hp} {v w : V}, rTold F (told (lens rows 0)) v → rTold F (told (lens rows 0)) w → Sim F 4 v w := fun h1 h2 => (sim_told (Nat.lt_of_le_of_lt htl (by omega)) h1 h2).le (by decide)
        refine ⟨w16, w18, F16, _, rfl, O16, hsim hw16 hw18, fun H17 O17 => ?_⟩
        walk_at "x"
        refine x_iteF rfl ?_
        walk_at "x"
        -- the other task
        refine ⟨.ref y, others, F16, _, rfl, O17, up (s14.trans s16) hother, ok'.wf, hsum', fun w18 H18 F18 s18 O18 hw18' => ?_⟩
        walk_at "x"
        refine ⟨ov, others, F18, _, rfl, O18, up (s14.trans (s16.trans s18)) hov', ok', fun w19 H19 F19 pap3 s19 O19 hw19 hpap3 => ?_⟩
        walk_at "x"
        refine x_ixT (j := 0) O19 hw19 rfl hpap3.first (fun w20 hw20 => ?_)
        walk_at "x"
        refine x_snd O19 hw20 (fun w21 hw21 => ?_)
        have hpl3 := hpap3.len ok'.wf
        have htl3 := hpl3.2 _ (List.mem_of_getElem? hpap3.first)
        refine ⟨w18, w21, F19, _, rfl, O19, (sim_told (Nat.lt_of_le_of_lt htl3 (by omega)) (up s19 hw18') hw21).le (by decide), fun H20 O20 => ?_⟩
        walk_at "x"
        refine x_iteF rfl ?_
        walk_at "x"
        -- both once more
        have s1319 := s14.trans (s16.trans (s18.trans s19))
        refine ⟨.ref x, rows, F19, _, rfl, O20, up s1319 htask', ok.wf, hsum, fun w22 H22 F22 s22 O22 hw22 => ?_⟩
        walk_at "x"
        refine x_ixT (j := 0) O22 (up (s1319.trans s22) hdue') rfl hpap.first (fun w23 hw23 => ?_)
        walk_at "x"
        refine x_snd O22 hw23 (fun w24 hw24 => ?_)
        refine ⟨w22, w24, F22, _, rfl, O22, hsim hw22 hw24, fun H23 O23 => ?_⟩
        walk_at "x"
        refine x_iteF rfl ?_
        walk_at "x"
        refine ⟨.ref x, rows, F22, _, rfl, O23, up (s1319.trans s22) htask', ok.wf, hsum, fun w24 H24 F24 pap4 s24 O24 hw24 hpap4 => ?_⟩
        walk_at "x"
        cases hpap4.one hpap
        refine ⟨w24, due, F24, _, rfl, O24, sim_paper (by omega) (fun x hx => by have := hpl.2 x hx; omega) hw24 (up (s1319.trans (s22.trans s24)) hdue'), fun H25 O25 => ?_⟩
        walk_at "x"
        refine x_iteF rfl ?_
        walk_at "x"
        have s1324 := s1319.trans (s22.trans s24)
        refine x_docL (R := rRowS) (S := rRow) O25 (up s1324 hhv') (fun i F7 m7 ys => ys = rows.take i) (by simp) ?_ ?_
        · rintro D acc i q z H7 F7 m7 ys hi hz s7 O7 hacc hyl rfl
          walk_at "x"
          refine ⟨rfl, ?_⟩
          walk_at "x"
          refine x_iteT rfl ?_
          walk_at "x"
          refine x_listS O7 hz (fun w8 H8 F8 s8 O8 hw8 => ?_)
          have il : i < rows.length := (List.getElem?_eq_some_iff.mp hi).1
          refine x_keep O8 (s7.trans s8) hw8 (all2_up s8 hacc) hyl (by omega) ?_
          rw [List.take_add_one, hi]
          rfl
        · rintro w26 H26 F26 m26 ys s26 O26 hw26 rfl
          rw [List.take_length] at hw26
          walk_at "x"
          refine ⟨w26, rv, F26, _, rfl, O26, sim_rows (by omega) hrow hw26 (up (s1324.trans s26) hrv'), fun H27 O27 => ?_⟩
          exact k H27
end
end Tf
namespace Tf
open PySem PySem.Spec PyProof.Rows L2
theorem all_mk {l : PySem.W.OpenLaw} {w : World} {K : PySem.W.Frag} {h : Heap} {mg : Str → Option Value} {fa cTableTask cLengths fDr fPo fPi fRa fFe fSa fTI fTF fTE fTS fTR fSR fLL fLI fLT fLS fLP fGS fGP fCo fRo fLe fLt fLp fLw : Addr} (X : K.In h) (G : h.Ns mainGlobals mg) (hfa : mg "law" = some (.ref fa))
    {odDr anDr odPo anPo odPi anPi odRa anRa odFe anFe odSa anSa odTI anTI odTF anTF odTE anTE odTS anTS odTR anTR odSR anSR odLL anLL odLI anLI odLT anLT odLS anLS odLP anLP odGS anGS odGP anGP odCo anCo odRo anRo odLe anLe odLt anLt odLp anLp odLw anLw : Option Addr} {slDr slPo slPi slRa slFe slSa slTI slTF slTE slTS slTR slSR slLL slLI slLT slLS slLP slGS slGP slCo slRo slLe slLt slLp slLw : Array (Option Value)} {ocDr kVDr dcDr pmDr cdDr ctDr ocPo kVPo dcPo pmPo cdPo ctPo ocPi kVPi dcPi pmPi cdPi ctPi ocRa kVRa dcRa pmRa cdRa ctRa ocFe kVFe dcFe pmFe cdFe ctFe ocSa kVSa dcSa pmSa cdSa ctSa ocTI kVTI dcTI pmTI cdTI ctTI ocTF kVTF dcTF pmTF cdTF ctTF ocTE kVTE dcTE pmTE cdTE ctTE ocTS kVTS dcTS pmTS cdTS ctTS ocTR kVTR dcTR pmTR cdTR ctTR ocSR kVSR dcSR pmSR cdSR ctSR ocLL kVLL dcLL pmLL cdLL ctLL ocLI kVLI dcLI pmLI cdLI ctLI ocLT kVLT dcLT pmLT cdLT ctLT ocLS kVLS dcLS pmLS cdLS ctLS ocLP kVLP dcLP pmLP cdLP ctLP ocGS kVGS dcGS pmGS cdGS ctGS ocGP kVGP dcGP pmGP cdGP ctGP ocCo kVCo dcCo pmCo cdCo ctCo ocRo kVRo dcRo pmRo cdRo ctRo ocLe kVLe dcLe pmLe cdLe ctLe ocLt kVLt dcLt pmLt cdLt ctLt ocLp kVLp dcLp pmLp cdLp ctLp ocLw kVLw dcLw pmLw cdLw ctLw : Value}
    (CTableTask : PySem.W.nsIn K mainGlobals "TableTask" = some (some (.ref cTableTask)))
    (CLengths : PySem.W.nsIn K mainGlobals "Lengths" = some (some (.ref cLengths)))
    (aDr : PySem.W.nsIn K mainGlobals "_law_draw" = some (some (.ref fDr)))
    (lDr : K.lookup fDr = some ⟨ocDr, odDr, .func (PySem.W.fnOf "_law_draw" "_law_draw" (defArgs sDr) (defBody sDr) (defScope sDr) .none kVDr dcDr pmDr anDr cdDr ctDr), slDr⟩)
    (cDr : PySem.W.codeIn K cdDr "_law_draw" = true)
    (kDr : PySem.W.keepIn K (.ref fDr) = true)
    (aPo : PySem.W.nsIn K mainGlobals "_law_pool" = some (some (.ref fPo)))
    (lPo : K.lookup fPo = some ⟨ocPo, odPo, .func (PySem.W.fnOf "_law_pool" "_law_pool" (defArgs sPo) (defBody sPo) (defScope sPo) .none kVPo dcPo pmPo anPo cdPo ctPo), slPo⟩)
    (cPo : PySem.W.codeIn K cdPo "_law_pool" = true)
    (kPo : PySem.W.keepIn K (.ref fPo) = true)
    (aPi : PySem.W.nsIn K mainGlobals "_law_pick" = some (some (.ref fPi)))
    (lPi : K.lookup fPi = some ⟨ocPi, odPi, .func (PySem.W.fnOf "_law_pick" "_law_pick" (defArgs sPi) (defBody sPi) (defScope sPi) .none kVPi dcPi pmPi anPi cdPi ctPi), slPi⟩)
    (cPi : PySem.W.codeIn K cdPi "_law_pick" = true)
    (kPi : PySem.W.keepIn K (.ref fPi) = true)
    (aRa : PySem.W.nsIn K mainGlobals "_law_rare" = some (some (.ref fRa)))
    (lRa : K.lookup fRa = some ⟨ocRa, odRa, .func (PySem.W.fnOf "_law_rare" "_law_rare" (defArgs sRa) (defBody sRa) (defScope sRa) .none kVRa dcRa pmRa anRa cdRa ctRa), slRa⟩)
    (cRa : PySem.W.codeIn K cdRa "_law_rare" = true)
    (kRa : PySem.W.keepIn K (.ref fRa) = true)
    (aFe : PySem.W.nsIn K mainGlobals "_law_few" = some (some (.ref fFe)))
    (lFe : K.lookup fFe = some ⟨ocFe, odFe, .func (PySem.W.fnOf "_law_few" "_law_few" (defArgs sFe) (defBody sFe) (defScope sFe) .none kVFe dcFe pmFe anFe cdFe ctFe), slFe⟩)
    (cFe : PySem.W.codeIn K cdFe "_law_few" = true)
    (kFe : PySem.W.keepIn K (.ref fFe) = true)
    (aSa : PySem.W.nsIn K mainGlobals "_law_same" = some (some (.ref fSa)))
    (lSa : K.lookup fSa = some ⟨ocSa, odSa, .func (PySem.W.fnOf "_law_same" "_law_same" (defArgs sSa) (defBody sSa) (defScope sSa) .none kVSa dcSa pmSa anSa cdSa ctSa), slSa⟩)
    (cSa : PySem.W.codeIn K cdSa "_law_same" = true)
    (kSa : PySem.W.keepIn K (.ref fSa) = true)
    (aTI : PySem.W.findIn K (.ref cTableTask) "__init__" = some (some (.ref fTI)))
    (iTI : PySem.W.isFn K (.ref fTI) = true)
    (lTI : K.lookup fTI = some ⟨ocTI, odTI, .func (PySem.W.fnOf "__init__" "TableTask.__init__" (defArgs sTI) (defBody sTI) (defScope sTI) .none kVTI dcTI pmTI anTI cdTI ctTI), slTI⟩)
    (cTI : PySem.W.codeIn K cdTI "TableTask.__init__" = true)
    (kTI : PySem.W.keepIn K (.ref fTI) = true)
    (aTF : PySem.W.findIn K (.ref cTableTask) "first" = some (some (.ref fTF)))
    (iTF : PySem.W.isFn K (.ref fTF) = true)
    (lTF : K.lookup fTF = some ⟨ocTF, odTF, .func (PySem.W.fnOf "first" "TableTask.first" (defArgs sTF) (defBody sTF) (defScope sTF) .none kVTF dcTF pmTF anTF cdTF ctTF), slTF⟩)
    (cTF : PySem.W.codeIn K cdTF "TableTask.first" = true)
    (kTF : PySem.W.keepIn K (.ref fTF) = true)
    (aTE : PySem.W.findIn K (.ref cTableTask) "is_end" = some (some (.ref fTE)))
    (iTE : PySem.W.isFn K (.ref fTE) = true)
    (lTE : K.lookup fTE = some ⟨ocTE, odTE, .func (PySem.W.fnOf "is_end" "TableTask.is_end" (defArgs sTE) (defBody sTE) (defScope sTE) .none kVTE dcTE pmTE anTE cdTE ctTE), slTE⟩)
    (cTE : PySem.W.codeIn K cdTE "TableTask.is_end" = true)
    (kTE : PySem.W.keepIn K (.ref fTE) = true)
    (aTS : PySem.W.findIn K (.ref cTableTask) "steps" = some (some (.ref fTS)))
    (iTS : PySem.W.isFn K (.ref fTS) = true)
    (lTS : K.lookup fTS = some ⟨ocTS, odTS, .func (PySem.W.fnOf "steps" "TableTask.steps" (defArgs sTS) (defBody sTS) (defScope sTS) .none kVTS dcTS pmTS anTS cdTS ctTS), slTS⟩)
    (cTS : PySem.W.codeIn K cdTS "TableTask.steps" = true)
    (kTS : PySem.W.keepIn K (.ref fTS) = true)
    (aTR : PySem.W.findIn K (.ref cTableTask) "rank" = some (some (.ref fTR)))
    (iTR : PySem.W.isFn K (.ref fTR) = true)
    (lTR : K.lookup fTR = some ⟨ocTR, odTR, .func (PySem.W.fnOf "rank" "TableTask.rank" (defArgs sTR) (defBody sTR) (defScope sTR) .none kVTR dcTR pmTR anTR cdTR ctTR), slTR⟩)
    (cTR : PySem.W.codeIn K cdTR "TableTask.rank" = true)
    (kTR : PySem.W.keepIn K (.ref fTR) = true)
    (aSR : PySem.W.nsIn K mainGlobals "steps_of_reached" = some (some (.ref fSR)))
    (lSR : K.lookup fSR = some ⟨ocSR, odSR, .func (PySem.W.fnOf "steps_of_reached" "steps_of_reached" (defArgs sSR) (defBody sSR) (defScope sSR) .none kVSR dcSR pmSR anSR cdSR ctSR), slSR⟩)
    (cSR : PySem.W.codeIn K cdSR "steps_of_reached" = true)
    (kSR : PySem.W.keepIn K (.ref fSR) = true)
    (aLL : PySem.W.nsIn K mainGlobals "least_lengths" = some (some (.ref fLL)))
    (lLL : K.lookup fLL = some ⟨ocLL, odLL, .func (PySem.W.fnOf "least_lengths" "least_lengths" (defArgs sLL) (defBody sLL) (defScope sLL) .none kVLL dcLL pmLL anLL cdLL ctLL), slLL⟩)
    (cLL : PySem.W.codeIn K cdLL "least_lengths" = true)
    (kLL : PySem.W.keepIn K (.ref fLL) = true)
    (aLI : PySem.W.findIn K (.ref cLengths) "__init__" = some (some (.ref fLI)))
    (iLI : PySem.W.isFn K (.ref fLI) = true)
    (lLI : K.lookup fLI = some ⟨ocLI, odLI, .func (PySem.W.fnOf "__init__" "Lengths.__init__" (defArgs sLI) (defBody sLI) (defScope sLI) .none kVLI dcLI pmLI anLI cdLI ctLI), slLI⟩)
    (cLI : PySem.W.codeIn K cdLI "Lengths.__init__" = true)
    (kLI : PySem.W.keepIn K (.ref fLI) = true)
    (aLT : PySem.W.findIn K (.ref cLengths) "_told" = some (some (.ref fLT)))
    (iLT : PySem.W.isFn K (.ref fLT) = true)
    (lLT : K.lookup fLT = some ⟨ocLT, odLT, .func (PySem.W.fnOf "_told" "Lengths._told" (defArgs sLT) (defBody sLT) (defScope sLT) .none kVLT dcLT pmLT anLT cdLT ctLT), slLT⟩)
    (cLT : PySem.W.codeIn K cdLT "Lengths._told" = true)
    (kLT : PySem.W.keepIn K (.ref fLT) = true)
    (aLS : PySem.W.findIn K (.ref cLengths) "spectrum" = some (some (.ref fLS)))
    (iLS : PySem.W.isFn K (.ref fLS) = true)
    (lLS : K.lookup fLS = some ⟨ocLS, odLS, .func (PySem.W.fnOf "spectrum" "Lengths.spectrum" (defArgs sLS) (defBody sLS) (defScope sLS) .none kVLS dcLS pmLS anLS cdLS ctLS), slLS⟩)
    (cLS : PySem.W.codeIn K cdLS "Lengths.spectrum" = true)
    (kLS : PySem.W.keepIn K (.ref fLS) = true)
    (aLP : PySem.W.findIn K (.ref cLengths) "paper" = some (some (.ref fLP)))
    (iLP : PySem.W.isFn K (.ref fLP) = true)
    (lLP : K.lookup fLP = some ⟨ocLP, odLP, .func (PySem.W.fnOf "paper" "Lengths.paper" (defArgs sLP) (defBody sLP) (defScope sLP) .none kVLP dcLP pmLP anLP cdLP ctLP), slLP⟩)
    (cLP : PySem.W.codeIn K cdLP "Lengths.paper" = true)
    (kLP : PySem.W.keepIn K (.ref fLP) = true)
    (aGS : PySem.W.nsIn K mainGlobals "spectrum" = some (some (.ref fGS)))
    (lGS : K.lookup fGS = some ⟨ocGS, odGS, .func (PySem.W.fnOf "spectrum" "spectrum" (defArgs sGS) (defBody sGS) (defScope sGS) .none kVGS dcGS pmGS anGS cdGS ctGS), slGS⟩)
    (cGS : PySem.W.codeIn K cdGS "spectrum" = true)
    (kGS : PySem.W.keepIn K (.ref fGS) = true)
    (aGP : PySem.W.nsIn K mainGlobals "spectra" = some (some (.ref fGP)))
    (lGP : K.lookup fGP = some ⟨ocGP, odGP, .func (PySem.W.fnOf "spectra" "spectra" (defArgs sGP) (defBody sGP) (defScope sGP) .none kVGP dcGP pmGP anGP cdGP ctGP), slGP⟩)
    (cGP : PySem.W.codeIn K cdGP "spectra" = true)
    (kGP : PySem.W.keepIn K (.ref fGP) = true)
    (aCo : PySem.W.nsIn K mainGlobals "_law_cost" = some (some (.ref fCo)))
    (lCo : K.lookup fCo = some ⟨ocCo, odCo, .func (PySem.W.fnOf "_law_cost" "_law_cost" (defArgs sCo) (defBody sCo) (defScope sCo) .none kVCo dcCo pmCo anCo cdCo ctCo), slCo⟩)
    (cCo : PySem.W.codeIn K cdCo "_law_cost" = true)
    (kCo : PySem.W.keepIn K (.ref fCo) = true)
    (aRo : PySem.W.nsIn K mainGlobals "_law_rows" = some (some (.ref fRo)))
    (lRo : K.lookup fRo = some ⟨ocRo, odRo, .func (PySem.W.fnOf "_law_rows" "_law_rows" (defArgs sRo) (defBody sRo) (defScope sRo) .none kVRo dcRo pmRo anRo cdRo ctRo), slRo⟩)
    (cRo : PySem.W.codeIn K cdRo "_law_rows" = true)
    (kRo : PySem.W.keepIn K (.ref fRo) = true)
    (aLe : PySem.W.nsIn K mainGlobals "_law_lengths" = some (some (.ref fLe)))
    (lLe : K.lookup fLe = some ⟨ocLe, odLe, .func (PySem.W.fnOf "_law_lengths" "_law_lengths" (defArgs sLe) (defBody sLe) (defScope sLe) .none kVLe dcLe pmLe anLe cdLe ctLe), slLe⟩)
    (cLe : PySem.W.codeIn K cdLe "_law_lengths" = true)
    (kLe : PySem.W.keepIn K (.ref fLe) = true)
    (aLt : PySem.W.nsIn K mainGlobals "_law_told" = some (some (.ref fLt)))
    (lLt : K.lookup fLt = some ⟨ocLt, odLt, .func (PySem.W.fnOf "_law_told" "_law_told" (defArgs sLt) (defBody sLt) (defScope sLt) .none kVLt dcLt pmLt anLt cdLt ctLt), slLt⟩)
    (cLt : PySem.W.codeIn K cdLt "_law_told" = true)
    (kLt : PySem.W.keepIn K (.ref fLt) = true)
    (aLp : PySem.W.nsIn K mainGlobals "_law_paper" = some (some (.ref fLp)))
    (lLp : K.lookup fLp = some ⟨ocLp, odLp, .func (PySem.W.fnOf "_law_paper" "_law_paper" (defArgs sLp) (defBody sLp) (defScope sLp) .none kVLp dcLp pmLp anLp cdLp ctLp), slLp⟩)
    (cLp : PySem.W.codeIn K cdLp "_law_paper" = true)
    (kLp : PySem.W.keepIn K (.ref fLp) = true)
    (aLw : PySem.W.nsIn K mainGlobals "law" = some (some (.ref fLw)))
    (lLw : K.lookup fLw = some ⟨ocLw, odLw, .func (PySem.W.fnOf "law" "law" (defArgs sLw) (defBody sLw) (defScope sLw) .none kVLw dcLw pmLw anLw cdLw ctLw), slLw⟩)
    (cLw : PySem.W.codeIn K cdLw "law" = true)
    (kLw : PySem.W.keepIn K (.ref fLw) = true)
    (pgTableTask : PySem.W.plainGet K cTableTask Str.empty = true)
    (hdTableTask : PySem.W.hasDictIn K cTableTask = true)
    (poTableTask : PySem.W.plainOver K cTableTask = true)
    (saTableTask : PySem.W.findIn K (.ref cTableTask) "__setattr__" = some (some (.builtin "object.__setattr__")))
    (mkTableTask : PySem.W.makesIn K cTableTask = true)
    (kcTableTask : PySem.W.keepIn K (.ref cTableTask) = true)
    (nTableTask_table : PySem.W.findIn K (.ref cTableTask) "_table" = some none)
    (pgLengths : PySem.W.plainGet K cLengths Str.empty = true)
    (hdLengths : PySem.W.hasDictIn K cLengths = true)
    (poLengths : PySem.W.plainOver K cLengths = true)
    (saLengths : PySem.W.findIn K (.ref cLengths) "__setattr__" = some (some (.builtin "object.__setattr__")))
    (mkLengths : PySem.W.makesIn K cLengths = true)
    (kcLengths : PySem.W.keepIn K (.ref cLengths) = true)
    (nLengths_task : PySem.W.findIn K (.ref cLengths) "_task" = some none)
    (nLengths_found : PySem.W.findIn K (.ref cLengths) "_found" = some none)
    (nLengths_table : PySem.W.findIn K (.ref cLengths) "_table" = some none)
    (gfTR : PySem.W.specialIn K (.ref fTR) "__get__" = some (some (.builtin "function.__get__")))
    (tkTR : PySem.W.takesIn K (.ref fTR) = some false)
    (fiTR : PySem.W.fnIn K fTR = true)
    (zlen : PySem.W.nsIn K mainGlobals "len" = some none)
    (zabs : PySem.W.nsIn K mainGlobals "abs" = some none)
    (zint : PySem.W.nsIn K mainGlobals "int" = some none)
    (zlist : PySem.W.nsIn K mainGlobals "list" = some none)
    (ztuple : PySem.W.nsIn K mainGlobals "tuple" = some none)
    (zrange : PySem.W.nsIn K mainGlobals "range" = some none)
    (zsorted : PySem.W.nsIn K mainGlobals "sorted" = some none)
    (zisinstance : PySem.W.nsIn K mainGlobals "isinstance" = some none)
    (zmin : PySem.W.nsIn K mainGlobals "min" = some none)
    (zmax : PySem.W.nsIn K mainGlobals "max" = some none)
    (zenumerate : PySem.W.nsIn K mainGlobals "enumerate" = some none)
    (zzip : PySem.W.nsIn K mainGlobals "zip" = some none)
    (zsum : PySem.W.nsIn K mainGlobals "sum" = some none)
    (zall : PySem.W.nsIn K mainGlobals "all" = some none)
    (zstr : PySem.W.nsIn K mainGlobals "str" = some none)
    (zbool : PySem.W.nsIn K mainGlobals "bool" = some none)
    : ∃ fd : FuncData, (∀ (s : Shared) (v : Value), BindsTo s fd ⟨[v], []⟩ [("script", v)]) ∧ ∀ base : Heap, K.In base → base.Ns mainGlobals mg → FnOk l.prog w K mg base CX0 7 fa fd ["script"] (spLaw K) := by
  have e := hfa.symm.trans (PySem.W.mg_of X G aLw)
  cases e
  have T : Bi mg := ⟨PySem.W.mg_none_of X G zlen, PySem.W.mg_none_of X G zabs, PySem.W.mg_none_of X G zint, PySem.W.mg_none_of X G zlist, PySem.W.mg_none_of X G ztuple, PySem.W.mg_none_of X G zrange, PySem.W.mg_none_of X G zsorted, PySem.W.mg_none_of X G zisinstance, PySem.W.mg_none_of X G zmin, PySem.W.mg_none_of X G zmax, PySem.W.mg_none_of X G zenumerate, PySem.W.mg_none_of X G zzip, PySem.W.mg_none_of X G zsum, PySem.W.mg_none_of X G zall, PySem.W.mg_none_of X G zstr, PySem.W.mg_none_of X G zbool⟩
  have clTableTask : Cls K cTableTask := ⟨pgTableTask, hdTableTask, poTableTask, saTableTask⟩
  have mTableTask := PySem.W.mg_of X G CTableTask
  have clLengths : Cls K cLengths := ⟨pgLengths, hdLengths, poLengths, saLengths⟩
  have mLengths := PySem.W.mg_of X G CLengths
  have FDr := fun_mk (st := sDr) lDr cDr kDr
  have bDr := FDr.binds (ps := ["pool", "many"]) fun _ _ _ _ _ _ us hl => match us, hl with | [_, _], _ => rfl
  have mDr := PySem.W.mg_of X G aDr
  have FPo := fun_mk (st := sPo) lPo cPo kPo
  have bPo := FPo.binds (ps := ["script"]) fun _ _ _ _ _ _ us hl => match us, hl with | [_], _ => rfl
  have mPo := PySem.W.mg_of X G aPo
  have FPi := fun_mk (st := sPi) lPi cPi kPi
  have bPi := FPi.binds (ps := ["pool", "row"]) fun _ _ _ _ _ _ us hl => match us, hl with | [_, _], _ => rfl
  have mPi := PySem.W.mg_of X G aPi
  have FRa := fun_mk (st := sRa) lRa cRa kRa
  have bRa := FRa.binds (ps := ["pool", "many"]) fun _ _ _ _ _ _ us hl => match us, hl with | [_, _], _ => rfl
  have mRa := PySem.W.mg_of X G aRa
  have FFe := fun_mk (st := sFe) lFe cFe kFe
  have bFe := FFe.binds (ps := ["pool", "usual", "most"]) fun _ _ _ _ _ _ us hl => match us, hl with | [_, _, _], _ => rfl
  have mFe := PySem.W.mg_of X G aFe
  have FSa := fun_mk (st := sSa) lSa cSa kSa
  have bSa := FSa.binds (ps := ["got", "due"]) fun _ _ _ _ _ _ us hl => match us, hl with | [_, _], _ => rfl
  have mSa := PySem.W.mg_of X G aSa
  have FTI := fun_mk (st := sTI) lTI cTI kTI
  have bTI := FTI.binds (ps := ["self", "rows"]) fun _ _ _ _ _ _ us hl => match us, hl with | [_, _], _ => rfl
  have MTI : Mk K cTableTask fTI := ⟨mkTableTask, aTI, iTI, kcTableTask⟩
  have FTF := fun_mk (st := sTF) lTF cTF kTF
  have bTF := FTF.binds (ps := ["self"]) fun _ _ _ _ _ _ us hl => match us, hl with | [_], _ => rfl
  have eTF : Meth K cTableTask "first" fTF := ⟨aTF, iTF, kTF⟩
  have FTE := fun_mk (st := sTE) lTE cTE kTE
  have bTE := FTE.binds (ps := ["self", "state"]) fun _ _ _ _ _ _ us hl => match us, hl with | [_, _], _ => rfl
  have eTE : Meth K cTableTask "is_end" fTE := ⟨aTE, iTE, kTE⟩
  have FTS := fun_mk (st := sTS) lTS cTS kTS
  have bTS := FTS.binds (ps := ["self", "state"]) fun _ _ _ _ _ _ us hl => match us, hl with | [_, _], _ => rfl
  have eTS : Meth K cTableTask "steps" fTS := ⟨aTS, iTS, kTS⟩
  have FTR := fun_mk (st := sTR) lTR cTR kTR
  have bTR := FTR.binds (ps := ["self", "state"]) fun _ _ _ _ _ _ us hl => match us, hl with | [_, _], _ => rfl
  have eTR : Meth K cTableTask "rank" fTR := ⟨aTR, iTR, kTR⟩
  have FSR := fun_mk (st := sSR) lSR cSR kSR
  have bSR := FSR.binds (ps := ["task"]) fun _ _ _ _ _ _ us hl => match us, hl with | [_], _ => rfl
  have mSR := PySem.W.mg_of X G aSR
  have FLL := fun_mk (st := sLL) lLL cLL kLL
  have bLL := FLL.binds (ps := ["steps", "table"]) fun _ _ _ _ _ _ us hl => match us, hl with | [_, _], _ => rfl
  have mLL := PySem.W.mg_of X G aLL
  have FLI := fun_mk (st := sLI) lLI cLI kLI
  have bLI := FLI.binds (ps := ["self", "task"]) fun _ _ _ _ _ _ us hl => match us, hl with | [_, _], _ => rfl
  have MLI : Mk K cLengths fLI := ⟨mkLengths, aLI, iLI, kcLengths⟩
  have FLT := fun_mk (st := sLT) lLT cLT kLT
  have bLT := FLT.binds (ps := ["self", "state"]) fun _ _ _ _ _ _ us hl => match us, hl with | [_, _], _ => rfl
  have eLT : Meth K cLengths "_told" fLT := ⟨aLT, iLT, kLT⟩
  have FLS := fun_mk (st := sLS) lLS cLS kLS
  have bLS := FLS.binds (ps := ["self"]) fun _ _ _ _ _ _ us hl => match us, hl with | [_], _ => rfl
  have eLS : Meth K cLengths "spectrum" fLS := ⟨aLS, iLS, kLS⟩
  have FLP := fun_mk (st := sLP) lLP cLP kLP
  have bLP := FLP.binds (ps := ["self"]) fun _ _ _ _ _ _ us hl => match us, hl with | [_], _ => rfl
  have eLP : Meth K cLengths "paper" fLP := ⟨aLP, iLP, kLP⟩
  have FGS := fun_mk (st := sGS) lGS cGS kGS
  have bGS := FGS.binds (ps := ["task"]) fun _ _ _ _ _ _ us hl => match us, hl with | [_], _ => rfl
  have mGS := PySem.W.mg_of X G aGS
  have FGP := fun_mk (st := sGP) lGP cGP kGP
  have bGP := FGP.binds (ps := ["task"]) fun _ _ _ _ _ _ us hl => match us, hl with | [_], _ => rfl
  have mGP := PySem.W.mg_of X G aGP
  have FCo := fun_mk (st := sCo) lCo cCo kCo
  have bCo := FCo.binds (ps := ["pool"]) fun _ _ _ _ _ _ us hl => match us, hl with | [_], _ => rfl
  have mCo := PySem.W.mg_of X G aCo
  have FRo := fun_mk (st := sRo) lRo cRo kRo
  have bRo := FRo.binds (ps := ["pool"]) fun _ _ _ _ _ _ us hl => match us, hl with | [_], _ => rfl
  have mRo := PySem.W.mg_of X G aRo
  have FLe := fun_mk (st := sLe) lLe cLe kLe
  have bLe := FLe.binds (ps := ["rows"]) fun _ _ _ _ _ _ us hl => match us, hl with | [_], _ => rfl
  have mLe := PySem.W.mg_of X G aLe
  have FLt := fun_mk (st := sLt) lLt cLt kLt
  have bLt := FLt.binds (ps := ["best"]) fun _ _ _ _ _ _ us hl => match us, hl with | [_], _ => rfl
  have mLt := PySem.W.mg_of X G aLt
  have FLp := fun_mk (st := sLp) lLp cLp kLp
  have bLp := FLp.binds (ps := ["rows"]) fun _ _ _ _ _ _ us hl => match us, hl with | [_], _ => rfl
  have mLp := PySem.W.mg_of X G aLp
  have BTR : BMeth K cTableTask "rank" fTR := ⟨eTR, gfTR, tkTR, by decide +kernel, fiTR⟩
  have L : LCls K cLengths := ⟨clLengths, nLengths_task, nLengths_found, nLengths_table⟩
  refine ⟨PySem.W.fnOf "law" "law" (defArgs sLw) (defBody sLw) (defScope sLw) .none kVLw dcLw pmLw anLw cdLw ctLw, fun s v => .of_eq rfl, fun base _ _ => ?_⟩
  have GDr : FnOk l.prog w K mg base CX0 1 fDr _ ["pool", "many"] (spDraw) := ok_Dr FDr T
  have CDr : Cal l.prog w K mg base "_law_draw" 1 fDr _ ["pool", "many"] (spDraw) := ⟨GDr, mDr, kDr, bDr⟩
  have GPo : FnOk l.prog w K mg base CX0 1 fPo _ ["script"] (spPool K) := ok_Po FPo T
  have CPo : Cal l.prog w K mg base "_law_pool" 1 fPo _ ["script"] (spPool K) := ⟨GPo, mPo, kPo, bPo⟩
  have GPi : FnOk l.prog w K mg base CX0 2 fPi _ ["pool", "row"] (spPick) := ok_Pi FPi T CDr
  have CPi : Cal l.prog w K mg base "_law_pick" 2 fPi _ ["pool", "row"] (spPick) := ⟨GPi, mPi, kPi, bPi⟩
  have GRa : FnOk l.prog w K mg base CX0 2 fRa _ ["pool", "many"] (spRare) := ok_Ra FRa T CDr
  have CRa : Cal l.prog w K mg base "_law_rare" 2 fRa _ ["pool", "many"] (spRare) := ⟨GRa, mRa, kRa, bRa⟩
  have GFe : FnOk l.prog w K mg base CX0 3 fFe _ ["pool", "usual", "most"] (spFew) := ok_Fe FFe T CDr CRa
  have CFe : Cal l.prog w K mg base "_law_few" 3 fFe _ ["pool", "usual", "most"] (spFew) := ⟨GFe, mFe, kFe, bFe⟩
  have GSa : FnOk l.prog w K mg base CX0 5 fSa _ ["got", "due"] (spSame 5) := ok_Sa FSa T mSa bSa 5
  have CSa : Cal l.prog w K mg base "_law_same" 5 fSa _ ["got", "due"] (spSame 5) := ⟨GSa, mSa, kSa, bSa⟩
  have GTI : FnOk l.prog w K mg base CX0 1 fTI _ ["self", "rows"] (spTInit cTableTask) := ok_TI FTI T clTableTask nTableTask_table
  have GTF : FnOk l.prog w K mg base CX0 1 fTF _ ["self"] (spTFirst cTableTask) := ok_TF FTF
  have CTF : Met l.prog w K mg base cTableTask "first" 1 fTF _ ["self"] (spTFirst cTableTask) := ⟨GTF, clTableTask, eTF, bTF⟩
  have GTE : FnOk l.prog w K mg base CX0 1 fTE _ ["self", "state"] (spTEnd cTableTask) := ok_TE FTE T clTableTask nTableTask_table
  have CTE : Met l.prog w K mg base cTableTask "is_end" 1 fTE _ ["self", "state"] (spTEnd cTableTask) := ⟨GTE, clTableTask, eTE, bTE⟩
  have GTS : FnOk l.prog w K mg base CX0 1 fTS _ ["self", "state"] (spTSteps cTableTask) := ok_TS FTS T clTableTask nTableTask_table
  have CTS : Met l.prog w K mg base cTableTask "steps" 1 fTS _ ["self", "state"] (spTSteps cTableTask) := ⟨GTS, clTableTask, eTS, bTS⟩
  have GTR : FnOk l.prog w K mg base CX0 1 fTR _ ["self", "state"] (spTRank) := ok_TR FTR
  have CTR : Met l.prog w K mg base cTableTask "rank" 1 fTR _ ["self", "state"] (spTRank) := ⟨GTR, clTableTask, eTR, bTR⟩
  have GSR : FnOk l.prog w K mg base CX0 2 fSR _ ["task"] (spReached cTableTask) := ok_SR FSR T CTF CTS
  have CSR : Cal l.prog w K mg base "steps_of_reached" 2 fSR _ ["task"] (spReached cTableTask) := ⟨GSR, mSR, kSR, bSR⟩
  have GLL : FnOk l.prog w K mg base CX0 1 fLL _ ["steps", "table"] (spLeast) := ok_LL FLL
  have CLL : Cal l.prog w K mg base "least_lengths" 1 fLL _ ["steps", "table"] (spLeast) := ⟨GLL, mLL, kLL, bLL⟩
  have GLI : FnOk l.prog w K mg base CX0 4 fLI _ ["self", "task"] (spLInit cLengths cTableTask) := ok_LI FLI T L clTableTask BTR (GTR.raw bTR .nil) CTE CSR CLL
  have GLT : FnOk l.prog w K mg base CX0 1 fLT _ ["self", "state"] (spTold cLengths cTableTask) := ok_LT FLT T L
  have CLT : Met l.prog w K mg base cLengths "_told" 1 fLT _ ["self", "state"] (spTold cLengths cTableTask) := ⟨GLT, clLengths, eLT, bLT⟩
  have GLS : FnOk l.prog w K mg base CX0 2 fLS _ ["self"] (spSpec cLengths cTableTask) := ok_LS FLS L CLT CTF
  have CLS : Met l.prog w K mg base cLengths "spectrum" 2 fLS _ ["self"] (spSpec cLengths cTableTask) := ⟨GLS, clLengths, eLS, bLS⟩
  have GLP : FnOk l.prog w K mg base CX0 2 fLP _ ["self"] (spPaper cLengths cTableTask) := ok_LP FLP T L CLT
  have CLP : Met l.prog w K mg base cLengths "paper" 2 fLP _ ["self"] (spPaper cLengths cTableTask) := ⟨GLP, clLengths, eLP, bLP⟩
  have GGS : FnOk l.prog w K mg base CX0 6 fGS _ ["task"] (spTopSpec cTableTask) := ok_GS FGS L MLI GLI mLengths bLI CLS
  have CGS : Cal l.prog w K mg base "spectrum" 6 fGS _ ["task"] (spTopSpec cTableTask) := ⟨GGS, mGS, kGS, bGS⟩
  have GGP : FnOk l.prog w K mg base CX0 6 fGP _ ["task"] (spTopSpectra cTableTask) := ok_GP FGP L MLI GLI mLengths bLI CLP
  have CGP : Cal l.prog w K mg base "spectra" 6 fGP _ ["task"] (spTopSpectra cTableTask) := ⟨GGP, mGP, kGP, bGP⟩
  have GCo : FnOk l.prog w K mg base CX0 3 fCo _ ["pool"] (spCost) := ok_Co FCo T CDr CRa
  have CCo : Cal l.prog w K mg base "_law_cost" 3 fCo _ ["pool"] (spCost) := ⟨GCo, mCo, kCo, bCo⟩
  have GRo : FnOk l.prog w K mg base CX0 4 fRo _ ["pool"] (spRows) := ok_Ro FRo T CDr CRa CPi CFe CCo
  have CRo : Cal l.prog w K mg base "_law_rows" 4 fRo _ ["pool"] (spRows) := ⟨GRo, mRo, kRo, bRo⟩
  have GLe : FnOk l.prog w K mg base CX0 1 fLe _ ["rows"] (spLawLens) := ok_Le FLe T
  have CLe : Cal l.prog w K mg base "_law_lengths" 1 fLe _ ["rows"] (spLawLens) := ⟨GLe, mLe, kLe, bLe⟩
  have GLt : FnOk l.prog w K mg base CX0 1 fLt _ ["best"] (spLawTold) := ok_Lt FLt T
  have CLt : Cal l.prog w K mg base "_law_told" 1 fLt _ ["best"] (spLawTold) := ⟨GLt, mLt, kLt, bLt⟩
  have GLp : FnOk l.prog w K mg base CX0 2 fLp _ ["rows"] (spLawPaper) := ok_Lp FLp T CLe CLt
  have CLp : Cal l.prog w K mg base "_law_paper" 2 fLp _ ["rows"] (spLawPaper) := ⟨GLp, mLp, kLp, bLp⟩
  exact ok_Lw (fun_mk (st := sLw) lLw cLw kLw) T CPo CDr CRo CLp CSa CGS CGP MTI GTI mTableTask bTI
theorem walk {l : PySem.W.OpenLaw} {q : Program} {loose : List Str} {XP : (Str → Option Value) → Heap → Prop} {YP : World → Heap → Prop} {d : DefRec} {K : Params → PySem.W.Frag} (hn : l.most = some 63) (hdf : d.params.defaults = [])
    (hY : ∀ (w : World) (h : Heap), YP w h → (K w.params).In h)
    (F : ∀ (w : World) (mg : Str → Option Value) (fa : Addr) (h : Heap), (K w.params).In h → h.Ns mainGlobals mg → mg d.name = some (.ref fa) →
      ∃ fd : FuncData, (∀ (s : Shared) (u : Value), BindsTo s fd ⟨[u], []⟩ [("script", u)]) ∧ ∀ base : Heap, (K w.params).In base → base.Ns mainGlobals mg → FnOk l.prog w (K w.params) mg base CX0 7 fa fd ["script"] (spLaw (K w.params))) :
    PySem.W.WalkO q loose XP YP l.row.toRowW d [] (fun f vs => PySem.call f vs) :=
  L2.walk_of (n := 63) (k := 7) (x := "script") (CX := fun _ => CX0) (sp := fun w => spLaw (K w.params)) hn (by decide) hdf ⟨rfl, by decide, by decide⟩ hY F (fun _ _ a ns hl _ hS => ⟨a, ns, rfl, hS, hl, fun _ => rfl⟩) fun _ _ _ _ _ z => z
end Tf
open PySem PySem.W PyProof.Rows in
set_option maxRecDepth 100000 in
set_option maxHeartbeats 0 in
theorem PySem.Challenge.cw_typeforge_k74_spectra_of_tasks_holds : PySem.Challenge.rw_typeforge_k74_spectra_of_tasks.Holds := by
  w_on; o_law; k_head; (case hw => w_witness2)
  k_fill
  refine Tf.walk (l := PySem.Challenge.rw_typeforge_k74_spectra_of_tasks) rfl rfl (fun w h Y => PySem.W.kIn_of Y) ?F
  case F =>
    intro w mg fa h KX G hmg
    refine' Tf.all_mk KX G hmg ?CTableTask ?CLengths ?aDr ?lDr ?cDr ?kDr ?aPo ?lPo ?cPo ?kPo ?aPi ?lPi ?cPi ?kPi ?aRa ?lRa ?cRa ?kRa ?aFe ?lFe ?cFe ?kFe ?aSa ?lSa ?cSa ?kSa ?aTI ?iTI ?lTI ?cTI ?kTI ?aTF ?iTF ?lTF ?cTF ?kTF ?aTE ?iTE ?lTE ?cTE ?kTE ?aTS ?iTS ?lTS ?cTS ?kTS ?aTR ?iTR ?lTR ?cTR ?kTR ?aSR ?lSR ?cSR ?kSR ?aLL ?lLL ?cLL ?kLL ?aLI ?iLI ?lLI ?cLI ?kLI ?aLT ?iLT ?lLT ?cLT ?kLT ?aLS ?iLS ?lLS ?cLS ?kLS ?aLP ?iLP ?lLP ?cLP ?kLP ?aGS ?lGS ?cGS ?kGS ?aGP ?lGP ?cGP ?kGP ?aCo ?lCo ?cCo ?kCo ?aRo ?lRo ?cRo ?kRo ?aLe ?lLe ?cLe ?kLe ?aLt ?lLt ?cLt ?kLt ?aLp ?lLp ?cLp ?kLp ?aLw ?lLw ?cLw ?kLw ?pgTableTask ?hdTableTask ?poTableTask ?saTableTask ?mkTableTask ?kcTableTask ?nTableTask_table ?pgLengths ?hdLengths ?poLengths ?saLengths ?mkLengths ?kcLengths ?nLengths_task ?nLengths_found ?nLengths_table ?gfTR ?tkTR ?fiTR ?zlen ?zabs ?zint ?zlist ?ztuple ?zrange ?zsorted ?zisinstance ?zmin ?zmax ?zenumerate ?zzip ?zsum ?zall ?zstr ?zbool
    (case CTableTask => k_is)
    (case CLengths => k_is)
    (case aDr => k_is)
    (case lDr => k_is)
    (case cDr => k_is)
    (case kDr => k_is)
    (case aPo => k_is)
    (case lPo => k_is)
    (case cPo => k_is)
    (case kPo => k_is)
    (case aPi => k_is)
    (case lPi => k_is)
    (case cPi => k_is)
    (case kPi => k_is)
    (case aRa => k_is)
    (case lRa => k_is)
    (case cRa => k_is)
    (case kRa => k_is)
    (case aFe => k_is)
    (case lFe => k_is)
    (case cFe => k_is)
    (case kFe => k_is)
    (case aSa => k_is)
    (case lSa => k_is)
    (case cSa => k_is)
    (case kSa => k_is)
    (case aTI => k_is)
    (case iTI => k_is)
    (case lTI => k_is)
    (case cTI => k_is)
    (case kTI => k_is)
    (case aTF => k_is)
    (case iTF => k_is)
    (case lTF => k_is)
    (case cTF => k_is)
    (case kTF => k_is)
    (case aTE => k_is)
    (case iTE => k_is)
    (case lTE => k_is)
    (case cTE => k_is)
    (case kTE => k_is)
    (case aTS => k_is)
    (case iTS => k_is)
    (case lTS => k_is)
    (case cTS => k_is)
    (case kTS => k_is)
    (case aTR => k_is)
    (case iTR => k_is)
    (case lTR => k_is)
    (case cTR => k_is)
    (case kTR => k_is)
    (case aSR => k_is)
    (case lSR => k_is)
    (case cSR => k_is)
    (case kSR => k_is)
    (case aLL => k_is)
    (case lLL => k_is)
    (case cLL => k_is)
    (case kLL => k_is)
    (case aLI => k_is)
    (case iLI => k_is)
    (case lLI => k_is)
    (case cLI => k_is)
    (case kLI => k_is)
    (case aLT => k_is)
    (case iLT => k_is)
    (case lLT => k_is)
    (case cLT => k_is)
    (case kLT => k_is)
    (case aLS => k_is)
    (case iLS => k_is)
    (case lLS => k_is)
    (case cLS => k_is)
    (case kLS => k_is)
    (case aLP => k_is)
    (case iLP => k_is)
    (case lLP => k_is)
    (case cLP => k_is)
    (case kLP => k_is)
    (case aGS => k_is)
    (case lGS => k_is)
    (case cGS => k_is)
    (case kGS => k_is)
    (case aGP => k_is)
    (case lGP => k_is)
    (case cGP => k_is)
    (case kGP => k_is)
    (case aCo => k_is)
    (case lCo => k_is)
    (case cCo => k_is)
    (case kCo => k_is)
    (case aRo => k_is)
    (case lRo => k_is)
    (case cRo => k_is)
    (case kRo => k_is)
    (case aLe => k_is)
    (case lLe => k_is)
    (case cLe => k_is)
    (case kLe => k_is)
    (case aLt => k_is)
    (case lLt => k_is)
    (case cLt => k_is)
    (case kLt => k_is)
    (case aLp => k_is)
    (case lLp => k_is)
    (case cLp => k_is)
    (case kLp => k_is)
    (case aLw => k_is)
    (case lLw => k_is)
    (case cLw => k_is)
    (case kLw => k_is)
    (case pgTableTask => k_is)
    (case hdTableTask => k_is)
    (case poTableTask => k_is)
    (case saTableTask => k_is)
    (case mkTableTask => k_is)
    (case kcTableTask => k_is)
    (case nTableTask_table => k_is)
    (case pgLengths => k_is)
    (case hdLengths => k_is)
    (case poLengths => k_is)
    (case saLengths => k_is)
    (case mkLengths => k_is)
    (case kcLengths => k_is)
    (case nLengths_task => k_is)
    (case nLengths_found => k_is)
    (case nLengths_table => k_is)
    (case gfTR => k_is)
    (case tkTR => k_is)
    (case fiTR => k_is)
    (case zlen => k_is)
    (case zabs => k_is)
    (case zint => k_is)
    (case zlist => k_is)
    (case ztuple => k_is)
    (case zrange => k_is)
    (case zsorted => k_is)
    (case zisinstance => k_is)
    (case zmin => k_is)
    (case zmax => k_is)
    (case zenumerate => k_is)
    (case zzip => k_is)
    (case zsum => k_is)
    (case zall => k_is)
    (case zstr => k_is)
    (case zbool => k_is)
#print axioms PySem.Challenge.cw_typeforge_k74_spectra_of_tasks_holds
