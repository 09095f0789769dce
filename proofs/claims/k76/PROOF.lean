import PyProof.Rows.All
import Wide.All
import OpenK.AllK
import Wide.FinOn
import HandS.ForMost
import HandS.Sort
import HandS.SortInts
import HandS.SortKw
import HandS.IsInst
import HandS.Wide
import HandS.Flow
import HandS.More
import HandS.NoneIn
import HandS.Style
import HandS.DictComp
import HandS.Zip
import HandS.RaiseOp
import HandS.Conv
import HandS.Walk
import KE.SortKeyHeap
import KE.GoesEnum
import KE.DataMinMax
import KE.DatumOrd
import PySem.Challenge.RW_typeforge_k76_judge_of_spectra
set_option Elab.async false
set_option linter.all false
set_option maxRecDepth 100000
set_option maxHeartbeats 4000000
/-! frozen heaps, own cells, data that stands in a frozen heap, steps of a reading -/
namespace Tf
open PySem PySem.Spec PyProof.Rows L2
/-! ### heaps that grow -/
theorem same_new {H : Hp} {p : Addr} {o : HO} (h : H p = none) : Same H (upd H p o) := fun a u e => by
  rw [upd_ne (ne_of_none e h)]
  exact e
abbrev Mem := List (Addr × HO)
/-- F stands still within H; the cells m of H are ours -/
structure Own (H F : Hp) (m : Mem) : Prop where
  sub : Same F H
  mem : ∀ p ∈ m, H p.1 = some p.2 ∧ F p.1 = none
  nd : (m.map (·.1)).Nodup
namespace Own
variable {H F : Hp} {m m' : Mem} {p q : Addr} {o o' u u' : HO}
theorem at0 (O : Own H F ((p, o) :: m)) : H p = some o := (O.mem (p, o) List.mem_cons_self).1
theorem fr0 (O : Own H F ((p, o) :: m)) : F p = none := (O.mem (p, o) List.mem_cons_self).2
theorem get (O : Own H F m) (h : (p, o) ∈ m) : H p = some o := (O.mem (p, o) h).1
theorem frz (O : Own H F m) (h : F p = some o) : H p = some o := O.sub p o h
theorem fresh (O : Own H F m) (h : H p = none) : F p = none := O.sub.free h
theorem notin (O : Own H F m) (h : H p = none) : p ∉ m.map (·.1) := fun hp => by
  obtain ⟨x, hx, e⟩ := List.mem_map.mp hp
  have := (O.mem x hx).1
  rw [e, h] at this
  cases this
theorem notinF (O : Own H F m) (h : F p = some o) : p ∉ m.map (·.1) := fun hp => by
  obtain ⟨x, hx, e⟩ := List.mem_map.mp hp
  have := (O.mem x hx).2
  rw [e, h] at this
  cases this
/-- a new thing that stands still from now on -/
theorem new (O : Own H F m) (h : H p = none) : Own (upd H p o) (upd F p o) m where
  sub := fun a u e => by
    by_cases ha : a = p
    · subst ha
      rw [upd_same] at e ⊢
      exact e
    · rw [upd_ne ha] at e ⊢
      exact O.sub a u e
  mem := fun x hx => by
    have hn : x.1 ≠ p := fun e => O.notin h (by rw [← e]; exact List.mem_map_of_mem hx)
    rw [upd_ne hn, upd_ne hn]
    exact O.mem x hx
  nd := O.nd
/-- a new thing of ours -/
theorem own (O : Own H F m) (h : H p = none) : Own (upd H p o) F ((p, o) :: m) where
  sub := O.sub.trans (same_new h)
  mem := fun x hx => by
    rcases List.mem_cons.mp hx with rfl | hx
    · exact ⟨upd_same, O.fresh h⟩
    · have hn : x.1 ≠ p := fun e => O.notin h (by rw [← e]; exact List.mem_map_of_mem hx)
      rw [upd_ne hn]
      exact O.mem x hx
  nd := List.nodup_cons.mpr ⟨O.notin h, O.nd⟩
theorem set (O : Own H F ((p, o) :: m)) (o' : HO) : Own (upd H p o') F ((p, o') :: m) where
  sub := fun a u e => by
    rw [upd_ne (ne_of_none e O.fr0)]
    exact O.sub a u e
  mem := fun x hx => by
    rcases List.mem_cons.mp hx with rfl | hx
    · exact ⟨upd_same, O.fr0⟩
    · have hn : x.1 ≠ p := fun e => (List.nodup_cons.mp O.nd).1 (by show p ∈ m.map (·.1); rw [← e]; exact List.mem_map_of_mem hx)
      rw [upd_ne hn]
      exact O.mem x (List.mem_cons_of_mem _ hx)
  nd := O.nd
theorem perm (O : Own H F m) (h : m.Perm m') : Own H F m' where
  sub := O.sub
  mem := fun x hx => O.mem x (h.mem_iff.mpr hx)
  nd := (h.map _).nodup_iff.mp O.nd
theorem swap (O : Own H F ((p, o) :: (q, u) :: m)) : Own H F ((q, u) :: (p, o) :: m) := O.perm (List.Perm.swap _ _ _)
theorem rot3 {r : Addr} {v : HO} (O : Own H F ((p, o) :: (q, u) :: (r, v) :: m)) : Own H F ((r, v) :: (p, o) :: (q, u) :: m) :=
  O.perm (((List.Perm.swap _ _ _).cons _).trans (List.Perm.swap _ _ _))
theorem tail (O : Own H F ((p, o) :: m)) : Own H F m := ⟨O.sub, fun x hx => O.mem x (List.mem_cons_of_mem _ hx), (List.nodup_cons.mp O.nd).2⟩
/-- a thing of ours that stands still from now on -/
theorem freeze (O : Own H F ((p, o) :: m)) : Own H (upd F p o) m where
  sub := fun a u e => by
    by_cases ha : a = p
    · subst ha
      rw [upd_same] at e
      rw [O.at0]
      exact e
    · rw [upd_ne ha] at e
      exact O.sub a u e
  mem := fun x hx => by
    have hn : x.1 ≠ p := fun e => (List.nodup_cons.mp O.nd).1 (by show p ∈ m.map (·.1); rw [← e]; exact List.mem_map_of_mem hx)
    rw [upd_ne hn]
    exact O.mem x (List.mem_cons_of_mem _ hx)
  nd := (List.nodup_cons.mp O.nd).2
theorem freeze_same (O : Own H F ((p, o) :: m)) : Same F (upd F p o) := same_new O.fr0
theorem refl (H : Hp) : Own H H [] := ⟨Same.refl H, fun _ h => (nomatch h), List.nodup_nil⟩
/-- of a lesser frozen heap -/
theorem back {F' : Hp} (O : Own H F' m) (s : Same F F') : Own H F m := ⟨s.trans O.sub, fun x hx => ⟨(O.mem x hx).1, s.free (O.mem x hx).2⟩, O.nd⟩
/-- a thing that stood still for a while is ours again -/
theorem thaw (O : Own H (upd F p o) m) (h : F p = none) : Own H F ((p, o) :: m) where
  sub := (same_new h).trans O.sub
  mem := fun x hx => by
    rcases List.mem_cons.mp hx with rfl | hx
    · exact ⟨O.sub _ _ upd_same, h⟩
    · exact ⟨(O.mem x hx).1, (same_new h).free (O.mem x hx).2⟩
  nd := List.nodup_cons.mpr ⟨O.notinF (o := o) upd_same, O.nd⟩
/-- lock and unlock of a thing that stands still -/
theorem relay (O : Own H F m) (h : F p = some o) : Own (upd H p o') (upd F p o') m where
  sub := fun a u e => by
    by_cases ha : a = p
    · subst ha
      rw [upd_same] at e ⊢
      exact e
    · rw [upd_ne ha] at e ⊢
      exact O.sub a u e
  mem := fun x hx => by
    have hn : x.1 ≠ p := fun e => O.notinF h (by rw [← e]; exact List.mem_map_of_mem hx)
    rw [upd_ne hn, upd_ne hn]
    exact O.mem x hx
  nd := O.nd
end Own
/-! ### what stays readable: lists, tuples, instances as they are; a dict also while it is locked -/
def plainO : HO → Prop
  | .lst _ => True
  | .tup _ => True
  | .ins _ _ _ => True
  | .own _ => True
  | .met _ _ => True
  | _ => False
structure Le (F F' : Hp) : Prop where
  pl : ∀ a o, plainO o → F a = some o → F' a = some o
  dk : ∀ a kvs, Rd F a (.dK kvs) → Rd F' a (.dK kvs)
  dt : ∀ a kvs, Rd F a (.dT kvs) → Rd F' a (.dT kvs)
theorem Le.refl (F : Hp) : Le F F := ⟨fun _ _ _ h => h, fun _ _ h => h, fun _ _ h => h⟩
theorem Le.trans {F F1 F2 : Hp} (a : Le F F1) (b : Le F1 F2) : Le F F2 :=
  ⟨fun x o p h => b.pl x o p (a.pl x o p h), fun x k h => b.dk x k (a.dk x k h), fun x k h => b.dt x k (a.dt x k h)⟩
theorem rd_same {F F' : Hp} {a : Addr} {u : HO} (s : Same F F') (h : Rd F a u) : Rd F' a u := by
  rcases h with h | ⟨o, h⟩
  · exact .inl (s _ _ h)
  · exact .inr ⟨o, s _ _ h⟩
theorem Le.of {F F' : Hp} (s : Same F F') : Le F F' := ⟨fun a o _ h => s a o h, fun _ _ h => rd_same s h, fun _ _ h => rd_same s h⟩
theorem le_lock {F : Hp} {d : Addr} {ob : Obj} {kvs : List (Key × V)} (h : F d = some (.dK kvs)) : Le F (upd F d (.frz ob (.dK kvs))) where
  pl := fun a o p e => by
    have hn : a ≠ d := fun z => by
      rw [z, h] at e
      cases e
      exact p
    rw [upd_ne hn]
    exact e
  dk := fun a k r => by
    by_cases ha : a = d
    · subst ha
      rcases r with r | ⟨o, r⟩
      · rw [h] at r
        cases r
        exact .inr ⟨ob, upd_same⟩
      · rw [h] at r
        cases r
    · rcases r with r | ⟨o, r⟩
      · exact .inl (by rw [upd_ne ha]; exact r)
      · exact .inr ⟨o, by rw [upd_ne ha]; exact r⟩
  dt := fun a k r => by
    by_cases ha : a = d
    · subst ha
      rcases r with r | ⟨o, r⟩
      · rw [h] at r
        cases r
      · rw [h] at r
        cases r
    · rcases r with r | ⟨o, r⟩
      · exact .inl (by rw [upd_ne ha]; exact r)
      · exact .inr ⟨o, by rw [upd_ne ha]; exact r⟩
theorem le_unlock {F : Hp} {d : Addr} {ob : Obj} {kvs : List (Key × V)} (h : F d = some (.frz ob (.dK kvs))) : Le F (upd F d (.dK kvs)) where
  pl := fun a o p e => by
    have hn : a ≠ d := fun z => by
      rw [z, h] at e
      cases e
      exact p
    rw [upd_ne hn]
    exact e
  dk := fun a k r => by
    by_cases ha : a = d
    · subst ha
      rcases r with r | ⟨o, r⟩
      · rw [h] at r
        cases r
      · rw [h] at r
        cases r
        exact .inl upd_same
    · rcases r with r | ⟨o, r⟩
      · exact .inl (by rw [upd_ne ha]; exact r)
      · exact .inr ⟨o, by rw [upd_ne ha]; exact r⟩
  dt := fun a k r => by
    by_cases ha : a = d
    · subst ha
      rcases r with r | ⟨o, r⟩
      · rw [h] at r
        cases r
      · rw [h] at r
        cases r
    · rcases r with r | ⟨o, r⟩
      · exact .inl (by rw [upd_ne ha]; exact r)
      · exact .inr ⟨o, by rw [upd_ne ha]; exact r⟩
/-! ### data -/
/-- how a Lean value stands in a heap -/
abbrev Rp (α : Type) := Hp → α → V → Prop
class Mono {α : Type} (R : Rp α) : Prop where
  le : ∀ {F F' : Hp} {x : α} {v : V}, Le F F' → R F x v → R F' x v
class MonoS {α : Type} (R : Rp α) : Prop where
  up : ∀ {F F' : Hp} {x : α} {v : V}, Same F F' → R F x v → R F' x v
instance {α : Type} {R : Rp α} [M : Mono R] : MonoS R := ⟨fun s h => M.le (Le.of s) h⟩
theorem up {α : Type} {R : Rp α} [M : MonoS R] {F F' : Hp} {x : α} {v : V} (s : Same F F') (h : R F x v) : R F' x v := M.up s h
inductive All2 {α β : Type} (R : α → β → Prop) : List α → List β → Prop
  | nil : All2 R [] []
  | cons {x y xs ys} : R x y → All2 R xs ys → All2 R (x :: xs) (y :: ys)
namespace All2
variable {α β : Type} {R S : α → β → Prop}
theorem mono (f : ∀ x y, R x y → S x y) : ∀ {xs ys}, All2 R xs ys → All2 S xs ys
  | _, _, .nil => .nil
  | _, _, .cons h t => .cons (f _ _ h) (mono f t)
theorem length : ∀ {xs : List α} {ys : List β}, All2 R xs ys → xs.length = ys.length
  | _, _, .nil => rfl
  | _, _, .cons _ t => by rw [List.length_cons, List.length_cons, length t]
theorem get : ∀ {xs : List α} {ys : List β} {i : Nat} {x : α}, All2 R xs ys → xs[i]? = some x → ∃ y, ys[i]? = some y ∧ R x y
  | _, _, _, _, .nil, e => by simp at e
  | _, _, 0, _, .cons h _, e => by
    simp at e
    subst e
    exact ⟨_, rfl, h⟩
  | _, _, i + 1, _, .cons _ t, e => by
    obtain ⟨y, a, b⟩ := get (i := i) t (by simpa using e)
    exact ⟨y, by simpa using a, b⟩
theorem get' : ∀ {xs : List α} {ys : List β} {i : Nat} {y : β}, All2 R xs ys → ys[i]? = some y → ∃ x, xs[i]? = some x ∧ R x y
  | _, _, _, _, .nil, e => by simp at e
  | _, _, 0, _, .cons h _, e => by
    simp at e
    subst e
    exact ⟨_, rfl, h⟩
  | _, _, i + 1, _, .cons _ t, e => by
    obtain ⟨y, a, b⟩ := get' (i := i) t (by simpa using e)
    exact ⟨y, by simpa using a, b⟩
theorem app : ∀ {xs xs' : List α} {ys ys' : List β}, All2 R xs ys → All2 R xs' ys' → All2 R (xs ++ xs') (ys ++ ys')
  | _, _, _, _, .nil, h => h
  | _, _, _, _, .cons h t, k => .cons h (app t k)
theorem snoc {xs : List α} {ys : List β} {x : α} {y : β} (a : All2 R xs ys) (h : R x y) : All2 R (xs ++ [x]) (ys ++ [y]) := a.app (.cons h .nil)
theorem set : ∀ {xs : List α} {ys : List β} {x : α} {y : β} (i : Nat), All2 R xs ys → R x y → All2 R (xs.set i x) (ys.set i y)
  | _, _, _, _, _, .nil, _ => .nil
  | _, _, _, _, 0, .cons _ t, h => .cons h t
  | _, _, _, _, i + 1, .cons k t, h => .cons k (set i t h)
theorem eqmap {f : α → β} : ∀ {xs : List α} {ys : List β}, All2 (fun x y => y = f x) xs ys → ys = xs.map f
  | _, _, .nil => rfl
  | _, _, .cons h t => by rw [h, eqmap t]; rfl
theorem ofmap {f : α → β} : ∀ {xs : List α}, All2 (fun x y => y = f x) xs (xs.map f)
  | [] => .nil
  | _ :: _ => .cons rfl ofmap
theorem rep {x : α} {y : β} (h : R x y) : ∀ n, All2 R (List.replicate n x) (List.replicate n y)
  | 0 => .nil
  | n + 1 => .cons h (rep h n)
theorem reverse : ∀ {xs : List α} {ys : List β}, All2 R xs ys → All2 R xs.reverse ys.reverse
  | _, _, .nil => .nil
  | _, _, .cons h t => by rw [List.reverse_cons, List.reverse_cons]; exact (reverse t).snoc h
theorem mapL {γ : Type} {f : γ → α} : ∀ {xs : List γ} {ys : List β}, All2 (fun x y => R (f x) y) xs ys → All2 R (xs.map f) ys
  | _, _, .nil => .nil
  | _, _, .cons h t => .cons h (mapL t)
theorem unmapL {γ : Type} {f : γ → α} : ∀ {xs : List γ} {ys : List β}, All2 R (xs.map f) ys → All2 (fun x y => R (f x) y) xs ys
  | [], _, .nil => .nil
  | _ :: _, _, .cons h t => .cons h (unmapL t)
end All2
def rInt : Rp Int := fun _ i v => v = .int i
def rNat : Rp Nat := fun _ n v => v = .int (n : Int)
def rBool : Rp Bool := fun _ b v => v = .bl b
def rPair {α β : Type} (R : Rp α) (S : Rp β) : Rp (α × β) := fun F x v => ∃ a u w, v = .ref a ∧ F a = some (.tup [u, w]) ∧ R F x.1 u ∧ S F x.2 w
def rTri {α β γ : Type} (R : Rp α) (S : Rp β) (T : Rp γ) : Rp (α × β × γ) := fun F x v => ∃ a u w z, v = .ref a ∧ F a = some (.tup [u, w, z]) ∧ R F x.1 u ∧ S F x.2.1 w ∧ T F x.2.2 z
def rList {α : Type} (R : Rp α) : Rp (List α) := fun F xs v => ∃ a vs, v = .ref a ∧ F a = some (.lst vs) ∧ All2 (R F) xs vs
def rTup {α : Type} (R : Rp α) : Rp (List α) := fun F xs v => ∃ a vs, v = .ref a ∧ F a = some (.tup vs) ∧ All2 (R F) xs vs
def rOpt {α : Type} (R : Rp α) : Rp (Option α) := fun F x v => match x with
  | none => v = .non
  | some y => R F y v
/-- a list or a tuple -/
def rSeq {α : Type} (R : Rp α) : Rp (List α) := fun F xs v => rList R F xs v ∨ rTup R F xs v
/-- the pairs of a dict with int keys -/
def kvR {α : Type} (R : Rp α) (F : Hp) : List (Int × α) → List (Key × V) → Prop := All2 fun p q => q.1 = .inl p.1 ∧ R F p.2 q.2
def rDict {α : Type} (R : Rp α) : Rp (List (Int × α)) := fun F xs v => ∃ a kvs, v = .ref a ∧ Rd F a (.dK kvs) ∧ kvR R F xs kvs
instance : Mono rInt := ⟨fun _ h => h⟩
instance : Mono rNat := ⟨fun _ h => h⟩
instance : Mono rBool := ⟨fun _ h => h⟩
instance {α β : Type} {R : Rp α} {S : Rp β} [Mono R] [Mono S] : Mono (rPair R S) := ⟨fun l ⟨a, u, w, e, h, r, s⟩ => ⟨a, u, w, e, l.pl _ _ True.intro h, Mono.le l r, Mono.le l s⟩⟩
instance {α β γ : Type} {R : Rp α} {S : Rp β} {T : Rp γ} [Mono R] [Mono S] [Mono T] : Mono (rTri R S T) :=
  ⟨fun l ⟨a, u, w, z, e, h, r, s, t⟩ => ⟨a, u, w, z, e, l.pl _ _ True.intro h, Mono.le l r, Mono.le l s, Mono.le l t⟩⟩
instance {α : Type} {R : Rp α} [Mono R] : Mono (rList R) := ⟨fun l ⟨a, vs, e, h, r⟩ => ⟨a, vs, e, l.pl _ _ True.intro h, r.mono fun _ _ => Mono.le l⟩⟩
instance {α : Type} {R : Rp α} [Mono R] : Mono (rTup R) := ⟨fun l ⟨a, vs, e, h, r⟩ => ⟨a, vs, e, l.pl _ _ True.intro h, r.mono fun _ _ => Mono.le l⟩⟩
instance {α : Type} {R : Rp α} [Mono R] : Mono (rSeq R) := ⟨fun l h => h.elim (fun h => .inl (Mono.le l h)) fun h => .inr (Mono.le l h)⟩
instance {α : Type} {R : Rp α} [Mono R] : Mono (rOpt R) := ⟨fun {_ _ x _} l h => by
  cases x with
  | none => exact h
  | some y => exact Mono.le (R := R) l h⟩
theorem kvR.le {α : Type} {R : Rp α} [Mono R] {F F' : Hp} {xs kvs} (l : Le F F') (h : kvR R F xs kvs) : kvR R F' xs kvs := h.mono fun _ _ p => ⟨p.1, Mono.le l p.2⟩
instance {α : Type} {R : Rp α} [Mono R] : Mono (rDict R) := ⟨fun l ⟨a, kvs, e, h, r⟩ => ⟨a, kvs, e, l.dk _ _ h, r.le l⟩⟩
def rDictX {α : Type} (R : Rp α) : Rp (List (Int × α)) := fun F xs v => ∃ a kvs, v = .ref a ∧ F a = some (.dK kvs) ∧ kvR R F xs kvs
section
variable {α β γ : Type} {R : Rp α} {S : Rp β} {T : Rp γ}
instance [MonoS R] [MonoS S] : MonoS (rPair R S) := ⟨fun l ⟨a, u, w, e, h, r, s⟩ => ⟨a, u, w, e, l _ _ h, up l r, up l s⟩⟩
instance [MonoS R] [MonoS S] [MonoS T] : MonoS (rTri R S T) := ⟨fun l ⟨a, u, w, z, e, h, r, s, t⟩ => ⟨a, u, w, z, e, l _ _ h, up l r, up l s, up l t⟩⟩
instance [MonoS R] : MonoS (rList R) := ⟨fun l ⟨a, vs, e, h, r⟩ => ⟨a, vs, e, l _ _ h, r.mono fun _ _ => up l⟩⟩
instance [MonoS R] : MonoS (rTup R) := ⟨fun l ⟨a, vs, e, h, r⟩ => ⟨a, vs, e, l _ _ h, r.mono fun _ _ => up l⟩⟩
instance [MonoS R] : MonoS (rSeq R) := ⟨fun l h => h.elim (fun h => .inl (up l h)) fun h => .inr (up l h)⟩
instance [MonoS R] : MonoS (rOpt R) := ⟨fun {_ _ x _} l h => by
  cases x with
  | none => exact h
  | some y => exact up (R := R) l h⟩
theorem kvR.up [MonoS R] {F F' : Hp} {xs kvs} (l : Same F F') (h : kvR R F xs kvs) : kvR R F' xs kvs := h.mono fun _ _ p => ⟨p.1, Tf.up l p.2⟩
instance [MonoS R] : MonoS (rDict R) := ⟨fun l ⟨a, kvs, e, h, r⟩ => ⟨a, kvs, e, rd_same l h, r.up l⟩⟩
instance [MonoS R] : MonoS (rDictX R) := ⟨fun l ⟨a, kvs, e, h, r⟩ => ⟨a, kvs, e, l _ _ h, r.up l⟩⟩
theorem dictX {F : Hp} {xs v} (h : rDictX R F xs v) : rDict R F xs v := let ⟨a, kvs, e, h, r⟩ := h; ⟨a, kvs, e, .inl h, r⟩
theorem all2_up [MonoS R] {F F' : Hp} {xs : List α} {vs : List V} (l : Same F F') (h : All2 (R F) xs vs) : All2 (R F') xs vs := h.mono fun _ _ => up l
theorem list_imp {R' : Rp α} {F : Hp} {xs v} (f : ∀ x v, R F x v → R' F x v) (h : rList R F xs v) : rList R' F xs v := let ⟨a, vs, e, h, r⟩ := h; ⟨a, vs, e, h, r.mono f⟩
end
/-! ### dicts over Lean values -/
section
variable {α : Type}
def getD (d : List (Int × α)) (k : Int) : Option α := (d.find? fun p => decide (p.1 = k)).map (·.2)
def putD (d : List (Int × α)) (k : Int) (x : α) : List (Int × α) :=
  if (d.any fun p => decide (p.1 = k)) = true then d.map (fun p => if p.1 = k then (p.1, x) else p) else d ++ [(k, x)]
variable {R : Rp α} {F : Hp}
theorem key_inj {a b : Int} : (Sum.inl a : Key) = Sum.inl b ↔ a = b := ⟨Sum.inl.inj, fun e => by rw [e]⟩
theorem kvR.get {d : List (Int × α)} {kvs : List (Key × V)} (h : kvR R F d kvs) (k : Int) : (getD d k = none ∧ valV kvs (Sum.inl k) = none) ∨ ∃ x v, getD d k = some x ∧ valV kvs (Sum.inl k) = some v ∧ R F x v := by
  induction h with
  | nil => exact .inl ⟨rfl, rfl⟩
  | @cons p q d kvs hp t ih =>
    by_cases e : p.1 = k
    · refine .inr ⟨p.2, q.2, ?_, valV_pos (by rw [hp.1, e]), hp.2⟩
      simp [getD, List.find?_cons, e]
    · have e1 : getD (p :: d) k = getD d k := by simp [getD, List.find?_cons, e]
      have e2 : valV (q :: kvs) (Sum.inl k) = valV kvs (Sum.inl k) := valV_neg (by rw [hp.1]; exact fun z => e (key_inj.mp z))
      rw [e1, e2]
      exact ih
theorem kvR.any {d : List (Int × α)} {kvs : List (Key × V)} (h : kvR R F d kvs) (k : Int) : (kvs.any fun p => decide (p.1 = (Sum.inl k : Key))) = d.any fun p => decide (p.1 = k) := by
  induction h with
  | nil => rfl
  | @cons p q d kvs hp t ih =>
    rw [List.any_cons, List.any_cons, ih, hp.1]
    congr 1
    by_cases e : p.1 = k
    · rw [decide_eq_true e, decide_eq_true (key_inj.mpr e)]
    · rw [decide_eq_false e, decide_eq_false fun z => e (key_inj.mp z)]
theorem kvR.put {d : List (Int × α)} {kvs : List (Key × V)} {x : α} {v : V} (h : kvR R F d kvs) (k : Int) (hv : R F x v) : kvR R F (putD d k x) (putK kvs (Sum.inl k) v) := by
  unfold putD putK
  rw [h.any k]
  split
  · clear ‹_ = true›
    induction h with
    | nil => exact .nil
    | @cons p q d kvs hp t ih =>
      refine .cons ?_ ih
      by_cases e : p.1 = k
      · dsimp only
        rw [if_pos e, if_pos (by rw [hp.1, e])]
        exact ⟨by rw [hp.1], hv⟩
      · dsimp only
        rw [if_neg e, if_neg (by rw [hp.1]; exact fun z => e (key_inj.mp z))]
        exact hp
  · exact All2.snoc h ⟨rfl, hv⟩
theorem kvR.keys {d : List (Int × α)} {kvs : List (Key × V)} (h : kvR R F d kvs) : kvs.map (fun p => kV p.1) = (d.map (·.1)).map V.int := by
  induction h with
  | nil => rfl
  | @cons p q d kvs hp t ih =>
    rw [List.map_cons, List.map_cons, List.map_cons, ih, hp.1]
    rfl
theorem getD_nil {k : Int} : getD ([] : List (Int × α)) k = none := rfl
theorem getD_cons {p : Int × α} {d : List (Int × α)} {k : Int} : getD (p :: d) k = if p.1 = k then some p.2 else getD d k := by
  by_cases e : p.1 = k
  · rw [if_pos e]
    simp [getD, List.find?_cons, e]
  · rw [if_neg e]
    simp [getD, List.find?_cons, e]
theorem getD_mem {d : List (Int × α)} {k : Int} {x : α} (h : getD d k = some x) : (k, x) ∈ d := by
  induction d with
  | nil => cases h
  | cons p d ih =>
    rw [getD_cons] at h
    by_cases e : p.1 = k
    · rw [if_pos e] at h
      cases h
      rw [← e]
      exact List.mem_cons_self
    · rw [if_neg e] at h
      exact List.mem_cons_of_mem _ (ih h)
theorem getD_none {d : List (Int × α)} {k : Int} : getD d k = none ↔ k ∉ d.map (·.1) := by
  induction d with
  | nil => exact ⟨fun _ h => (nomatch h), fun _ => rfl⟩
  | cons p d ih =>
    rw [getD_cons, List.map_cons, List.mem_cons]
    by_cases e : p.1 = k
    · rw [if_pos e]
      exact ⟨fun h => (nomatch h), fun h => (h (.inl e.symm)).elim⟩
    · rw [if_neg e, ih]
      exact ⟨fun h z => z.elim (fun z => e z.symm) h, fun h z => h (.inr z)⟩
theorem getD_app {d d' : List (Int × α)} {k : Int} : getD (d ++ d') k = (getD d k).or (getD d' k) := by
  induction d with
  | nil => rfl
  | cons p d ih =>
    rw [List.cons_append, getD_cons, getD_cons, ih]
    split <;> rfl
theorem getD_repl {d : List (Int × α)} {k j : Int} {x : α} : getD (d.map (fun p => if p.1 = k then (p.1, x) else p)) j = if j = k then (getD d j).map fun _ => x else getD d j := by
  induction d with
  | nil =>
    show (none : Option α) = if j = k then none else none
    split <;> rfl
  | cons p d ih =>
    rw [List.map_cons, getD_cons, getD_cons, ih]
    by_cases e : p.1 = k
    · rw [if_pos e]
      by_cases ej : p.1 = j
      · have z : j = k := ej.symm.trans e
        simp [ej, z]
      · have z : ¬ j = k := fun z => ej (e.trans z.symm)
        simp [ej, z]
    · rw [if_neg e]
      by_cases ej : p.1 = j
      · have z : ¬ j = k := fun z => e (ej.trans z)
        simp [ej, z]
      · simp [ej]
theorem getD_put {d : List (Int × α)} {k j : Int} {x : α} : getD (putD d k x) j = if j = k then some x else getD d j := by
  unfold putD
  by_cases h : (d.any fun p => decide (p.1 = k)) = true
  · rw [if_pos h, getD_repl]
    by_cases e : j = k
    · rw [if_pos e, if_pos e]
      cases q : getD d j with
      | some y => rfl
      | none =>
        obtain ⟨p, hp, z⟩ := List.any_eq_true.mp h
        exact (getD_none.mp q (by rw [e, ← of_decide_eq_true z]; exact List.mem_map_of_mem hp)).elim
    · rw [if_neg e, if_neg e]
  · rw [if_neg h, getD_app]
    by_cases e : j = k
    · rw [if_pos e]
      have q : getD d j = none := getD_none.mpr fun z => by
        obtain ⟨p, hp, ep⟩ := List.mem_map.mp z
        exact h (List.any_eq_true.mpr ⟨p, hp, decide_eq_true (ep.trans e)⟩)
      rw [q, getD_cons, if_pos (show ((k, x) : Int × α).1 = j from e.symm)]
      rfl
    · rw [if_neg e, getD_cons, if_neg (show ¬ ((k, x) : Int × α).1 = j from fun z => e z.symm), getD_nil]
      cases getD d j <;> rfl
theorem putD_keys {d : List (Int × α)} {k : Int} {x : α} : (putD d k x).map (·.1) = if k ∈ d.map (·.1) then d.map (·.1) else d.map (·.1) ++ [k] := by
  unfold putD
  by_cases h : (d.any fun p => decide (p.1 = k)) = true
  · rw [if_pos h]
    obtain ⟨p, hp, e⟩ := List.any_eq_true.mp h
    have hm : k ∈ d.map (·.1) := List.mem_map.mpr ⟨p, hp, of_decide_eq_true e⟩
    rw [if_pos hm, List.map_map]
    exact List.map_congr_left fun q _ => by
      show (if q.1 = k then (q.1, x) else q).1 = q.1
      split <;> rfl
  · rw [if_neg h]
    have hm : k ∉ d.map (·.1) := fun z => by
      obtain ⟨p, hp, e⟩ := List.mem_map.mp z
      exact h (List.any_eq_true.mpr ⟨p, hp, decide_eq_true e⟩)
    rw [if_neg hm, List.map_append]
    rfl
theorem putD_nodup {d : List (Int × α)} {k : Int} {x : α} (h : (d.map (·.1)).Nodup) : ((putD d k x).map (·.1)).Nodup := by
  rw [putD_keys]
  split
  · exact h
  · exact nd_snoc h ‹_›
theorem putD_len {d : List (Int × α)} {k : Int} {x : α} : (putD d k x).length ≤ d.length + 1 := by
  unfold putD
  split
  · rw [List.length_map]
    exact Nat.le_succ _
  · rw [List.length_append]
    exact Nat.le_refl _
theorem getD_some {d : List (Int × α)} {k : Int} (h : k ∈ d.map (·.1)) : ∃ x, getD d k = some x := by
  cases e : getD d k with
  | none => exact (getD_none.mp e h).elim
  | some x => exact ⟨x, rfl⟩
theorem getD_of {d : List (Int × α)} {k : Int} {x : α} (hn : (d.map (·.1)).Nodup) (h : (k, x) ∈ d) : getD d k = some x := by
  induction d with
  | nil => cases h
  | cons p d ih =>
    obtain ⟨h1, h2⟩ := List.nodup_cons.mp hn
    rw [getD_cons]
    rcases List.mem_cons.mp h with rfl | h
    · rw [if_pos rfl]
    · have e : ¬ p.1 = k := fun z => h1 (List.mem_map.mpr ⟨(k, x), h, z.symm⟩)
      rw [if_neg e]
      exact ih h2 h
end
end Tf
/-! steps of a reading -/
namespace Tf
open PySem PySem.Spec PyProof.Rows L2
section
variable {K : PySem.W.Frag} {σ : L2.St} {H F : Hp} {m : Mem} {D : Ends} {t u : TS} {te ta tb : TE} {g : TG} {Q : VK} {c : TT} {v w : V} {i : Nat}
def NewT (xs : List V) (Q : VK) (H : Hp) : Prop := xs.length ≤ sizeLine ∧ ∀ p, H p = none → Q (.ref p) (upd H p (.tup xs))
def NewL (xs : List V) (Q : VK) (H : Hp) : Prop := xs.length ≤ sizeLine ∧ ∀ p, H p = none → Q (.ref p) (upd H p (.lst xs))
/-! statements -/
theorem x_seq (k : t { D with nx := u D } σ H) : tSeq t u D σ H := k
theorem x_asg (k : te σ H fun x H1 => g x σ H1 D.nx) : tAsg te g D σ H := k
theorem x_name {Q : L2.St → Hp → Prop} (k : Q (σ.set i (some v)) H) : gName i v σ H Q := k
theorem x_drop (k : te σ H fun _ H1 => D.nx σ H1) : tDrop te D σ H := k
theorem x_ret (k : te σ H D.rt) : tRet te D σ H := k
theorem x_retN (k : D.rt .non H) : tRetN D σ H := k
theorem x_next (k : D.nx σ H) : tNext D σ H := k
theorem x_brk (k : D.bk σ H) : tBreak D σ H := k
theorem x_cont (k : D.ct σ H) : tCont D σ H := k
theorem x_nx {f r b d} (k : f σ H) : Ends.nx ⟨f, r, b, d⟩ σ H := k
theorem x_rt {f r b d} (k : r v H) : Ends.rt ⟨f, r, b, d⟩ v H := k
theorem x_bk {f r b d} (k : b σ H) : Ends.bk ⟨f, r, b, d⟩ σ H := k
theorem x_ct {f r b d} (k : d σ H) : Ends.ct ⟨f, r, b, d⟩ σ H := k
theorem x_if (k : c σ H fun b H1 => if b = true then t D σ H1 else u D σ H1) : tIfS c t u D σ H := k
theorem x_ite {b : Bool} {A B : Prop} (h1 : b = true → A) (h2 : b = false → B) : if b = true then A else B := by
  cases b with
  | true => exact h1 rfl
  | false => exact h2 rfl
theorem x_iteD {p : Prop} [Decidable p] {A B : Prop} (h1 : p → A) (h2 : ¬ p → B) : if decide p = true then A else B := by
  by_cases h : p
  · rw [decide_eq_true h]
    exact h1 h
  · rw [decide_eq_false h]
    exact h2 h
theorem x_iteDn {p : Prop} [Decidable p] {A B : Prop} (h1 : ¬ p → A) (h2 : p → B) : if (!decide p) = true then A else B := by
  by_cases h : p
  · rw [decide_eq_true h]
    exact h2 h
  · rw [decide_eq_false h]
    exact h1 h
theorem x_iteT {b : Bool} {A B : Prop} (h : b = true) (k : A) : if b = true then A else B := by
  rw [if_pos h]
  exact k
theorem x_iteF {b : Bool} {A B : Prop} (h : b = false) (k : B) : if b = true then A else B := by
  rw [h]
  exact k
theorem x_aug {ti : TIp} (h : σ[i]? = some (some v)) (k : te σ H fun y H1 => ti v y H1 fun z H2 => D.nx (σ.set i (some z)) H2) : tAug i te ti D σ H := ⟨v, h, k⟩
theorem x_ipI {f : Int → Int → Int} {a b : Int} (k : Q (.int (f a b)) H) : ipI f (.int a) (.int b) H Q := ⟨a, b, rfl, rfl, k⟩
/-! expressions -/
theorem x_var (h : σ[i]? = some (some v)) (k : Q v H) : tVar i σ H Q := ⟨v, h, k⟩
theorem x_c (k : Q v H) : tC v σ H Q := k
theorem x_op {r : R2} (k : ta σ H fun x H1 => tb σ H1 fun y H2 => r x y H2 Q) : tOp r ta tb σ H Q := k
theorem x_un {r : V → Hp → VK → Prop} (k : ta σ H fun x H1 => r x H1 Q) : tUn r ta σ H Q := k
theorem x_I0 {f : Int → Int → V} {a b : Int} (k : Q (f a b) H) : rI0 f (.int a) (.int b) H Q := ⟨a, b, rfl, rfl, k⟩
theorem x_I {C : Int → Int → Prop} {f : Int → Int → V} {a b : Int} (h : C a b) (k : Q (f a b) H) : rI C f (.int a) (.int b) H Q := ⟨a, b, rfl, rfl, h, k⟩
theorem x_U {f : Int → V} {a : Int} (k : Q (f a) H) : rU f (.int a) H Q := ⟨a, rfl, k⟩
theorem x_eqI {a b : Int} (k : Q (.bl (decide (a = b))) H) : rEq (.int a) (.int b) H Q := ⟨rfl, by
  have e : decide (V.int a = V.int b) = decide (a = b) := by
    by_cases z : a = b
    · subst z
      simp
    · rw [decide_eq_false z, decide_eq_false fun q => z (V.int.inj q)]
  rw [e]
  exact k⟩
theorem x_neI {a b : Int} (k : Q (.bl (!decide (a = b))) H) : rNe (.int a) (.int b) H Q := ⟨rfl, by
  have e : decide (V.int a = V.int b) = decide (a = b) := by
    by_cases z : a = b
    · subst z
      simp
    · rw [decide_eq_false z, decide_eq_false fun q => z (V.int.inj q)]
  rw [e]
  exact k⟩
theorem x_isN (k : Q (.bl (decide (v = .non))) H) : (fun (x y : V) H Q => y = V.non ∧ Q (.bl (decide (x = .non))) H) v .non H Q := ⟨rfl, k⟩
def BQ (Q : Bool → Hp → Prop) : VK := fun x H' => ∃ b, x = .bl b ∧ Q b H'
theorem x_test {Q : Bool → Hp → Prop} (k : te σ H (BQ Q)) : tTest te σ H Q := k
theorem x_B {Q : Bool → Hp → Prop} (k : te σ H (BQ Q)) : tB te σ H Q := k
theorem x_bl {Q : Bool → Hp → Prop} {b : Bool} (k : Q b H) : BQ Q (.bl b) H := ⟨b, rfl, k⟩
theorem x_and {t u : TT} {Q : Bool → Hp → Prop} (k : t σ H fun b H1 => if b = true then u σ H1 Q else Q false H1) : tAnd t u σ H Q := k
theorem x_or {t u : TT} {Q : Bool → Hp → Prop} (k : t σ H fun b H1 => if b = true then Q true H1 else u σ H1 Q) : tOr t u σ H Q := k
theorem x_not {t : TT} {Q : Bool → Hp → Prop} (k : t σ H fun b H1 => Q (!b) H1) : tNot t σ H Q := k
theorem x_andV (k : ta σ H (BQ fun c H1 => if c = true then tb σ H1 Q else Q (.bl false) H1)) : tAndV ta tb σ H Q := k
theorem x_orV (k : ta σ H (BQ fun c H1 => if c = true then Q (.bl true) H1 else tb σ H1 Q)) : tOrV ta tb σ H Q := k
theorem x_notV (k : ta σ H (BQ fun c H1 => Q (.bl (!c)) H1)) : tNotV ta σ H Q := k
theorem x_ifE {t : TT} (k : t σ H fun c H1 => if c = true then ta σ H1 Q else tb σ H1 Q) : tIf t ta tb σ H Q := k
theorem x_nil {Q : List V → Hp → Prop} (k : Q [] H) : tNil σ H Q := k
theorem x_cons {tr : TA} {Q : List V → Hp → Prop} (k : ta σ H fun x H1 => tr σ H1 fun xs H2 => Q (x :: xs) H2) : tCons ta tr σ H Q := k
theorem x_tup {t : TA} (k : t σ H fun xs H1 => NewT xs Q H1) : tTup t σ H Q := k
theorem x_lst {t : TA} (k : t σ H fun xs H1 => NewL xs Q H1) : tLst t σ H Q := k
theorem x_bm {T : String} {r : V → List V → Hp → VK → Prop} {t : TA} (k : ta σ H fun x H1 => tyV K T x H1 ∧ t σ H1 fun xs H2 => r x xs H2 Q) : tBM K T r ta t σ H Q := k
theorem x_bm0 {T : String} {r : V → List V → Hp → VK → Prop} (k : ta σ H fun x H1 => tyV K T x H1 ∧ r x [] H1 Q) : tBM0 K T r ta σ H Q := k
theorem ty_list {a : Addr} {vs : List V} (h : H a = some (.lst vs)) : tyV K "list" (.ref a) H := .inl ⟨rfl, vs, .inl (.inl h)⟩
theorem x_append {a : Addr} {vs : List V} (O : Own H F ((a, .lst vs) :: m)) (hl : vs.length < 16777216) (k : ∀ H', Own H' F ((a, .lst (vs ++ [v])) :: m) → Q .non H') : rAppend (.ref a) [v] H Q :=
  ⟨a, vs, v, rfl, rfl, O.at0, by rw [sizeLine_eq]; exact hl, k _ (O.set _)⟩
theorem x_pop {a : Addr} {vs : List V} (O : Own H F ((a, .lst (vs ++ [v])) :: m)) (k : ∀ H', Own H' F ((a, .lst vs) :: m) → Q v H') : rPop (.ref a) [] H Q :=
  ⟨a, vs ++ [v], v, rfl, rfl, O.at0, by simp, by
    have e : (vs ++ [v]).dropLast = vs := by simp
    rw [e]
    exact k _ (O.set _)⟩
theorem x_extend {a b : Addr} {vs us : List V} (O : Own H F ((a, .lst vs) :: m)) (h : F b = some (.lst us)) (hl : vs.length + us.length ≤ 16777216) (k : ∀ H', Own H' F ((a, .lst (vs ++ us)) :: m) → Q .non H') : rExtend (.ref a) [.ref b] H Q :=
  ⟨a, b, vs, us, rfl, rfl, O.at0, O.frz h, by rw [sizeLine_eq]; exact hl, k _ (O.set _)⟩
def SFQ (K : PySem.W.Frag) (f : Str) (y : V) (R : Hp → Prop) : VK := fun x H2 => ∃ a C dx fs, x = .ref a ∧ H2 a = some (.ins C dx fs) ∧ Cls K C ∧ NoAttr K C f ∧ fs.length < 1000 ∧ R (upd H2 a (.ins C dx (putF f y fs)))
/-- o.f = e, o of our own -/
theorem x_setF {a C dx : Addr} {fs : List (Str × V)} {f : Str} {R : Hp → Prop} (O : Own H F ((a, .ins C dx fs) :: m)) (c : Cls K C) (n : NoAttr K C f) (hl : fs.length < 1000) (k : ∀ H', Own H' F ((a, .ins C dx (putF f v fs)) :: m) → R H') :
    SFQ K f v R (.ref a) H := ⟨a, C, dx, fs, rfl, O.at0, c, n, hl, k _ (O.set _)⟩
theorem x_sfld {tv : TE} {f : Str} (k : tv σ H fun y H1 => ta σ H1 (SFQ K f y (D.nx σ))) : sFld K ta tv f D σ H := k
theorem x_call {sp : Sp} {E : XK} {t : TA} (k : t σ H fun vs H1 => sp vs H1 Q E) : tCall sp [] E t σ H Q := by
  show t σ H fun vs H1 => sp (vs ++ []) H1 Q E
  have e : (fun vs H1 => sp (vs ++ []) H1 Q E) = fun vs H1 => sp vs H1 Q E := by
    funext vs H1
    rw [List.append_nil]
  rw [e]
  exact k
theorem x_cb {r : List V → Hp → VK → Prop} {t : TA} (k : t σ H fun vs H1 => r vs H1 Q) : tCB r t σ H Q := k
def FQ (K : PySem.W.Frag) (f : Str) (Q : VK) : VK := fun x H1 => ∃ a C dx fs v, x = .ref a ∧ H1 a = some (.ins C dx fs) ∧ Cls K C ∧ NoAttr K C f ∧ fs.lookup f = some v ∧ Q v H1
theorem x_fld {f : Str} (k : ta σ H (FQ K f Q)) : tFld K ta f σ H Q := k
theorem x_sub {to ti : TE} {ts : TSet} {Q : L2.St → Hp → Prop} (k : to σ H fun o H1 => ti σ H1 fun i H2 => ts o i v H2 fun H3 => Q σ H3) : gSub to ti ts v σ H Q := k
theorem x_setL {a : Addr} {j : Nat} {vs : List V} {z : Int} {Q : Hp → Prop} (O : Own H F ((a, .lst vs) :: m)) (hz : z = (j : Int)) (hj : j < vs.length)
    (k : Own (upd H a (.lst (vs.set j v))) F ((a, .lst (vs.set j v)) :: m) → Q (upd H a (.lst (vs.set j v)))) : rSetL (.ref a) (.int z) v H Q := by
  refine ⟨a, vs, z, j, rfl, rfl, O.at0, ?_, k (O.set _)⟩
  subst hz
  unfold ixN
  rw [if_pos (by omega), if_pos (by omega)]
  simp
/-! new things -/
theorem x_newPair {α β : Type} {R : Rp α} {S : Rp β} [MonoS R] [MonoS S] {x : α} {y : β} {a b : V} (O : Own H F m) (hR : R F x a) (hS : S F y b)
    (k : ∀ v H' F', Same F F' → Own H' F' m → rPair R S F' (x, y) v → Q v H') : NewT [a, b] Q H :=
  ⟨by show 2 ≤ sizeLine; decide, fun p hp => k _ _ _ (same_new (O.fresh hp)) (O.new hp) ⟨p, a, b, rfl, upd_same, up (same_new (O.fresh hp)) hR, up (same_new (O.fresh hp)) hS⟩⟩
theorem x_newTri {α β γ : Type} {R : Rp α} {S : Rp β} {T : Rp γ} [MonoS R] [MonoS S] [MonoS T] {x : α} {y : β} {z : γ} {a b c : V} (O : Own H F m) (hR : R F x a) (hS : S F y b) (hT : T F z c)
    (k : ∀ v H' F', Same F F' → Own H' F' m → rTri R S T F' (x, y, z) v → Q v H') : NewT [a, b, c] Q H :=
  ⟨by show 3 ≤ sizeLine; decide, fun p hp => k _ _ _ (same_new (O.fresh hp)) (O.new hp) ⟨p, a, b, c, rfl, upd_same, up (same_new (O.fresh hp)) hR, up (same_new (O.fresh hp)) hS, up (same_new (O.fresh hp)) hT⟩⟩
theorem x_newL {α : Type} {R : Rp α} [MonoS R] {xs : List α} {vs : List V} (O : Own H F m) (hl : vs.length ≤ 16777216) (hR : All2 (R F) xs vs)
    (k : ∀ v H' F', Same F F' → Own H' F' m → rList R F' xs v → Q v H') : NewL vs Q H :=
  ⟨by rw [sizeLine_eq]; exact hl, fun p hp => k _ _ _ (same_new (O.fresh hp)) (O.new hp) ⟨p, vs, rfl, upd_same, all2_up (same_new (O.fresh hp)) hR⟩⟩
theorem x_newT {α : Type} {R : Rp α} [MonoS R] {xs : List α} {vs : List V} (O : Own H F m) (hl : vs.length ≤ 16777216) (hR : All2 (R F) xs vs)
    (k : ∀ v H' F', Same F F' → Own H' F' m → rTup R F' xs v → Q v H') : NewT vs Q H :=
  ⟨by rw [sizeLine_eq]; exact hl, fun p hp => k _ _ _ (same_new (O.fresh hp)) (O.new hp) ⟨p, vs, rfl, upd_same, all2_up (same_new (O.fresh hp)) hR⟩⟩
/-- a new list of our own -/
theorem x_ownL {vs : List V} (O : Own H F m) (hl : vs.length ≤ 16777216) (k : ∀ p H', H p = none → Own H' F ((p, .lst vs) :: m) → Q (.ref p) H') : NewL vs Q H :=
  ⟨by rw [sizeLine_eq]; exact hl, fun p hp => k p _ hp (O.own hp)⟩
/-- a new dict of our own -/
theorem x_ownD (O : Own H F m) (k : ∀ p H', H p = none → Own H' F ((p, .dK []) :: m) → Q (.ref p) H') : tDNewK σ H Q := fun p hp => k p _ hp (O.own hp)
/-! reads -/
variable {α β γ : Type} {R : Rp α} {S : Rp β} {T : Rp γ}
theorem atI_of {vs : List V} {z : Int} {j : Nat} {w : V} (e : z = (j : Int)) (h : vs[j]? = some w) : atI vs z = some w := by
  rw [e]
  exact atI_nat h
theorem x_ixL {xs : List α} {z : Int} {j : Nat} {x : α} (O : Own H F m) (h : rList R F xs v) (e : z = (j : Int)) (hx : xs[j]? = some x) (k : ∀ w, R F x w → Q w H) : rIxL K v (.int z) H Q := by
  obtain ⟨a, vs, rfl, ha, r⟩ := h
  obtain ⟨w, hw, hr⟩ := r.get hx
  exact ⟨a, vs, z, w, rfl, rfl, .inl (.inl (O.frz ha)), atI_of e hw, k w hr⟩
theorem x_ixT {xs : List α} {z : Int} {j : Nat} {x : α} (O : Own H F m) (h : rTup R F xs v) (e : z = (j : Int)) (hx : xs[j]? = some x) (k : ∀ w, R F x w → Q w H) : rIxT K v (.int z) H Q := by
  obtain ⟨a, vs, rfl, ha, r⟩ := h
  obtain ⟨w, hw, hr⟩ := r.get hx
  exact ⟨a, vs, z, w, rfl, rfl, .inl (.inl (O.frz ha)), atI_of e hw, k w hr⟩
/-- a list of our own -/
theorem x_ixO {a : Addr} {vs : List V} {z : Int} {j : Nat} (O : Own H F ((a, .lst vs) :: m)) (e : z = (j : Int)) (hx : vs[j]? = some w) (k : Q w H) : rIxL K (.ref a) (.int z) H Q :=
  ⟨a, vs, z, w, rfl, rfl, .inl (.inl O.at0), atI_of e hx, k⟩
/-- the first, the second of a pair -/
theorem x_fst {p : α × β} (O : Own H F m) (h : rPair R S F p v) (k : ∀ w, R F p.1 w → Q w H) : rIxT K v (.int 0) H Q := by
  obtain ⟨a, u, w, rfl, ha, r, s⟩ := h
  exact ⟨a, [u, w], 0, u, rfl, rfl, .inl (.inl (O.frz ha)), rfl, k u r⟩
theorem x_snd {p : α × β} (O : Own H F m) (h : rPair R S F p v) (k : ∀ w, S F p.2 w → Q w H) : rIxT K v (.int 1) H Q := by
  obtain ⟨a, u, w, rfl, ha, r, s⟩ := h
  exact ⟨a, [u, w], 1, w, rfl, rfl, .inl (.inl (O.frz ha)), rfl, k w s⟩
theorem x_tri0 {p : α × β × γ} (O : Own H F m) (h : rTri R S T F p v) (k : ∀ w, R F p.1 w → Q w H) : rIxT K v (.int 0) H Q := by
  obtain ⟨a, u, w, z, rfl, ha, r, s, t⟩ := h
  exact ⟨a, [u, w, z], 0, u, rfl, rfl, .inl (.inl (O.frz ha)), rfl, k u r⟩
theorem x_tri1 {p : α × β × γ} (O : Own H F m) (h : rTri R S T F p v) (k : ∀ w, S F p.2.1 w → Q w H) : rIxT K v (.int 1) H Q := by
  obtain ⟨a, u, w, z, rfl, ha, r, s, t⟩ := h
  exact ⟨a, [u, w, z], 1, w, rfl, rfl, .inl (.inl (O.frz ha)), rfl, k w s⟩
theorem x_tri2 {p : α × β × γ} (O : Own H F m) (h : rTri R S T F p v) (k : ∀ w, T F p.2.2 w → Q w H) : rIxT K v (.int 2) H Q := by
  obtain ⟨a, u, w, z, rfl, ha, r, s, t⟩ := h
  exact ⟨a, [u, w, z], 2, z, rfl, rfl, .inl (.inl (O.frz ha)), rfl, k z t⟩
/-- a, b = e; for a, b in .. -/
theorem x_gcons {t : TG} {u : TGs} {r : List V} {Q : L2.St → Hp → Prop} (k : t v σ H fun σ' H' => u r σ' H' Q) : gCons t u (v :: r) σ H Q := ⟨v, r, rfl, k⟩
theorem x_gnil {Q : L2.St → Hp → Prop} (k : Q σ H) : gNil [] σ H Q := ⟨rfl, k⟩
theorem x_gpair {gs : TGs} {p : α × β} {Q : L2.St → Hp → Prop} (O : Own H F m) (h : rPair R S F p v) (k : ∀ a b, R F p.1 a → S F p.2 b → gs [a, b] σ H Q) : gTup K 2 gs v σ H Q := by
  obtain ⟨a, u, w, rfl, ha, r, s⟩ := h
  exact ⟨a, [u, w], rfl, .inl (.inl (O.frz ha)), rfl, k u w r s⟩
theorem x_gtri {gs : TGs} {p : α × β × γ} {Q : L2.St → Hp → Prop} (O : Own H F m) (h : rTri R S T F p v) (k : ∀ a b c, R F p.1 a → S F p.2.1 b → T F p.2.2 c → gs [a, b, c] σ H Q) : gTup K 3 gs v σ H Q := by
  obtain ⟨a, u, w, z, rfl, ha, r, s, t⟩ := h
  exact ⟨a, [u, w, z], rfl, .inl (.inl (O.frz ha)), rfl, k u w z r s t⟩
/-! len -/
def rLen (K : PySem.W.Frag) : List V → Hp → VK → Prop := fun xs H Q => ∃ p ys, xs = [.ref p] ∧ (SqL K H p ys ∨ SqT K H p ys) ∧ Q (.int ys.length) H
theorem cr_len {X : Cx} : CallR X (.builtin "len") (rLen X.K) := call_len_seq
theorem x_lenL {xs : List α} (O : Own H F m) (h : rList R F xs v) (k : Q (.int xs.length) H) : rLen K [v] H Q := by
  obtain ⟨a, vs, rfl, ha, r⟩ := h
  exact ⟨a, vs, rfl, .inl (.inl (.inl (O.frz ha))), by rw [← r.length]; exact k⟩
theorem x_lenT {xs : List α} (O : Own H F m) (h : rTup R F xs v) (k : Q (.int xs.length) H) : rLen K [v] H Q := by
  obtain ⟨a, vs, rfl, ha, r⟩ := h
  exact ⟨a, vs, rfl, .inr (.inl (.inl (O.frz ha))), by rw [← r.length]; exact k⟩
theorem x_lenS {xs : List α} (O : Own H F m) (h : rSeq R F xs v) (k : Q (.int xs.length) H) : rLen K [v] H Q := h.elim (fun h => x_lenL O h k) fun h => x_lenT O h k
theorem x_lenO {a : Addr} {vs : List V} (O : Own H F ((a, .lst vs) :: m)) (k : Q (.int vs.length) H) : rLen K [.ref a] H Q := ⟨a, vs, rfl, .inl (.inl (.inl O.at0)), k⟩
end
/-! ### built-ins, their readings by name -/
def rAbs : List V → Hp → VK → Prop := fun xs H Q => ∃ i, xs = [.int i] ∧ Q (.int (if i < 0 then -i else i)) H
theorem cr_abs {X : Cx} : CallR X (.builtin "abs") rAbs := call_abs
theorem x_abs {a : Int} {H : Hp} {Q : VK} (k : Q (.int (if a < 0 then -a else a)) H) : rAbs [.int a] H Q := ⟨a, rfl, k⟩
def rInt1 : List V → Hp → VK → Prop := fun xs H Q => (∃ i, xs = [.int i] ∧ Q (.int i) H) ∨ ∃ k, xs = [.bl k] ∧ Q (.int (if k then 1 else 0)) H
theorem cr_int {X : Cx} : CallR X (.type "int") rInt1 := call_int1
theorem x_int {a : Int} {H : Hp} {Q : VK} (k : Q (.int a) H) : rInt1 [.int a] H Q := .inl ⟨a, rfl, k⟩
theorem x_intB {b : Bool} {H : Hp} {Q : VK} (k : Q (.int (if b then 1 else 0)) H) : rInt1 [.bl b] H Q := .inr ⟨b, rfl, k⟩
def rMin2 : List V → Hp → VK → Prop := fun xs H Q => ∃ i j, xs = [.int i, .int j] ∧ Q (.int (if j < i then j else i)) H
theorem cr_min2 {X : Cx} (hc : X.calm = true) : CallR X (.builtin "min") rMin2 := call_min2 hc
theorem x_min2 {a b : Int} {H : Hp} {Q : VK} (k : Q (.int (if b < a then b else a)) H) : rMin2 [.int a, .int b] H Q := ⟨a, b, rfl, k⟩
def rMax2 : List V → Hp → VK → Prop := fun xs H Q => ∃ i j, xs = [.int i, .int j] ∧ Q (.int (if j > i then j else i)) H
theorem cr_max2 {X : Cx} (hc : X.calm = true) : CallR X (.builtin "max") rMax2 := call_max2 hc
theorem x_max2 {a b : Int} {H : Hp} {Q : VK} (k : Q (.int (if b > a then b else a)) H) : rMax2 [.int a, .int b] H Q := ⟨a, b, rfl, k⟩
def rIsNon : R2 := fun x y H Q => y = .non ∧ Q (.bl (decide (x = .non))) H
def rNotNon : R2 := fun x y H Q => y = .non ∧ Q (.bl (!decide (x = .non))) H
theorem op_isNon {X : Cx} : OpR X (compareOp .Is) rIsNon := op_isN
theorem op_notNon {X : Cx} : OpR X (compareOp .IsNot) rNotNon := op_notN
theorem x_isNon {v : V} {H : Hp} {Q : VK} (k : Q (.bl (decide (v = .non))) H) : rIsNon v .non H Q := ⟨rfl, k⟩
theorem x_notNon {v : V} {H : Hp} {Q : VK} (k : Q (.bl (!decide (v = .non))) H) : rNotNon v .non H Q := ⟨rfl, k⟩
/-- is True, is False: of any value -/
def rIsB : R2 := fun x y H Q => ∃ b, y = .bl b ∧ Q (.bl (decide (x = .bl b))) H
theorem op_isB {X : Cx} : OpR X (compareOp .Is) rIsB := by
  intro pins s σ H x y v u Q I rx ry h
  obtain ⟨b, rfl, q⟩ := h
  cases (show u = Value.bool b from ry)
  cases x with
  | bl a =>
    cases (show v = Value.bool a from rx)
    by_cases e : a = b
    · subst e
      exact wpAny_is_self rfl ⟨.bl true, H, I, rfl, by simpa using q⟩
    · exact wpAny_is_other rfl (fun z => e (Value.bool.inj z)) ⟨.bl false, H, I, rfl, by simpa [e] using q⟩
  | non =>
    cases (show v = Value.none from rx)
    exact wpAny_pure ⟨.bl false, H, I, rfl, by simpa using q⟩
  | int i =>
    obtain ⟨t, rfl⟩ := rx
    exact wpAny_pure ⟨.bl false, H, I, rfl, by simpa using q⟩
  | str i =>
    obtain ⟨t, rfl⟩ := rx
    exact wpAny_pure ⟨.bl false, H, I, rfl, by simpa using q⟩
  | byt i =>
    obtain ⟨t, rfl⟩ := rx
    exact wpAny_pure ⟨.bl false, H, I, rfl, by simpa using q⟩
  | flt i =>
    obtain ⟨t, rfl⟩ := rx
    exact wpAny_pure ⟨.bl false, H, I, rfl, by simpa using q⟩
  | ref a =>
    cases (show v = Value.ref a from rx)
    exact wpAny_pure ⟨.bl false, H, I, rfl, by simpa using q⟩
  | ty n =>
    cases (show v = Value.type n from rx)
    exact wpAny_pure ⟨.bl false, H, I, rfl, by simpa using q⟩
theorem x_isB {v : V} {b : Bool} {H : Hp} {Q : VK} (k : Q (.bl (decide (v = .bl b))) H) : rIsB v (.bl b) H Q := ⟨b, rfl, k⟩
/-- list(x) of a list or tuple; tuple(x) -/
def rListOf (K : PySem.W.Frag) : List V → Hp → VK → Prop := fun xs H Q => ∃ p ys, xs = [.ref p] ∧ (SqL K H p ys ∨ SqT K H p ys) ∧ ∀ l, H l = none → Q (.ref l) (upd H l (.lst ys))
theorem cr_list {X : Cx} : CallR X (.type "list") (rListOf X.K) := call_list_of
def rTupOf (K : PySem.W.Frag) : List V → Hp → VK → Prop := fun xs H Q => ∃ p ys, xs = [.ref p] ∧ ((SqL K H p ys ∧ ∀ l, H l = none → Q (.ref l) (upd H l (.tup ys))) ∨ (SqT K H p ys ∧ Q (.ref p) H))
theorem cr_tup {X : Cx} : CallR X (.type "tuple") (rTupOf X.K) := call_tuple_of
section
variable {K : PySem.W.Frag} {H F : Hp} {m : Mem} {v : V} {α : Type} {R : Rp α} {xs : List α} {Q : VK}
theorem x_listL [MonoS R] (O : Own H F m) (h : rList R F xs v) (k : ∀ w H' F', Same F F' → Own H' F' m → rList R F' xs w → Q w H') : rListOf K [v] H Q := by
  obtain ⟨a, vs, rfl, ha, r⟩ := h
  exact ⟨a, vs, rfl, .inl (.inl (.inl (O.frz ha))), fun l hl => k _ _ _ (same_new (O.fresh hl)) (O.new hl) ⟨l, vs, rfl, upd_same, all2_up (same_new (O.fresh hl)) r⟩⟩
theorem x_listT [MonoS R] (O : Own H F m) (h : rTup R F xs v) (k : ∀ w H' F', Same F F' → Own H' F' m → rList R F' xs w → Q w H') : rListOf K [v] H Q := by
  obtain ⟨a, vs, rfl, ha, r⟩ := h
  exact ⟨a, vs, rfl, .inr (.inl (.inl (O.frz ha))), fun l hl => k _ _ _ (same_new (O.fresh hl)) (O.new hl) ⟨l, vs, rfl, upd_same, all2_up (same_new (O.fresh hl)) r⟩⟩
theorem x_listS [MonoS R] (O : Own H F m) (h : rSeq R F xs v) (k : ∀ w H' F', Same F F' → Own H' F' m → rList R F' xs w → Q w H') : rListOf K [v] H Q := h.elim (fun h => x_listL O h k) fun h => x_listT O h k
theorem x_tupL [MonoS R] (O : Own H F m) (h : rList R F xs v) (k : ∀ w H' F', Same F F' → Own H' F' m → rTup R F' xs w → Q w H') : rTupOf K [v] H Q := by
  obtain ⟨a, vs, rfl, ha, r⟩ := h
  exact ⟨a, vs, rfl, .inl ⟨.inl (.inl (O.frz ha)), fun l hl => k _ _ _ (same_new (O.fresh hl)) (O.new hl) ⟨l, vs, rfl, upd_same, all2_up (same_new (O.fresh hl)) r⟩⟩⟩
theorem x_tupT (O : Own H F m) (h : rTup R F xs v) (k : Q v H) : rTupOf K [v] H Q := by
  obtain ⟨a, vs, rfl, ha, r⟩ := h
  exact ⟨a, vs, rfl, .inr ⟨.inl (.inl (O.frz ha)), k⟩⟩
/-- xs + ys -/
theorem x_cat {ys : List α} {w : V} [MonoS R] (O : Own H F m) (h : rList R F xs v) (h2 : rList R F ys w) (hl : xs.length + ys.length ≤ 16777216) (k : ∀ w H' F', Same F F' → Own H' F' m → rList R F' (xs ++ ys) w → Q w H') : rCat v w H Q := by
  obtain ⟨a, vs, rfl, ha, r⟩ := h
  obtain ⟨b, us, rfl, hb, r2⟩ := h2
  exact ⟨a, b, vs, us, rfl, rfl, O.frz ha, O.frz hb, by rw [← r.length, ← r2.length, sizeLine_eq]; exact hl, fun l hl => k _ _ _ (same_new (O.fresh hl)) (O.new hl) ⟨l, _, rfl, upd_same, (all2_up (same_new (O.fresh hl)) r).app (all2_up (same_new (O.fresh hl)) r2)⟩⟩
/-- [x] * n -/
theorem x_rep1 {x : α} {z : Int} {n : Nat} [MonoS R] (O : Own H F m) (h : rList R F [x] v) (hz : z = (n : Int)) (hl : n ≤ 16777216) (k : ∀ w H' F' vs, H w = none → Same F F' → Own H' F' ((w, .lst vs) :: m) → All2 (R F') (List.replicate n x) vs → Q (.ref w) H') : rRep v (.int z) H Q := by
  obtain ⟨a, vs, rfl, ha, r⟩ := h
  cases r with
  | cons r t =>
    cases t
    rename_i w
    subst hz
    refine ⟨a, (n : Int), [w], rfl, rfl, O.frz ha, by omega, by omega, by rw [sizeLine_eq]; simpa using hl, fun l hl => ?_⟩
    refine k l _ F (List.replicate n w) hl (Same.refl F) ?_ (All2.rep r n)
    have e : (List.replicate (n : Int).toNat [w]).flatten = List.replicate n w := by simp
    first
      | (rw [e]; exact O.own hl)
      | exact O.own hl
end
/-! ### methods, truth, keywords, displays -/
def MQ (C : Addr) (nm : Str) (sp : Sp) (E : XK) (t : TA) (σ : L2.St) (Q : VK) : VK := fun x H1 => ∃ a dx fs, x = .ref a ∧ H1 a = some (.ins C dx fs) ∧ fs.lookup nm = none ∧ t σ H1 fun vs H2 => sp (x :: (vs ++ [])) H2 Q E
theorem x_meth {C : Addr} {nm : Str} {sp : Sp} {E : XK} {ta : TE} {t : TA} {σ : L2.St} {H : Hp} {Q : VK} (k : ta σ H (MQ C nm sp E t σ Q)) : tMeth C nm sp [] E ta t σ H Q := k
theorem mq_of {C a dx : Addr} {nm : Str} {sp : Sp} {E : XK} {t : TA} {σ : L2.St} {H : Hp} {Q : VK} {fs : List (Str × V)} (h : H a = some (.ins C dx fs)) (l : fs.lookup nm = none) (k : t σ H fun vs H2 => sp (.ref a :: vs) H2 Q E) : MQ C nm sp E t σ Q (.ref a) H := by
  refine ⟨a, dx, fs, rfl, h, l, ?_⟩
  have e : (fun vs H2 => sp (.ref a :: (vs ++ [])) H2 Q E) = fun vs H2 => sp (.ref a :: vs) H2 Q E := by
    funext vs H2
    rw [List.append_nil]
  rw [e]
  exact k
def TQ (K : PySem.W.Frag) (Q : Bool → Hp → Prop) : VK := fun x H' => ∃ k, TruV K x H' k ∧ Q k H'
def tTru (K : PySem.W.Frag) (ta : TE) : TT := fun σ H Q => ta σ H (TQ K Q)
theorem pt_tru {X : Cx} {a : Expr} {ta : TE} (ha : PE X a ta) (he : ∀ whole, isTrue a X.env whole = (do let v ← whole; standAt a.pos; holding [v] (truthy v))) : PT X a (tTru X.K ta) := pt_truth ha he
theorem x_tru {K : PySem.W.Frag} {ta : TE} {σ : L2.St} {H : Hp} {Q : Bool → Hp → Prop} (k : ta σ H (TQ K Q)) : tTru K ta σ H Q := k
theorem tq_list {K : PySem.W.Frag} {a : Addr} {vs : List V} {H : Hp} {Q : Bool → Hp → Prop} (h : H a = some (.lst vs)) (k : Q (!vs.isEmpty) H) : TQ K Q (.ref a) H := ⟨_, .inl ⟨vs, .inl (.inl h), rfl⟩, k⟩
theorem x_ckw {r : List V → List V → Hp → VK → Prop} {t tk : TA} {σ : L2.St} {H : Hp} {Q : VK} (k : t σ H fun vs H1 => tk σ H1 fun zs H2 => r vs zs H2 Q) : tCKw r t tk σ H Q := k
/-- {a: b} of two ints -/
theorem x_disp1 {a b : Int} {σ : L2.St} {H F : Hp} {m : Mem} {Q : VK} (O : Own H F m) (k : ∀ p H', H p = none → Own H' F ((p, .dK [(Sum.inl a, .int b)]) :: m) → Q (.ref p) H') : tDisp [(tC (.int a), tC (.int b))] σ H Q := fun p hp =>
  show _ ∧ _ from ⟨upd_same, [(Sum.inl a, .int b)], rfl, by show 1 ≤ 15; decide, by
    rw [upd_upd]
    exact k p _ hp (O.own hp)⟩
/-- a list, a dict that is made: of our own -/
theorem x_dnew {σ : L2.St} {H F : Hp} {m : Mem} {Q : VK} (O : Own H F m) (k : ∀ p H', H p = none → Own H' F ((p, .dK []) :: m) → Q (.ref p) H') : tDNewK σ H Q := fun p hp => k p _ hp (O.own hp)
/-! ### ways that meet -/
def tCut (t u : TS) : TS := fun D σ H => ∃ Mid : L2.St → Hp → Prop, t { D with nx := Mid } σ H ∧ ∀ σ' H', Mid σ' H' → u D σ' H'
theorem pss_cut {X : Cx} {st : Stmt} {rest : List Stmt} {t u : TS} (h1 : PS X st t) (h2 : PSs X rest u) : PSs X (st :: rest) (tCut t u) := by
  refine ⟨fun pins s σ H D I h => ?_⟩
  obtain ⟨Mid, hm, hu⟩ := h
  refine wpAny_execs_cons (thn (h1.run pins s σ H { D with nx := Mid } I hm) fun f s1 q => ?_)
  cases f with
  | next =>
    obtain ⟨σ', H', I', q⟩ := q
    exact h2.run pins s1 σ' H' D I' (hu σ' H' q)
  | ret v => exact q
  | brk => exact q
  | cont => exact q
theorem x_cut {t u : TS} {D : Ends} {σ : L2.St} {H : Hp} (Mid : L2.St → Hp → Prop) (k : t { D with nx := Mid } σ H) (k2 : ∀ σ' H', Mid σ' H' → u D σ' H') : tCut t u D σ H := ⟨Mid, k, k2⟩
/-! ### loops -/
/-- what a loop's word says at a heap: F has grown, the cells are m', P holds -/
def LI (P : Nat → L2.St → Hp → Mem → Prop) (F : Hp) (i : Nat) : L2.St → Hp → Prop := fun σ H => ∃ F' m', Same F F' ∧ Own H F' m' ∧ P i σ F' m'
theorem LI.mk {P : Nat → L2.St → Hp → Mem → Prop} {F F' H : Hp} {m' : Mem} {i : Nat} {σ : L2.St} (s : Same F F') (O : Own H F' m') (p : P i σ F' m') : LI P F i σ H := ⟨F', m', s, O, p⟩
def ForW (J : It) (g : TG) (tb : TS) (D : Ends) (σ : L2.St) (H : Hp) : Prop := ∃ W : Nat → Nat → L2.St → Hp → Prop, (∃ m, W 0 m σ H) ∧ ∀ i m σ H, W i m σ H →
  (J.stop i H ∧ D.nx σ H) ∨ (J.go i H ∧ ∃ N : L2.St → Hp → Prop, (∀ σ' H', N σ' H' → ∃ m', m' < m ∧ W (i + 1) m' σ' H') ∧ ∀ x H', J.yld i H x H' → g x σ H' fun σ2 H2 => tb { D with nx := N, ct := N, bk := D.nx } σ2 H2)
def FL (K : PySem.W.Frag) (g : TG) (tb : TS) (D : Ends) (σ : L2.St) : VK := fun v H1 => ∃ a, v = .ref a ∧ (∃ xs, SqL K H1 a xs) ∧ ForW (Itl K a) g tb D σ H1
def FT (K : PySem.W.Frag) (g : TG) (tb : TS) (D : Ends) (σ : L2.St) : VK := fun v H1 => ∃ a, v = .ref a ∧ (∃ xs, SqT K H1 a xs) ∧ ForW (Itt K a) g tb D σ H1
section
variable {K : PySem.W.Frag} {σ : L2.St} {H F : Hp} {m : Mem} {D : Ends} {tb : TS} {g : TG} {v : V} {tl : TE} {ta : TA} {α : Type} {R : Rp α} {xs : List α}
theorem x_forL (k : tl σ H (FL K g tb D σ)) : tFor (iList K tl) g tb D σ H := k
theorem x_forT (k : tl σ H (FT K g tb D σ)) : tFor (iTup K tl) g tb D σ H := k
theorem x_doL [MonoS R] (O : Own H F m) (h : rList R F xs v) (P : Nat → L2.St → Hp → Mem → Prop) (h0 : P 0 σ F m)
    (hs : ∀ i x w σ' H' F' m', xs[i]? = some x → R F' x w → Same F F' → Own H' F' m' → P i σ' F' m' → g w σ' H' fun σ2 H2 => tb { D with nx := LI P F (i + 1), ct := LI P F (i + 1), bk := D.nx } σ2 H2)
    (hd : ∀ σ' H' F' m', Same F F' → Own H' F' m' → P xs.length σ' F' m' → D.nx σ' H') : FL K g tb D σ v H := by
  obtain ⟨a, vs, rfl, ha, r⟩ := h
  refine ⟨a, rfl, ⟨vs, .inl (.inl (O.frz ha))⟩, for_list (LI P F) ⟨F, m, Same.refl F, O, h0⟩ (fun i σ' H' _ ⟨F', m', s, O', _⟩ => .inl (.inl (O'.frz (s _ _ ha)))) (fun i w σ' H' hi ⟨F', m', s, O', p⟩ => ?_) fun σ' H' ⟨F', m', s, O', p⟩ => hd σ' H' F' m' s O' (by rw [r.length]; exact p)⟩
  obtain ⟨x, hx, hr⟩ := r.get' hi
  exact hs i x w σ' H' F' m' hx (up s hr) s O' p
theorem x_doT [MonoS R] (O : Own H F m) (h : rTup R F xs v) (P : Nat → L2.St → Hp → Mem → Prop) (h0 : P 0 σ F m)
    (hs : ∀ i x w σ' H' F' m', xs[i]? = some x → R F' x w → Same F F' → Own H' F' m' → P i σ' F' m' → g w σ' H' fun σ2 H2 => tb { D with nx := LI P F (i + 1), ct := LI P F (i + 1), bk := D.nx } σ2 H2)
    (hd : ∀ σ' H' F' m', Same F F' → Own H' F' m' → P xs.length σ' F' m' → D.nx σ' H') : FT K g tb D σ v H := by
  obtain ⟨a, vs, rfl, ha, r⟩ := h
  refine ⟨a, rfl, ⟨vs, .inl (.inl (O.frz ha))⟩, for_tup (LI P F) ⟨F, m, Same.refl F, O, h0⟩ (fun i σ' H' _ ⟨F', m', s, O', _⟩ => .inl (.inl (O'.frz (s _ _ ha)))) (fun i w σ' H' hi ⟨F', m', s, O', p⟩ => ?_) fun σ' H' ⟨F', m', s, O', p⟩ => hd σ' H' F' m' s O' (by rw [r.length]; exact p)⟩
  obtain ⟨x, hx, hr⟩ := r.get' hi
  exact hs i x w σ' H' F' m' hx (up s hr) s O' p
/-- range -/
def FR1 (g : TG) (tb : TS) (D : Ends) (σ : L2.St) : List V → Hp → Prop := fun vs H1 => ∃ j : Int, vs = [.int j] ∧ -(2 ^ 62) ≤ j ∧ j < 2 ^ 62 ∧ ForW (Itr 0 j.toNat) g tb D σ H1
def FR2 (g : TG) (tb : TS) (D : Ends) (σ : L2.St) : List V → Hp → Prop := fun vs H1 => ∃ i j : Int, vs = [.int i, .int j] ∧ (-(2 ^ 62) ≤ i ∧ i < 2 ^ 62 ∧ -(2 ^ 62) ≤ j ∧ j < 2 ^ 62) ∧ ForW (Itr i (j - i).toNat) g tb D σ H1
def FR3 (g : TG) (tb : TS) (D : Ends) (σ : L2.St) : List V → Hp → Prop := fun vs H1 => ∃ (i j c : Int) (n : Nat), vs = [.int i, .int j, .int c] ∧ RgC i j c n ∧ ForW (Itc i c n) g tb D σ H1
theorem x_forR1 (k : ta σ H (FR1 g tb D σ)) : tFor (iRng1 ta) g tb D σ H := k
theorem x_forR2 (k : ta σ H (FR2 g tb D σ)) : tFor (iRng2 ta) g tb D σ H := k
theorem x_forR3 (k : ta σ H (FR3 g tb D σ)) : tFor (iRng3 ta) g tb D σ H := k
theorem x_doR1 {z : Int} {n : Nat} (O : Own H F m) (hz : z.toNat = n) (h1 : -(2 ^ 62) ≤ z) (h2 : z < 2 ^ 62) (P : Nat → L2.St → Hp → Mem → Prop) (h0 : P 0 σ F m)
    (hs : ∀ i σ' H' F' m', i < n → Same F F' → Own H' F' m' → P i σ' F' m' → g (.int (i : Int)) σ' H' fun σ2 H2 => tb { D with nx := LI P F (i + 1), ct := LI P F (i + 1), bk := D.nx } σ2 H2)
    (hd : ∀ σ' H' F' m', Same F F' → Own H' F' m' → P n σ' F' m' → D.nx σ' H') : FR1 g tb D σ [.int z] H := by
  subst hz
  refine ⟨z, rfl, h1, h2, for_range (LI P F) ⟨F, m, Same.refl F, O, h0⟩ (fun i σ' H' hi ⟨F', m', s, O', p⟩ => ?_) fun σ' H' ⟨F', m', s, O', p⟩ => hd σ' H' F' m' s O' p⟩
  rw [Int.zero_add]
  exact hs i σ' H' F' m' hi s O' p
theorem x_doR2 {lo z : Int} {n : Nat} (O : Own H F m) (hz : (z - lo).toNat = n) (hb : -(2 ^ 62) ≤ lo ∧ lo < 2 ^ 62 ∧ -(2 ^ 62) ≤ z ∧ z < 2 ^ 62) (P : Nat → L2.St → Hp → Mem → Prop) (h0 : P 0 σ F m)
    (hs : ∀ i σ' H' F' m', i < n → Same F F' → Own H' F' m' → P i σ' F' m' → g (.int (lo + (i : Int))) σ' H' fun σ2 H2 => tb { D with nx := LI P F (i + 1), ct := LI P F (i + 1), bk := D.nx } σ2 H2)
    (hd : ∀ σ' H' F' m', Same F F' → Own H' F' m' → P n σ' F' m' → D.nx σ' H') : FR2 g tb D σ [.int lo, .int z] H := by
  subst hz
  exact ⟨lo, z, rfl, hb, for_range (LI P F) ⟨F, m, Same.refl F, O, h0⟩ (fun i σ' H' hi ⟨F', m', s, O', p⟩ => hs i σ' H' F' m' hi s O' p) fun σ' H' ⟨F', m', s, O', p⟩ => hd σ' H' F' m' s O' p⟩
/-- range(n - 1, -1, -1) -/
theorem x_doDown {n : Nat} {lo : Int} (O : Own H F m) (hn : lo = (n : Int) - 1) (hb : n < 2 ^ 61) (P : Nat → L2.St → Hp → Mem → Prop) (h0 : P 0 σ F m)
    (hs : ∀ i j σ' H' F' m', i + j + 1 = n → Same F F' → Own H' F' m' → P i σ' F' m' → g (.int (j : Int)) σ' H' fun σ2 H2 => tb { D with nx := LI P F (i + 1), ct := LI P F (i + 1), bk := D.nx } σ2 H2)
    (hd : ∀ σ' H' F' m', Same F F' → Own H' F' m' → P n σ' F' m' → D.nx σ' H') : FR3 g tb D σ [.int lo, .int (-1), .int (-1)] H := by
  subst hn
  refine ⟨(n : Int) - 1, -1, -1, n, rfl, ?_, for_rangeC (LI P F) ⟨F, m, Same.refl F, O, h0⟩ (fun i σ' H' hi ⟨F', m', s, O', p⟩ => ?_) fun σ' H' ⟨F', m', s, O', p⟩ => hd σ' H' F' m' s O' p⟩
  · have e := RgC.neg (i := (n : Int) - 1) (j := -1) (by omega) (by omega) (by omega) (by omega)
    have e2 : ((n : Int) - 1 - -1).toNat = n := by omega
    rw [e2] at e
    exact e
  · obtain ⟨j, hj⟩ : ∃ j, i + j + 1 = n := ⟨n - 1 - i, by omega⟩
    have e : (n : Int) - 1 + (i : Nat) * -1 = (j : Int) := by omega
    rw [e]
    exact hs i j σ' H' F' m' hj s O' p
/-- while, a word with a falling number -/
theorem x_while {c : TT} (O : Own H F m) (P : Nat → L2.St → Hp → Mem → Prop) (n0 : Nat) (h0 : P n0 σ F m)
    (hs : ∀ n σ' H' F' m', Same F F' → Own H' F' m' → P n σ' F' m' → c σ' H' fun b H1 => if b = true then ∃ N : L2.St → Hp → Prop, (∀ σ2 H2, N σ2 H2 → ∃ k, k < n ∧ LI P F k σ2 H2) ∧ tb { D with nx := N, ct := N, bk := D.nx } σ' H1 else D.nx σ' H1) : tWhile c tb D σ H :=
  ⟨LI P F, ⟨n0, F, m, Same.refl F, O, h0⟩, fun n σ' H' ⟨F', m', s, O', p⟩ => hs n σ' H' F' m' s O' p⟩
end
/-! ### list comprehensions -/
/-- the word of a comprehension: D holds acc, which stands for ys -/
def LcP {β : Type} (S : Rp β) (P : Nat → Hp → Mem → List β → Prop) (F : Hp) (D : Addr) (i : Nat) (H : Hp) : Prop :=
  ∃ F' m' acc ys, Same F F' ∧ Own H F' ((D, .lst acc) :: m') ∧ All2 (S F') ys acc ∧ ys.length ≤ i ∧ P i F' m' ys
def LcW (J : It) (g : TG) (tt : TT) (te : TE) (vs : List Nat) (σ : L2.St) (Q : VK) (H1 : Hp) : Prop := ∀ D, H1 D = none → ∃ W : Nat → Nat → Hp → Prop, (∃ m, W 0 m (upd H1 D (.lst []))) ∧ ∀ i m H, W i m H →
  (J.stop i H ∧ Q (.ref D) H) ∨ (J.go i H ∧ ∃ Nx : Hp → Prop, (∀ H', Nx H' → ∃ m', m' < m ∧ W (i + 1) m' H') ∧ ∀ x H', J.yld i H x H' → g x (wipe σ vs) H' fun σ2 H2 => wipe σ2 vs = wipe σ vs ∧ tt σ2 H2 fun b H3 =>
    if b = true then te σ2 H3 fun y H4 => ∃ acc, H4 D = some (.lst acc) ∧ acc.length < sizeLine ∧ Nx (upd H4 D (.lst (acc ++ [y]))) else Nx H3)
def CL (K : PySem.W.Frag) (g : TG) (tt : TT) (te : TE) (vs : List Nat) (σ : L2.St) (Q : VK) : VK := fun v H1 => ∃ a, v = .ref a ∧ (∃ xs, SqL K H1 a xs) ∧ LcW (Itl K a) g tt te vs σ Q H1
def CT (K : PySem.W.Frag) (g : TG) (tt : TT) (te : TE) (vs : List Nat) (σ : L2.St) (Q : VK) : VK := fun v H1 => ∃ a, v = .ref a ∧ (∃ xs, SqT K H1 a xs) ∧ LcW (Itt K a) g tt te vs σ Q H1
def CR1 (g : TG) (tt : TT) (te : TE) (vs : List Nat) (σ : L2.St) (Q : VK) : List V → Hp → Prop := fun us H1 => ∃ j : Int, us = [.int j] ∧ -(2 ^ 62) ≤ j ∧ j < 2 ^ 62 ∧ LcW (Itr 0 j.toNat) g tt te vs σ Q H1
section
variable {K : PySem.W.Frag} {σ : L2.St} {H F : Hp} {m : Mem} {g : TG} {tt : TT} {te : TE} {vs : List Nat} {v : V} {tl : TE} {ta : TA} {α β : Type} {R : Rp α} {S : Rp β} {xs : List α} {Q : VK}
theorem x_lcL (k : tl σ H (CL K g tt te vs σ Q)) : tLc (iList K tl) g tt te vs σ H Q := k
theorem x_lcT (k : tl σ H (CT K g tt te vs σ Q)) : tLc (iTup K tl) g tt te vs σ H Q := k
theorem x_lcR1 (k : ta σ H (CR1 g tt te vs σ Q)) : tLc (iRng1 ta) g tt te vs σ H Q := k
theorem x_yes {Q : Bool → Hp → Prop} (k : Q true H) : tYes σ H Q := k
/-- an item is kept -/
theorem x_keep {P : Nat → Hp → Mem → List β → Prop} {F0 F4 H4 : Hp} {D : Addr} {acc : List V} {m4 : Mem} {ys : List β} {z : β} {y : V} {i : Nat} (O : Own H4 F4 ((D, .lst acc) :: m4)) (s : Same F0 F4) (hz : S F4 z y) (ha : All2 (S F4) ys acc) (hl : ys.length ≤ i) (hi : i < 16777216)
    (p : P (i + 1) F4 m4 (ys ++ [z])) : ∃ acc, H4 D = some (.lst acc) ∧ acc.length < sizeLine ∧ LcP S P F0 D (i + 1) (upd H4 D (.lst (acc ++ [y]))) :=
  ⟨acc, O.at0, by rw [← ha.length, sizeLine_eq]; omega, F4, m4, acc ++ [y], ys ++ [z], s, O.set _, ha.snoc hz, by rw [List.length_append, List.length_singleton]; omega, p⟩
theorem x_skip {P : Nat → Hp → Mem → List β → Prop} {F0 F4 H4 : Hp} {D : Addr} {acc : List V} {m4 : Mem} {ys : List β} {i : Nat} (O : Own H4 F4 ((D, .lst acc) :: m4)) (s : Same F0 F4) (ha : All2 (S F4) ys acc) (hl : ys.length ≤ i) (p : P (i + 1) F4 m4 ys) : LcP S P F0 D (i + 1) H4 :=
  ⟨F4, m4, acc, ys, s, O, ha, Nat.le_succ_of_le hl, p⟩
theorem x_docL [MonoS R] [MonoS S] (O : Own H F m) (h : rList R F xs v) (P : Nat → Hp → Mem → List β → Prop) (h0 : P 0 F m [])
    (hs : ∀ D acc i x w H' F' m' ys, xs[i]? = some x → R F' x w → Same F F' → Own H' F' ((D, .lst acc) :: m') → All2 (S F') ys acc → ys.length ≤ i → P i F' m' ys →
      g w (wipe σ vs) H' fun σ2 H2 => wipe σ2 vs = wipe σ vs ∧ tt σ2 H2 fun b H3 => if b = true then te σ2 H3 fun y H4 => ∃ acc, H4 D = some (.lst acc) ∧ acc.length < sizeLine ∧ LcP S P F D (i + 1) (upd H4 D (.lst (acc ++ [y]))) else LcP S P F D (i + 1) H3)
    (hd : ∀ v' H' F' m' ys, Same F F' → Own H' F' m' → rList S F' ys v' → P xs.length F' m' ys → Q v' H') (hP : ∀ F1 F2 m1 ys i, Same F1 F2 → P i F1 m1 ys → P i F2 m1 ys := by exact fun _ _ _ _ _ _ h => h) : CL K g tt te vs σ Q v H := by
  obtain ⟨a, us, rfl, ha, r⟩ := h
  refine ⟨a, rfl, ⟨us, .inl (.inl (O.frz ha))⟩, fun D hD => lc_list (LcP S P F D) ⟨F, m, [], [], Same.refl F, O.own hD, .nil, Nat.zero_le _, h0⟩ (fun i H' _ ⟨F', m', _, _, s, O', _⟩ => .inl (.inl (O'.frz (s _ _ ha)))) (fun i w H' hi ⟨F', m', acc, ys, s, O', hy, hl, p⟩ => ?_) fun H' ⟨F', m', acc, ys, s, O', hy, hl, p⟩ => ?_⟩
  · obtain ⟨x, hx, hr⟩ := r.get' hi
    exact hs D acc i x w H' F' m' ys hx (up s hr) s O' hy hl p
  · have s2 := O'.freeze_same
    exact hd (.ref D) H' (upd F' D (.lst acc)) m' ys (s.trans s2) O'.freeze ⟨D, acc, rfl, upd_same, all2_up s2 hy⟩ (hP _ _ _ _ _ s2 (by rw [r.length]; exact p))
theorem x_docT [MonoS R] [MonoS S] (O : Own H F m) (h : rTup R F xs v) (P : Nat → Hp → Mem → List β → Prop) (h0 : P 0 F m [])
    (hs : ∀ D acc i x w H' F' m' ys, xs[i]? = some x → R F' x w → Same F F' → Own H' F' ((D, .lst acc) :: m') → All2 (S F') ys acc → ys.length ≤ i → P i F' m' ys →
      g w (wipe σ vs) H' fun σ2 H2 => wipe σ2 vs = wipe σ vs ∧ tt σ2 H2 fun b H3 => if b = true then te σ2 H3 fun y H4 => ∃ acc, H4 D = some (.lst acc) ∧ acc.length < sizeLine ∧ LcP S P F D (i + 1) (upd H4 D (.lst (acc ++ [y]))) else LcP S P F D (i + 1) H3)
    (hd : ∀ v' H' F' m' ys, Same F F' → Own H' F' m' → rList S F' ys v' → P xs.length F' m' ys → Q v' H') (hP : ∀ F1 F2 m1 ys i, Same F1 F2 → P i F1 m1 ys → P i F2 m1 ys := by exact fun _ _ _ _ _ _ h => h) : CT K g tt te vs σ Q v H := by
  obtain ⟨a, us, rfl, ha, r⟩ := h
  refine ⟨a, rfl, ⟨us, .inl (.inl (O.frz ha))⟩, fun D hD => lc_tup (LcP S P F D) ⟨F, m, [], [], Same.refl F, O.own hD, .nil, Nat.zero_le _, h0⟩ (fun i H' _ ⟨F', m', _, _, s, O', _⟩ => .inl (.inl (O'.frz (s _ _ ha)))) (fun i w H' hi ⟨F', m', acc, ys, s, O', hy, hl, p⟩ => ?_) fun H' ⟨F', m', acc, ys, s, O', hy, hl, p⟩ => ?_⟩
  · obtain ⟨x, hx, hr⟩ := r.get' hi
    exact hs D acc i x w H' F' m' ys hx (up s hr) s O' hy hl p
  · have s2 := O'.freeze_same
    exact hd (.ref D) H' (upd F' D (.lst acc)) m' ys (s.trans s2) O'.freeze ⟨D, acc, rfl, upd_same, all2_up s2 hy⟩ (hP _ _ _ _ _ s2 (by rw [r.length]; exact p))
theorem x_docR1 [MonoS S] {z : Int} {n : Nat} (O : Own H F m) (hz : z.toNat = n) (h1 : -(2 ^ 62) ≤ z) (h2 : z < 2 ^ 62) (P : Nat → Hp → Mem → List β → Prop) (h0 : P 0 F m [])
    (hs : ∀ D acc i H' F' m' ys, i < n → Same F F' → Own H' F' ((D, .lst acc) :: m') → All2 (S F') ys acc → ys.length ≤ i → P i F' m' ys →
      g (.int (i : Int)) (wipe σ vs) H' fun σ2 H2 => wipe σ2 vs = wipe σ vs ∧ tt σ2 H2 fun b H3 => if b = true then te σ2 H3 fun y H4 => ∃ acc, H4 D = some (.lst acc) ∧ acc.length < sizeLine ∧ LcP S P F D (i + 1) (upd H4 D (.lst (acc ++ [y]))) else LcP S P F D (i + 1) H3)
    (hd : ∀ v' H' F' m' ys, Same F F' → Own H' F' m' → rList S F' ys v' → P n F' m' ys → Q v' H') (hP : ∀ F1 F2 m1 ys i, Same F1 F2 → P i F1 m1 ys → P i F2 m1 ys := by exact fun _ _ _ _ _ _ h => h) : CR1 g tt te vs σ Q [.int z] H := by
  subst hz
  refine ⟨z, rfl, h1, h2, fun D hD => lc_range (LcP S P F D) ⟨F, m, [], [], Same.refl F, O.own hD, .nil, Nat.zero_le _, h0⟩ (fun i H' hi ⟨F', m', acc, ys, s, O', hy, hl, p⟩ => ?_) fun H' ⟨F', m', acc, ys, s, O', hy, hl, p⟩ => ?_⟩
  · rw [Int.zero_add]
    exact hs D acc i H' F' m' ys hi s O' hy hl p
  · have s2 := O'.freeze_same
    exact hd (.ref D) H' (upd F' D (.lst acc)) m' ys (s.trans s2) O'.freeze ⟨D, acc, rfl, upd_same, all2_up s2 hy⟩ (hP _ _ _ _ _ s2 p)
end
/-! ### dicts -/
section
variable {K : PySem.W.Frag} {σ : L2.St} {H F : Hp} {m : Mem} {D : Ends} {v : V} {td ty tv : TE} {α : Type} {R : Rp α} {d : List (Int × α)} {Q : VK} {z : Int}
/-- what is asked of the dict x at the key y -/
def DGQ (x y : V) (Q : VK) (H : Hp) : Prop := ∃ a v, x = .ref a ∧ DGet H a y (some v) ∧ Q v H
def DIQ (x y : V) (Q : Bool → Hp → Prop) (H : Hp) : Prop := ∃ a o, x = .ref a ∧ DGet H a y o ∧ Q o.isSome H
def DPQ (x y v : V) (R : Hp → Prop) (H : Hp) : Prop := ∃ a H4, x = .ref a ∧ DPut H a y v H4 ∧ R H4
theorem x_dget (k : td σ H fun x H1 => ty σ H1 fun y H2 => DGQ x y Q H2) : tDGet td ty σ H Q := k
theorem x_din (k : ty σ H fun y H1 => td σ H1 fun x H2 => DIQ x y (fun b H3 => Q (.bl b) H3) H2) : tDIn ty td σ H Q := k
theorem x_dnotin (k : ty σ H fun y H1 => td σ H1 fun x H2 => DIQ x y (fun b H3 => Q (.bl (!b)) H3) H2) : tDNotIn ty td σ H Q := k
theorem x_dput (k : tv σ H fun v H1 => td σ H1 fun x H2 => ty σ H2 fun y H3 => DPQ x y v (D.nx σ) H3) : sDPut td ty tv D σ H := k
theorem rd_own (O : Own H F m) {a : Addr} {u : HO} (h : Rd F a u) : Rd H a u := rd_same O.sub h
/-- a frozen dict is read -/
theorem x_dgetF {x : α} (O : Own H F m) (h : rDict R F d v) (e : Tf.getD d z = some x) (k : ∀ w, R F x w → Q w H) : DGQ v (.int z) Q H := by
  obtain ⟨a, kvs, rfl, ha, hk⟩ := h
  rcases hk.get z with ⟨e1, _⟩ | ⟨y, w, e1, e2, hr⟩
  · rw [e] at e1
    cases e1
  · rw [e] at e1
    cases e1
    exact ⟨a, w, rfl, .inl ⟨kvs, .inl z, rd_own O ha, rfl, e2.symm⟩, k w hr⟩
theorem x_dinF {Q : Bool → Hp → Prop} (O : Own H F m) (h : rDict R F d v) (k : Q (Tf.getD d z).isSome H) : DIQ v (.int z) Q H := by
  obtain ⟨a, kvs, rfl, ha, hk⟩ := h
  refine ⟨a, _, rfl, .inl ⟨kvs, .inl z, rd_own O ha, rfl, rfl⟩, ?_⟩
  rcases hk.get z with ⟨e1, e2⟩ | ⟨y, w, e1, e2, hr⟩
  · rw [e2]
    rw [e1] at k
    exact k
  · rw [e2]
    rw [e1] at k
    exact k
/-- a dict of our own is read, stored into -/
theorem x_dgetO {x : α} {a : Addr} {kvs : List (Key × V)} (O : Own H F ((a, .dK kvs) :: m)) (hk : kvR R F d kvs) (e : Tf.getD d z = some x) (k : ∀ w, R F x w → Q w H) : DGQ (.ref a) (.int z) Q H := by
  rcases hk.get z with ⟨e1, _⟩ | ⟨y, w, e1, e2, hr⟩
  · rw [e] at e1
    cases e1
  · rw [e] at e1
    cases e1
    exact ⟨a, w, rfl, .inl ⟨kvs, .inl z, .inl O.at0, rfl, e2.symm⟩, k w hr⟩
theorem x_dinO {Q : Bool → Hp → Prop} {a : Addr} {kvs : List (Key × V)} (O : Own H F ((a, .dK kvs) :: m)) (hk : kvR R F d kvs) (k : Q (Tf.getD d z).isSome H) : DIQ (.ref a) (.int z) Q H := by
  refine ⟨a, _, rfl, .inl ⟨kvs, .inl z, .inl O.at0, rfl, rfl⟩, ?_⟩
  rcases hk.get z with ⟨e1, e2⟩ | ⟨y, w, e1, e2, hr⟩
  · rw [e2]
    rw [e1] at k
    exact k
  · rw [e2]
    rw [e1] at k
    exact k
theorem kvR.len {kvs : List (Key × V)} (hk : kvR R F d kvs) : kvs.length = d.length := (All2.length hk).symm
theorem x_dputO {x : α} {a : Addr} {kvs : List (Key × V)} {Q : Hp → Prop} (O : Own H F ((a, .dK kvs) :: m)) (hk : kvR R F d kvs) (hv : R F x v) (hl : d.length < 16777216)
    (k : ∀ kvs' H', kvR R F (putD d z x) kvs' → Own H' F ((a, .dK kvs') :: m) → Q H') : DPQ (.ref a) (.int z) v Q H :=
  ⟨a, _, rfl, .inl ⟨kvs, .inl z, O.at0, rfl, by rw [hk.len, sizeLine_eq]; exact hl, rfl⟩, k _ _ (hk.put z hv) (O.set _)⟩
/-- {z: v} -/
theorem freezeD {a : Addr} {kvs : List (Key × V)} [MonoS R] (O : Own H F ((a, .dK kvs) :: m)) (hk : kvR R F d kvs) : Own H (upd F a (.dK kvs)) m ∧ Same F (upd F a (.dK kvs)) ∧ rDictX R (upd F a (.dK kvs)) d (.ref a) :=
  ⟨O.freeze, O.freeze_same, a, kvs, rfl, upd_same, hk.up O.freeze_same⟩
/-! for k in d -/
def FK (g : TG) (tb : TS) (D : Ends) (σ : L2.St) : VK := fun x H1 => ∃ d o, x = .ref d ∧ ((∃ kvs, H1 d = some (.frz o (.dK kvs)) ∧ ForW (Itk d o kvs) g tb D σ H1) ∨ ∃ kvs, H1 d = some (.frz o (.dT kvs)) ∧ ForW (Itkt d o kvs) g tb D σ H1)
variable {g : TG} {tb : TS}
theorem x_forK (k : td σ H (FK g tb D σ)) : tFor (iKeys td) g tb D σ H := k
/-- the lock -/
def DL (d : Addr) (u : HO) (od : Obj) (D : Ends) : Ends := ⟨fun σ' H' => H' d = some (.frz od u) ∧ D.nx σ' (upd H' d u), fun v H' => H' d = some (.frz od u) ∧ D.rt v (upd H' d u), fun σ' H' => H' d = some (.frz od u) ∧ D.bk σ' (upd H' d u), fun σ' H' => H' d = some (.frz od u) ∧ D.ct σ' (upd H' d u)⟩
theorem unlock_same {F F' : Hp} {a : Addr} {ob : Obj} {u : HO} (h : F a = some u) (s : Same (upd F a (.frz ob u)) F') : Same F (upd F' a u) := fun b o e => by
  by_cases hb : b = a
  · subst hb
    rw [upd_same, ← h]
    exact e
  · rw [upd_ne hb]
    refine s b o ?_
    rw [upd_ne hb]
    exact e
theorem x_lock {t : TS} {a : Addr} {kvs : List (Key × V)} (O : Own H F m) (h : F a = some (.dK kvs))
    (k : ∀ od H1 F1, Own H1 F1 m → Le F F1 → F1 a = some (.frz od (.dK kvs)) → (∀ F', Same F1 F' → Same F (upd F' a (.dK kvs))) → t (DL a (.dK kvs) od D) σ H1) : tLock t D σ H :=
  ⟨a, .dK kvs, O.frz h, True.intro, fun od => k od _ _ (O.relay h) (le_lock h) upd_same fun _ s => unlock_same h s⟩
/-- a for over a dict's keys (locked) -/
theorem x_doK {a : Addr} {kvs : List (Key × V)} {ob : Obj} {F0 : Hp} (O : Own H F m) (h : F a = some (.frz ob (.dK kvs))) (hk : kvR R F0 d kvs) (P : Nat → L2.St → Hp → Mem → Prop) (h0 : P 0 σ F m)
    (hs : ∀ i p σ' H' F' m', d[i]? = some p → Same F F' → Own H' F' m' → P i σ' F' m' → g (.int p.1) σ' H' fun σ2 H2 => tb { D with nx := LI P F (i + 1), ct := LI P F (i + 1), bk := D.nx } σ2 H2)
    (hd : ∀ σ' H' F' m', Same F F' → Own H' F' m' → P d.length σ' F' m' → D.nx σ' H') : FK g tb D σ (.ref a) H := by
  refine ⟨a, ob, rfl, .inl ⟨kvs, O.frz h, ?_⟩⟩
  refine for_it walk_keys (LI P F) ⟨F, m, Same.refl F, O, h0⟩ (fun i σ' H' _ ⟨F', m', s, O', _⟩ => O'.frz (s _ _ h)) (fun i x σ' H' H2 hi ⟨F', m', s, O', p⟩ y => ?_) fun σ' H' ⟨F', m', s, O', p⟩ => hd σ' H' F' m' s O' (by rw [← hk.len]; exact p)
  obtain ⟨rfl, k, w, e, rfl⟩ := y
  obtain ⟨q, hq, e1, _⟩ := All2.get' hk e
  have e1 : k = Sum.inl q.1 := e1
  subst e1
  exact hs i q σ' H2 F' m' hq s O' p
/-- behind the loop: the dict is unlocked -/
theorem x_unlock {F0 F1 F' : Hp} {a : Addr} {kvs : List (Key × V)} {od : Obj} (O : Own H F' m) (h1 : F1 a = some (.frz od (.dK kvs))) (hs : ∀ F', Same F1 F' → Same F0 (upd F' a (.dK kvs))) (s : Same F1 F')
    (k : ∀ H2 F2, Same F0 F2 → Le F' F2 → Own H2 F2 m → D.nx σ H2) : Ends.nx (DL a (.dK kvs) od D) σ H := by
  have h : F' a = some (.frz od (.dK kvs)) := s _ _ h1
  exact ⟨O.frz h, k _ _ (hs _ s) (le_unlock h) (O.relay h)⟩
theorem dict_imp {α : Type} {R R' : Rp α} {F : Hp} {d v} (f : ∀ x v, R F x v → R' F x v) (h : rDict R F d v) : rDict R' F d v := let ⟨a, kvs, e, h, r⟩ := h; ⟨a, kvs, e, h, r.mono fun _ _ p => ⟨p.1, f _ _ p.2⟩⟩
theorem dictX_at {α : Type} {R : Rp α} {F : Hp} {d : List (Int × α)} {v : V} {z : Int} {x : α} (h : rDictX R F d v) (e : Tf.getD d z = some x) : ∃ b kvs w, v = .ref b ∧ F b = some (.dK kvs) ∧ valV kvs (Sum.inl z) = some w ∧ R F x w := by
  obtain ⟨a, kvs, e0, ha, hk⟩ := h
  rcases hk.get z with ⟨e1, _⟩ | ⟨y, w, e1, e2, hr⟩
  · rw [e] at e1
    cases e1
  · rw [e] at e1
    cases e1
    exact ⟨a, kvs, w, e0, ha, e2, hr⟩
theorem x_dgetR {b : Addr} {kvs : List (Key × V)} {z : Int} {w : V} {H F : Hp} {m : Mem} {Q : VK} (O : Own H F m) (h : Rd F b (.dK kvs)) (e : valV kvs (Sum.inl z) = some w) (k : Q w H) : DGQ (.ref b) (.int z) Q H :=
  ⟨b, w, rfl, .inl ⟨kvs, .inl z, rd_own O h, rfl, e.symm⟩, k⟩
theorem dictX_get {α : Type} {R : Rp α} {F : Hp} {d : List (Int × α)} {v : V} {z : Int} {x : α} (h : rDictX R F d v) (e : Tf.getD d z = some x) : ∃ w, R F x w := by
  obtain ⟨a, kvs, _, _, hk⟩ := h
  rcases hk.get z with ⟨e1, _⟩ | ⟨y, w, e1, e2, hr⟩
  · rw [e] at e1
    cases e1
  · rw [e] at e1
    cases e1
    exact ⟨w, hr⟩
end
end Tf
/-! the law's pool, the names of the top -/
namespace Tf
open PySem PySem.Spec PyProof.Rows L2
/-- no name of the top hides these built-ins -/
structure Bi (mg : Str → Option Value) : Prop where
  b_len : mg "len" = none
  b_abs : mg "abs" = none
  b_int : mg "int" = none
  b_list : mg "list" = none
  b_tuple : mg "tuple" = none
  b_range : mg "range" = none
  b_sorted : mg "sorted" = none
  b_isinstance : mg "isinstance" = none
  b_min : mg "min" = none
  b_max : mg "max" = none
  b_enumerate : mg "enumerate" = none
  b_zip : mg "zip" = none
  b_sum : mg "sum" = none
  b_all : mg "all" = none
  b_str : mg "str" = none
  b_bool : mg "bool" = none
/-- a def of the top, to be called -/
structure Cal (P : Program) (w : World) (K : PySem.W.Frag) (mg : Str → Option Value) (base : Heap) (x : Str) (k : Nat) (f : Addr) (fd : FuncData) (ps : List Str) (sp : Sp) : Prop where
  ok : FnOk P w K mg base CX0 k f fd ps sp
  mg : mg x = some (.ref f)
  kp : PySem.W.keepIn K (.ref f) = true
  bi : Binds K fd ps []
/-- a method of the class at C, to be called -/
structure Met (P : Program) (w : World) (K : PySem.W.Frag) (mg : Str → Option Value) (base : Heap) (C : Addr) (x : Str) (k : Nat) (f : Addr) (fd : FuncData) (ps : List Str) (sp : Sp) : Prop where
  ok : FnOk P w K mg base CX0 k f fd ps sp
  cl : Cls K C
  me : Meth K C x f
  bi : Binds K fd ps []
def poolO (s : V) (i b c z : Int) : HO := .lst [s, .int i, .int b, .int c, .int z]
/-- a pool: the script at s, the place in it, the number that is drawn from, the count, the seed -/
def PoolOk (F : Hp) (o : HO) : Prop := ∃ s script i b c z, o = poolO s i b c z ∧ rList rInt F script s ∧ 0 ≤ i ∧ 0 ≤ b
theorem PoolOk.up {F F' : Hp} {o : HO} (s : Same F F') (h : PoolOk F o) : PoolOk F' o :=
  let ⟨a, sc, i, b, c, z, e, r, p⟩ := h; ⟨a, sc, i, b, c, z, e, Tf.up s r, p⟩
section
variable {K : PySem.W.Frag} {H F : Hp} {m : Mem} {p : Addr} {s : V} {i b c z : Int} {Q : VK} {R : Hp → Prop}
theorem p_get0 (O : Own H F ((p, poolO s i b c z) :: m)) (k : Q s H) : rIxL K (.ref p) (.int 0) H Q := x_ixO (j := 0) O rfl rfl k
theorem p_get1 (O : Own H F ((p, poolO s i b c z) :: m)) (k : Q (.int i) H) : rIxL K (.ref p) (.int 1) H Q := x_ixO (j := 1) O rfl rfl k
theorem p_get2 (O : Own H F ((p, poolO s i b c z) :: m)) (k : Q (.int b) H) : rIxL K (.ref p) (.int 2) H Q := x_ixO (j := 2) O rfl rfl k
theorem p_get3 (O : Own H F ((p, poolO s i b c z) :: m)) (k : Q (.int c) H) : rIxL K (.ref p) (.int 3) H Q := x_ixO (j := 3) O rfl rfl k
theorem p_get4 (O : Own H F ((p, poolO s i b c z) :: m)) (k : Q (.int z) H) : rIxL K (.ref p) (.int 4) H Q := x_ixO (j := 4) O rfl rfl k
theorem p_set1 {y : Int} (O : Own H F ((p, poolO s i b c z) :: m)) (k : ∀ H', Own H' F ((p, poolO s y b c z) :: m) → R H') : rSetL (.ref p) (.int 1) (.int y) H R := x_setL (j := 1) O rfl (by show _ < 5; decide) fun O' => k _ O'
theorem p_set2 {y : Int} (O : Own H F ((p, poolO s i b c z) :: m)) (k : ∀ H', Own H' F ((p, poolO s i y c z) :: m) → R H') : rSetL (.ref p) (.int 2) (.int y) H R := x_setL (j := 2) O rfl (by show _ < 5; decide) fun O' => k _ O'
theorem p_set3 {y : Int} (O : Own H F ((p, poolO s i b c z) :: m)) (k : ∀ H', Own H' F ((p, poolO s i b y z) :: m) → R H') : rSetL (.ref p) (.int 3) (.int y) H R := x_setL (j := 3) O rfl (by show _ < 5; decide) fun O' => k _ O'
theorem p_set4 {y : Int} (O : Own H F ((p, poolO s i b c z) :: m)) (k : ∀ H', Own H' F ((p, poolO s i b c y) :: m) → R H') : rSetL (.ref p) (.int 4) (.int y) H R := x_setL (j := 4) O rfl (by show _ < 5; decide) fun O' => k _ O'
end
/-- the promise of a draw: a number from 0 on below many -/
def spDraw : Sp := fun vs H Q _ => ∃ p o n F m, vs = [.ref p, .int n] ∧ Own H F ((p, o) :: m) ∧ PoolOk F o ∧ 0 < n ∧ n < 2 ^ 60 ∧
  ∀ r H' o', 0 ≤ r → r < n → Own H' F ((p, o') :: m) → PoolOk F o' → Q (.int r) H'
def spPool (K : PySem.W.Frag) : Sp := fun vs H Q _ => ∃ (a : Addr) (ns : List Int) (F : Hp) (m : Mem), vs = [.ref a] ∧ SqL K H a (ns.map V.int) ∧ Own H F m ∧ ∀ p H' F' o, Same F F' → Own H' F' ((p, o) :: m) → PoolOk F' o → Q (.ref p) H'
def spPick : Sp := fun vs H Q _ => ∃ p o a us F m, vs = [.ref p, .ref a] ∧ Own H F ((p, o) :: m) ∧ PoolOk F o ∧ F a = some (.lst us) ∧ us ≠ [] ∧ us.length < 1000000 ∧
  ∀ w H' o', w ∈ us → Own H' F ((p, o') :: m) → PoolOk F o' → Q w H'
def spRare : Sp := fun vs H Q _ => ∃ p o n F m, vs = [.ref p, .int n] ∧ Own H F ((p, o) :: m) ∧ PoolOk F o ∧ 0 < n ∧ n < 2 ^ 60 ∧
  ∀ b H' o', Own H' F ((p, o') :: m) → PoolOk F o' → Q (.bl b) H'
def spFew : Sp := fun vs H Q _ => ∃ p o a b F m, vs = [.ref p, .int a, .int b] ∧ Own H F ((p, o) :: m) ∧ PoolOk F o ∧ 0 ≤ a ∧ a < 2 ^ 59 ∧ 0 ≤ b ∧ b < 2 ^ 59 ∧
  ∀ r H' o', 0 ≤ r → (r ≤ a ∨ r ≤ b) → Own H' F ((p, o') :: m) → PoolOk F o' → Q (.int r) H'
/-! ### two values that tell the same -/
def atomV : V → Bool
  | .non => true
  | .bl _ => true
  | .int _ => true
  | .str _ => true
  | _ => false
def Sim (F : Hp) : Nat → V → V → Prop
  | 0, v, w => v = w ∧ atomV w = true
  | n + 1, v, w => (v = w ∧ atomV w = true) ∨ ∃ a b vs ws, v = .ref a ∧ w = .ref b ∧ All2 (Sim F n) vs ws ∧ vs.length < 16777216 ∧ ((F a = some (.tup vs) ∧ F b = some (.tup ws)) ∨ (F a = some (.lst vs) ∧ F b = some (.lst ws)))
def spSame : Nat → Sp
  | 0 => fun _ _ _ _ => False
  | n + 1 => fun vs H Q _ => ∃ v w F m, vs = [v, w] ∧ Own H F m ∧ Sim F n v w ∧ ∀ H', Own H' F m → Q (.bl true) H'
theorem Sim.up {F F' : Hp} (s : Same F F') : ∀ {n v w}, Sim F n v w → Sim F' n v w
  | 0, _, _, h => h
  | _ + 1, _, _, .inl h => .inl h
  | _ + 1, _, _, .inr ⟨a, b, vs, ws, e1, e2, r, l, h⟩ => .inr ⟨a, b, vs, ws, e1, e2, r.mono fun _ _ => Sim.up s, l, h.elim (fun h => .inl ⟨s _ _ h.1, s _ _ h.2⟩) fun h => .inr ⟨s _ _ h.1, s _ _ h.2⟩⟩
/-- data of which two that stand for the same are Sim -/
class SimR {α : Type} (R : Rp α) (n : Nat) : Prop where
  sim : ∀ {F : Hp} {x : α} {v w : V}, R F x v → R F x w → Sim F n v w
theorem Sim.succ {F : Hp} : ∀ {n v w}, Sim F n v w → Sim F (n + 1) v w
  | 0, _, _, h => .inl h
  | _ + 1, _, _, .inl h => .inl h
  | _ + 1, _, _, .inr ⟨a, b, vs, ws, e1, e2, r, l, h⟩ => .inr ⟨a, b, vs, ws, e1, e2, r.mono fun _ _ => Sim.succ, l, h⟩
theorem Sim.le {F : Hp} {n k : Nat} {v w : V} (h : n ≤ k) (s : Sim F n v w) : Sim F k v w := by
  induction h with
  | refl => exact s
  | step _ ih => exact ih.succ
theorem all2_sim {α : Type} {R : Rp α} {n : Nat} [SimR R n] {F : Hp} : ∀ {xs : List α} {vs ws : List V}, All2 (R F) xs vs → All2 (R F) xs ws → All2 (Sim F n) vs ws
  | _, _, _, .nil, .nil => .nil
  | _, _, _, .cons h t, .cons h' t' => .cons (SimR.sim h h') (all2_sim t t')
instance : SimR rInt 0 := ⟨fun h h' => by cases h; cases h'; exact ⟨rfl, rfl⟩⟩
instance : SimR rNat 0 := ⟨fun h h' => by cases h; cases h'; exact ⟨rfl, rfl⟩⟩
instance : SimR rBool 0 := ⟨fun h h' => by cases h; cases h'; exact ⟨rfl, rfl⟩⟩
theorem sim_pair {α β : Type} {R : Rp α} {S : Rp β} {n : Nat} (f : ∀ {F x v w}, R F x v → R F x w → Sim F n v w) (g : ∀ {F x v w}, S F x v → S F x w → Sim F n v w) : SimR (rPair R S) (n + 1) :=
  ⟨fun {F x v w} ⟨a, u, z, e, h, r, s⟩ ⟨a', u', z', e', h', r', s'⟩ => .inr ⟨a, a', _, _, e, e', .cons (f r r') (.cons (g s s') .nil), by show 2 < _; decide, .inl ⟨h, h'⟩⟩⟩
/-- lists and tuples of bounded length -/
theorem sim_tup {α : Type} {R : Rp α} {n : Nat} [SimR R n] {F : Hp} {xs : List α} {v w : V} (hl : xs.length < 16777216) : rTup R F xs v → rTup R F xs w → Sim F (n + 1) v w := fun ⟨a, vs, e, h, r⟩ ⟨a', vs', e', h', r'⟩ =>
  .inr ⟨a, a', vs, vs', e, e', all2_sim r r', by rw [← r.length]; exact hl, .inl ⟨h, h'⟩⟩
theorem sim_list {α : Type} {R : Rp α} {n : Nat} [SimR R n] {F : Hp} {xs : List α} {v w : V} (hl : xs.length < 16777216) : rList R F xs v → rList R F xs w → Sim F (n + 1) v w := fun ⟨a, vs, e, h, r⟩ ⟨a', vs', e', h', r'⟩ =>
  .inr ⟨a, a', vs, vs', e, e', all2_sim r r', by rw [← r.length]; exact hl, .inr ⟨h, h'⟩⟩
theorem sim_opt {α : Type} {R : Rp α} {n : Nat} [S : SimR R n] : SimR (rOpt R) n := ⟨fun {F x v w} h h' => by
  cases x with
  | none =>
    cases h
    cases h'
    exact Sim.le (Nat.zero_le n) ⟨rfl, rfl⟩
  | some y => exact S.sim (x := y) h h'⟩
/-! ### isinstance -/
section
variable {K : PySem.W.Frag} {H F : Hp} {m : Mem} {Q : VK}
theorem x_isi {x : V} {t T : String} {b : Bool} (ty : TyOf K H x (.type t)) (h : kitB t T = some b) (k : Q (.bl b) H) : rIsi K [x, .ty T] H Q :=
  ⟨x, .ty T, .type t, .type T, b, rfl, .ty T, .base ty, kit_ty h, k⟩
theorem x_isi_int {i : Int} (k : Q (.bl true) H) : rIsi K [.int i, .ty "int"] H Q := x_isi (.int i) (by decide +kernel) k
theorem x_isi_intB {i : Int} (k : Q (.bl false) H) : rIsi K [.int i, .ty "bool"] H Q := x_isi (.int i) (by decide +kernel) k
end
theorem fn_never {P : Program} {w : World} {K : PySem.W.Frag} {mg : Str → Option Value} {base : Heap} {k : Nat} {f : Addr} {fd : FuncData} {ps : List Str} : FnOk P w K mg base CX0 k f fd ps fun _ _ _ _ => False :=
  ⟨fun _ _ _ _ h => h.elim, fun _ _ _ _ _ _ _ _ _ _ _ _ _ h => h.elim⟩
end Tf
/-! further rules: a list or a tuple walked, enumerate of either, a bound method as a value, sorted by a method -/
namespace Tf
open PySem PySem.Spec PyProof.Rows L2
/-! ### for over a list or a tuple -/
def iSeq (K : PySem.W.Frag) (tl : TE) : TI := fun σ H R => tl σ H fun x H1 => ∃ a, x = .ref a ∧ (((∃ xs, SqL K H1 a xs) ∧ R (Itl K a) H1) ∨ ((∃ xs, SqT K H1 a xs) ∧ R (Itt K a) H1))
theorem pi_seq {X : Cx} {tg l : Expr} {tl : TE} (hl : PE X l tl) : PI X tg l (iSeq X.K tl) := by
  refine ⟨fun pins s σ H R I h => ?_⟩
  refine thn (hl.run pins s σ H _ I h) fun v s1 ⟨x, H1, I1, r1, q1⟩ => ?_
  obtain ⟨a, e, q1⟩ := q1
  subst e
  cases r1
  rcases q1 with ⟨⟨xs, hq⟩, q⟩ | ⟨⟨xs, hq⟩, q⟩
  · obtain ⟨its, rv, p, hz⟩ := I1.list hq
    refine wpAny_pyIter_list p.isList ?_
    refine ⟨s1.heap.objs.size, [s1.heap.objs.size], _, _, H1, rfl, I1.kept (t' := s1.toks) fun b o e => Heap.get?_push_of_some _ e, turn_list a _, ⟨_, Heap.get?_push_size _ rfl, rfl, rfl⟩, fun b hb => ?_, q⟩
    have e : b = s1.heap.objs.size := by simpa using hb
    subst e
    exact I1.fpOk (Nat.le_refl _) (I1.hok.fresh (Nat.le_refl _))
  · obtain ⟨its, rv, p, hz⟩ := I1.tuple hq
    refine wpAny_pyIter_tuple (show s1.heap.IsTuple a its.toArray from p) ?_
    refine ⟨s1.heap.objs.size, [s1.heap.objs.size], _, _, H1, rfl, I1.kept (t' := s1.toks) fun b o e => Heap.get?_push_of_some _ e, turn_tuple a _, ⟨_, Heap.get?_push_size _ rfl, rfl, rfl⟩, fun b hb => ?_, q⟩
    have e : b = s1.heap.objs.size := by simpa using hb
    subst e
    exact I1.fpOk (Nat.le_refl _) (I1.hok.fresh (Nat.le_refl _))
/-! ### enumerate of a tuple -/
set_option maxHeartbeats 1000000 in
theorem meets_enumerate_newT {v : Value} {o : Obj} {H : Heap → Prop} (B : Begins v o H) :
    Meets (Builtin.«enumerate.__new__» ⟨[.type "enumerate", v], []⟩) (fun _ R s => H s.heap ∧
      R (.ok (.ret (.ref (s.heap.push o).objs.size))) { s with heap := (s.heap.push o).push { cls := .type "enumerate", data := .fields #[.none, .bool false, .ref s.heap.objs.size, rawInt 0, .none, .none] } }) :=
  .of_wp fun prog w A R s h => by
    obtain ⟨hp, g, d, tk, os⟩ := s; obtain ⟨h1, h⟩ := h
    have hsub := sub_enumerate
    have q1 : ∀ {A' : Around} {E : Value → Shared → Prop} {Q : Value → Shared → Prop}, Q (.ref hp.objs.size) ⟨hp.push o, g, d, tk, os⟩ → wpAny (model prog w) A' (pyIter v) Q E ⟨hp, g, d, tk, os⟩ :=
      fun q => B.iter prog w _ _ ⟨hp, g, d, tk, os⟩ _ h1 q
    wp_walk using q1
    refine wpAny_stack_any fun st => wpAny_pure ?_
    split
    · rename_i c _ _ _ _ _
      cases (c == Value.type "enumerate")
      · wp_walk using q1
        exact ⟨_, rfl, h⟩
      · wp_walk using q1
        exact ⟨_, rfl, h⟩
    · wp_walk using q1
      exact ⟨_, rfl, h⟩
theorem enumT_begins {prog : Program} {w : World} {A : Around} {E : Value → Shared → Prop} {s : Shared} {v : Value} {o : Obj} {H : Heap → Prop} {Q : Value → Shared → Prop} (B : Begins v o H) (h1 : H s.heap)
    (h : ∀ h', IsEnum h' (s.heap.objs.size + 1) s.heap.objs.size 0 .none → h'.get? s.heap.objs.size = some o → h'.objs.size = s.heap.objs.size + 2 →
      (∀ b o, s.heap.get? b = some o → h'.get? b = some o) → Q (.ref (s.heap.objs.size + 1)) { s with heap := h' }) :
    wpAny (model prog w) A (call (.type "enumerate") [v]) Q E s := by
  refine callType_new F.called_enumerate (by decide) (F.typeCall_enumerate_1 _) (F.newCall_enumerate_1 _) (fun obj => F.args_object_init_2 obj _) F.entry_enumerate_new
    (meets_enumerate_newT B) ⟨h1, ?_⟩
  have hz : (s.heap.push o).objs.size = s.heap.objs.size + 1 := Heap.size_push ..
  show _ ∧ _
  rw [hz]
  have he : IsEnum ((s.heap.push o).push { cls := .type "enumerate", data := .fields #[.none, .bool false, .ref s.heap.objs.size, rawInt 0, .none, .none] }) (s.heap.objs.size + 1) s.heap.objs.size 0 .none := by
    have := Heap.get?_push_size (s.heap.push o) (o := { cls := .type "enumerate", data := .fields #[.none, .bool false, .ref s.heap.objs.size, rawInt 0, .none, .none] }) rfl
    rw [hz] at this; exact this
  refine ⟨⟨_, he, rfl⟩, h _ he (Heap.get?_push_of_some _ (Heap.get?_push_size _ B.free)) (by rw [Heap.size_push, hz]) fun b o x => Heap.get?_push_of_some _ (Heap.get?_push_of_some _ x)⟩
/-- the tuple at a, its items with their places -/
def IteT (K : PySem.W.Frag) (a : Addr) : It :=
  ⟨fun i H => ∃ (xs : List V) (x : V), SqT K H a xs ∧ xs[i]? = some x, fun i H v H' => ∃ T x, v = .ref T ∧ H T = none ∧ H' = upd H T (.tup [.int (i : Nat), x]) ∧ ∀ xs, SqT K H a xs → xs[i]? = some x, fun i H => ∃ xs : List V, SqT K H a xs ∧ xs.length = i⟩
theorem turn_enumT {P : Program} {w : World} {K : PySem.W.Frag} {elts : List Expr} {kk : Nat} {tpos : Pos} (a e it : Addr) (hat : a ≠ it) :
    Turn P w K (.Tuple elts kk tpos) (IteT K a) [e, it] e (fun i h => (∃ old, IsEnum h e it ((i : Nat) : Int) old) ∧ h.IsTupleIter it a i ∧ e ≠ it ∧ e ≠ a) where
  mem := by simp
  obj := fun i h st b hb => by
    obtain ⟨⟨old, he⟩, ⟨o, ho, hc, hd⟩, _⟩ := st
    have e' : b = e ∨ b = it := by simpa using hb
    rcases e' with z | z
    · rw [z]; exact ⟨_, he, fun v q => nomatch q⟩
    · rw [z]; exact ⟨o, ho, fun v q => by rw [hd] at q; cases q⟩
  keep := fun i h h' st k => let ⟨⟨old, he⟩, hi, hne⟩ := st; ⟨⟨old, k e (by simp) _ he⟩, hi.at fun o q => k it (by simp) o q, hne⟩
  item := by
    intro X hP hw hK hc i pins s σ H E I hf st hg
    subst hP hw hK
    obtain ⟨⟨old, he⟩, hit, hne, hea⟩ := st
    obtain ⟨xs, x, hq, hx⟩ := hg
    obtain ⟨its, rv, p, hz⟩ := I.tuple hq
    obtain ⟨u, hu, ru⟩ := rv.get hx
    have hel : e < s.heap.objs.size := Heap.lt_size he
    have hil : it < s.heap.objs.size := by obtain ⟨_, q, _⟩ := hit; exact Heap.lt_size q
    have hlt : i < its.toArray.size := by
      have := (List.getElem?_eq_some_iff.mp hu).1
      simpa using this
    refine wpAny_pyNext_enum_itemC (Draws.tuple (show X.A.in1.handled = none from I.ok.hd hc) it a hat its.toArray) he ⟨hit, p⟩ hlt hne (by simp [hne, hea]) fun x' h' tk hP' ho hit' hT hsz hk => ?_
    have ex : x' = u := by
      have h1 : its.toArray[i]? = some x' := hP'
      rw [List.getElem?_toArray, hu] at h1
      exact (Option.some.inj h1).symm
    subst ex
    refine ⟨_, rfl, wpAny_letOwnedTupleGo_enum (s := { s with heap := h', toks := tk + 1 }) ho fun h'' he' sb => ?_⟩
    have hT2 : h''.get? s.heap.objs.size = some { cls := .type "tuple", data := .seq #[.int i tk, x'] } := (sb.2 _ (Nat.ne_of_gt hel)).trans hT
    have new : ObjOk X.prog X.w (upd H s.heap.objs.size (.tup [.int (i : Nat), x])) h'' s.heap.objs.size (.tup [.int (i : Nat), x]) :=
      ⟨by show 2 ≤ sizeLine; decide, [.int i tk, x'], .cons ⟨_, rfl⟩ (.cons ru .nil), ⟨_, hT2, rfl, _, rfl⟩⟩
    have I1 : Inv X pins σ (upd H s.heap.objs.size (.tup [.int (i : Nat), x])) { s with heap := h'', toks := tk + 1 } :=
      I.turnedNew (ch := [e, it]) (fun b ob hb q => (sb.2 b (fun z => hb (by simp [z]))).trans (hk b ob (fun z => hb (by simp [z])) (fun z => hb (by simp [z])) q)) hf (Nat.le_refl _) new
    refine ⟨.ref s.heap.objs.size, _, I1, rfl, ⟨_, x, rfl, I.hok.fresh (Nat.le_refl _), rfl, fun ys hy => by rw [I.tuple_inj hy hq]; exact hx⟩, ⟨⟨x', ?_⟩, hit'.1.at fun o q => (sb.2 it (Ne.symm hne)).trans q, hne, hea⟩, fun b hb => ?_⟩
    · have e1 : ((i + 1 : Nat) : Int) = (i : Int) + 1 := by omega
      rw [e1]; exact he'
    · have hb' : b < s.heap.objs.size := by
        have e' : b = e ∨ b = it := by simpa using hb
        rcases e' with z | z
        · rw [z]; exact hel
        · rw [z]; exact hil
      rw [upd_ne (Nat.ne_of_lt hb')]
      exact (hf b hb).1
  done := by
    intro X hP hw hK hc i pins s σ H E I hf st hg
    subst hP hw hK
    obtain ⟨⟨old, he⟩, hit, hne, hea⟩ := st
    obtain ⟨xs, hq, hx⟩ := hg
    obtain ⟨its, rv, p, hz⟩ := I.tuple hq
    obtain ⟨f0, f1, f2, f3, f4, f5⟩ := hf it (by simp)
    have hl := rv.length
    have hn : i = its.toArray.size := by
      rw [List.size_toArray, ← hl]
      exact hx.symm
    subst hn
    exact wpAny_pyNext_enum_endD (Draws.tuple (show X.A.in1.handled = none from I.ok.hd hc) it a hat its.toArray) he ⟨hit, p⟩ fun h' eb => ⟨rfl, I.turned (t' := s.toks) (fun b o hb e => eb b o hb e) f0 f1 f3 f4 f5⟩
  self := fun A i s Q E st h => let ⟨⟨_, he⟩, _⟩ := st; wpAny_pyIter_enum he h
def iEnumS (K : PySem.W.Frag) (ta : TA) : TI := fun σ H R => ta σ H fun vs H1 => ∃ a, vs = [.ref a] ∧ (((∃ xs, SqL K H1 a xs) ∧ R (Ite K a) H1) ∨ ((∃ xs, SqT K H1 a xs) ∧ R (IteT K a) H1))
theorem pi_enumS {X : Cx} {e : Expr} {ta : TA} {p pos tpos : Pos} {elts : List Expr} {kk : Nat} (hg : Gl X "enumerate") (hm : X.mg "enumerate" = none) (ha : PA X [e] ta) (hs : starEach [e] X.env = [(false, eval e X.env)] := by rfl) :
    PI X (.Tuple elts kk tpos) (.Call (.Name "enumerate" p) [e] [] pos) (iEnumS X.K ta) := by
  refine ⟨fun pins s σ H R I h => ?_⟩
  refine Call_ (ld_blt I hg hm boot_enumerate (PyProof.Rows.callWith_type1 (thn (ha.run pos pins s σ H _ I h) fun us s1 ⟨vs, H1, I1, r1, q1⟩ => ?_) hs rfl))
  obtain ⟨a, ex, q1⟩ := q1
  subst ex
  cases r1 with
  | cons r rr =>
    cases rr
    cases r
    rcases q1 with ⟨⟨xs, hq⟩, q⟩ | ⟨⟨xs, hq⟩, q⟩
    · obtain ⟨its, rv, p', hz⟩ := I1.list hq
      refine call_enumerate_list p'.isList fun h' he hit hsz hk => wpAny_pyIter_enum he ?_
      have I2 : Inv X pins σ H1 { s1 with heap := h' } := I1.kept (t' := s1.toks) hk
      refine ⟨s1.heap.objs.size + 1, [s1.heap.objs.size + 1, s1.heap.objs.size], _, _, H1, rfl, I2, turn_enum a (s1.heap.objs.size + 1) s1.heap.objs.size, ⟨⟨.none, he⟩, hit, Nat.succ_ne_self _⟩, fun b hb => ?_, q⟩
      have e' : b = s1.heap.objs.size + 1 ∨ b = s1.heap.objs.size := by simpa using hb
      have hle : s1.heap.objs.size ≤ b := by
        rcases e' with z | z
        · rw [z]; exact Nat.le_add_right _ _
        · rw [z]; exact Nat.le_refl _
      exact I1.fpOk hle (I1.hok.fresh hle)
    · obtain ⟨its, rv, p', hz⟩ := I1.tuple hq
      have hal : a < s1.heap.objs.size := p'.lt
      refine enumT_begins (begins_tuple a its.toArray) p' fun h' he hit hsz hk => wpAny_pyIter_enum he ?_
      have I2 : Inv X pins σ H1 { s1 with heap := h' } := I1.kept (t' := s1.toks) hk
      refine ⟨s1.heap.objs.size + 1, [s1.heap.objs.size + 1, s1.heap.objs.size], _, _, H1, rfl, I2, turn_enumT a (s1.heap.objs.size + 1) s1.heap.objs.size (Nat.ne_of_lt hal), ⟨⟨.none, he⟩, ⟨_, hit, rfl, rfl⟩, Nat.succ_ne_self _, Nat.ne_of_gt (Nat.lt_succ_of_lt hal)⟩, fun b hb => ?_, q⟩
      have e' : b = s1.heap.objs.size + 1 ∨ b = s1.heap.objs.size := by simpa using hb
      have hle : s1.heap.objs.size ≤ b := by
        rcases e' with z | z
        · rw [z]; exact Nat.le_add_right _ _
        · rw [z]; exact Nat.le_refl _
      exact I1.fpOk hle (I1.hok.fresh hle)
theorem walk_enumT {K : PySem.W.Frag} {a : Addr} {xs : List V} : Walk (IteT K a) xs.length (fun H => SqT K H a xs ∧ ∀ ys, SqT K H a ys → ys = xs) (YPair (fun i => some (.int (i : Nat))) (fun i => xs[i]?)) where
  goes := fun i H hi h => ⟨xs, xs[i], h.1, List.getElem?_eq_getElem hi⟩
  stops := fun H h => ⟨xs, h.1, rfl⟩
  yields := fun i H x H' hi h ⟨T, y, e, hn, eh, k⟩ => ⟨T, .int (i : Nat), y, e, hn, eh, rfl, k xs h.1⟩
theorem walk_enumL {K : PySem.W.Frag} {a : Addr} {xs : List V} : Walk (Ite K a) xs.length (fun H => SqL K H a xs) (YPair (fun i => some (.int (i : Nat))) (fun i => xs[i]?)) where
  goes := fun i H hi h => ⟨xs, xs[i], h, List.getElem?_eq_getElem hi⟩
  stops := fun H h => ⟨xs, h, Nat.le_refl _⟩
  yields := fun i H x H' hi h ⟨T, y, e, hn, eh, k⟩ => ⟨T, .int (i : Nat), y, e, hn, eh, rfl, k xs h⟩
/-! ### the steps -/
def FS (K : PySem.W.Frag) (g : TG) (tb : TS) (D : Ends) (σ : L2.St) : VK := fun v H1 => ∃ a, v = .ref a ∧ (((∃ xs, SqL K H1 a xs) ∧ ForW (Itl K a) g tb D σ H1) ∨ ((∃ xs, SqT K H1 a xs) ∧ ForW (Itt K a) g tb D σ H1))
def FE (K : PySem.W.Frag) (g : TG) (tb : TS) (D : Ends) (σ : L2.St) : List V → Hp → Prop := fun vs H1 => ∃ a, vs = [.ref a] ∧ (((∃ xs, SqL K H1 a xs) ∧ ForW (Ite K a) g tb D σ H1) ∨ ((∃ xs, SqT K H1 a xs) ∧ ForW (IteT K a) g tb D σ H1))
section
variable {K : PySem.W.Frag} {σ : L2.St} {H F : Hp} {m : Mem} {D : Ends} {tb : TS} {g : TG} {v : V} {tl : TE} {ta : TA} {α β : Type} {R : Rp α} {S : Rp β} {xs : List α} {Q : VK} {tt : TT} {te : TE} {vs : List Nat}
theorem x_forS (k : tl σ H (FS K g tb D σ)) : tFor (iSeq K tl) g tb D σ H := k
theorem x_forE (k : ta σ H (FE K g tb D σ)) : tFor (iEnumS K ta) g tb D σ H := k
theorem x_doS [MonoS R] (O : Own H F m) (h : rSeq R F xs v) (P : Nat → L2.St → Hp → Mem → Prop) (h0 : P 0 σ F m)
    (hs : ∀ i x w σ' H' F' m', xs[i]? = some x → R F' x w → Same F F' → Own H' F' m' → P i σ' F' m' → g w σ' H' fun σ2 H2 => tb { D with nx := LI P F (i + 1), ct := LI P F (i + 1), bk := D.nx } σ2 H2)
    (hd : ∀ σ' H' F' m', Same F F' → Own H' F' m' → P xs.length σ' F' m' → D.nx σ' H') : FS K g tb D σ v H := by
  rcases h with h | h
  · obtain ⟨a, e, h1, h2⟩ := x_doL (K := K) O h P h0 hs hd
    exact ⟨a, e, .inl ⟨h1, h2⟩⟩
  · obtain ⟨a, e, h1, h2⟩ := x_doT (K := K) O h P h0 hs hd
    exact ⟨a, e, .inr ⟨h1, h2⟩⟩
/-- for k, x in enumerate(xs): the pair is a new tuple that stands still -/
theorem x_doE [MonoS R] (O : Own H F m) (h : rSeq R F xs v) (P : Nat → L2.St → Hp → Mem → Prop) (h0 : P 0 σ F m)
    (hs : ∀ i x w σ' H' F' m', xs[i]? = some x → rPair rNat R F' (i, x) w → Same F F' → Own H' F' m' → P i σ' F' m' → g w σ' H' fun σ2 H2 => tb { D with nx := LI P F (i + 1), ct := LI P F (i + 1), bk := D.nx } σ2 H2)
    (hd : ∀ σ' H' F' m', Same F F' → Own H' F' m' → P xs.length σ' F' m' → D.nx σ' H') (hP : ∀ i σ' F1 F2 m1, Same F1 F2 → P i σ' F1 m1 → P i σ' F2 m1) : FE K g tb D σ [v] H := by
  have body : ∀ (us : List V), All2 (R F) xs us → ∀ (i : Nat) (x : V) (σ' : L2.St) (H' H2 : Hp), i < us.length → LI P F i σ' H' → YPair (fun i => some (.int (i : Nat))) (fun i => us[i]?) i H' x H2 → g x σ' H2 fun σ2 H2 => tb { D with nx := LI P F (i + 1), ct := LI P F (i + 1), bk := D.nx } σ2 H2 := by
    rintro us r i x σ' H' H2 hi ⟨F', m', s, O', p⟩ ⟨T, z, y, rfl, hT, rfl, hz, hy⟩
    cases hz
    obtain ⟨q, hq, hr⟩ := r.get' hy
    have sT := same_new (o := .tup [.int (i : Nat), y]) (O'.fresh hT)
    exact hs i q _ σ' _ _ m' hq ⟨T, .int (i : Nat), y, rfl, upd_same, rfl, up (s.trans sT) hr⟩ (s.trans sT) (O'.new hT) (hP _ _ _ _ _ sT p)
  rcases h with h | h
  · obtain ⟨a, us, rfl, ha, r⟩ := h
    refine ⟨a, rfl, .inl ⟨⟨us, .inl (.inl (O.frz ha))⟩, for_it walk_enumL (LI P F) ⟨F, m, Same.refl F, O, h0⟩ (fun i σ' H' _ ⟨F', m', s, O', _⟩ => .inl (.inl (O'.frz (s _ _ ha)))) (fun i x σ' H' H2 hi p y => body us r i x σ' H' H2 hi p y) fun σ' H' ⟨F', m', s, O', p⟩ => hd σ' H' F' m' s O' (by rw [r.length]; exact p)⟩⟩
  · obtain ⟨a, us, rfl, ha, r⟩ := h
    refine ⟨a, rfl, .inr ⟨⟨us, .inl (.inl (O.frz ha))⟩, ?_⟩⟩
    have w2 : Walk (IteT K a) us.length (fun H => SqT K H a us) (YPair (fun i => some (.int (i : Nat))) (fun i => us[i]?)) :=
      ⟨fun i H hi h => ⟨us, us[i], h, List.getElem?_eq_getElem hi⟩, fun H h => ⟨us, h, rfl⟩, fun i H x H' hi h ⟨T, y, e, hn, eh, k⟩ => ⟨T, .int (i : Nat), y, e, hn, eh, rfl, k us h⟩⟩
    exact for_it w2 (LI P F) ⟨F, m, Same.refl F, O, h0⟩ (fun i σ' H' _ ⟨F', m', s, O', _⟩ => .inl (.inl (O'.frz (s _ _ ha)))) (fun i x σ' H' H2 hi p y => body us r i x σ' H' H2 hi p y) fun σ' H' ⟨F', m', s, O', p⟩ => hd σ' H' F' m' s O' (by rw [r.length]; exact p)
/-- a comprehension over either -/
def CS (K : PySem.W.Frag) (g : TG) (tt : TT) (te : TE) (vs : List Nat) (σ : L2.St) (Q : VK) : VK := fun v H1 => ∃ a, v = .ref a ∧ (((∃ xs, SqL K H1 a xs) ∧ LcW (Itl K a) g tt te vs σ Q H1) ∨ ((∃ xs, SqT K H1 a xs) ∧ LcW (Itt K a) g tt te vs σ Q H1))
theorem x_lcS (k : tl σ H (CS K g tt te vs σ Q)) : tLc (iSeq K tl) g tt te vs σ H Q := k
theorem x_docS [MonoS R] [MonoS S] (O : Own H F m) (h : rSeq R F xs v) (P : Nat → Hp → Mem → List β → Prop) (h0 : P 0 F m [])
    (hs : ∀ D acc i x w H' F' m' ys, xs[i]? = some x → R F' x w → Same F F' → Own H' F' ((D, .lst acc) :: m') → All2 (S F') ys acc → ys.length ≤ i → P i F' m' ys →
      g w (wipe σ vs) H' fun σ2 H2 => wipe σ2 vs = wipe σ vs ∧ tt σ2 H2 fun b H3 => if b = true then te σ2 H3 fun y H4 => ∃ acc, H4 D = some (.lst acc) ∧ acc.length < sizeLine ∧ LcP S P F D (i + 1) (upd H4 D (.lst (acc ++ [y]))) else LcP S P F D (i + 1) H3)
    (hd : ∀ v' H' F' m' ys, Same F F' → Own H' F' m' → rList S F' ys v' → P xs.length F' m' ys → Q v' H') (hP : ∀ F1 F2 m1 ys i, Same F1 F2 → P i F1 m1 ys → P i F2 m1 ys := by exact fun _ _ _ _ _ _ h => h) : CS K g tt te vs σ Q v H := by
  rcases h with h | h
  · obtain ⟨a, e, h1, h2⟩ := x_docL (K := K) O h P h0 hs hd hP
    exact ⟨a, e, .inl ⟨h1, h2⟩⟩
  · obtain ⟨a, e, h1, h2⟩ := x_docT (K := K) O h P h0 hs hd hP
    exact ⟨a, e, .inr ⟨h1, h2⟩⟩
end
end Tf
/-! sorted(xs, key=o.m, reverse=b): the method keeps the abstract heap and gives an int -/
namespace Tf
open PySem PySem.Spec PyProof.Rows L2 PySem.W
/-! ### a bound method as a value -/
def tBndM (C g : Addr) (m : Str) (ta : TE) : TE := fun σ H Q => ta σ H fun x H1 => ∃ a dx fs, x = .ref a ∧ H1 a = some (.ins C dx fs) ∧ fs.lookup m = none ∧ ∀ q, H1 q = none → Q (.ref q) (upd H1 q (.met g a))
theorem pe_bndM {X : Cx} {o : Expr} {m : Str} {pos : Pos} {ta : TE} {C g : Addr} (he : PE X o ta) (c : Cls X.K C) (b : BMeth X.K C m g) (hb : attributeBase o m X.env (eval o X.env) = eval o X.env := by rfl) : PE X (.Attribute o m pos) (tBndM C g m ta) := by
  refine ⟨fun pins s σ H Q I h => ?_⟩
  refine attr_of hb (thn (he.run pins s σ H _ I h) fun u s1 ⟨x, H1, I1, rx, a, dx, fs, ex, ea, l, q⟩ => ?_)
  subst ex
  exact op_getbound I1 ea c b l rx q
theorem reads_int {h : Heap} {i : Int} {t : Tok} : Reads h (.int i t) (.int i) [] := Reads.int _ _
section
variable {X : Cx} {pins : List (Addr × Obj)} {σ : L2.St} {H : Hp}
/-- the callee runs, at another around -/
theorem run_at {A : Around} {k : Nat} {f : Addr} {sp : Sp} {s : Shared} {Q : VK} {us : List Value} {vs : List V} {R : Result → Shared → Prop} (F : FnR X.prog X.w X.K X.mg X.base CX0 k f sp) (hr : Room k A) (hA : A.frames = X.A.frames) (I : Inv X pins σ H s) (r : Vals vs us) (h : sp vs H Q E0)
    (hR : ∀ u s', EP X pins σ Q u s' → R (.ok (.ret u)) s') : codeAny (model X.prog X.w) A (.call (.ref f) ⟨us, []⟩) R s := by
  have e0 : Env0 X.prog X.w X.K X.mg X.base A X.stack s H := ⟨by rw [hA]; exact I.env0.frames, I.env0.mod, I.env0.bs, I.env0.bsz, I.env0.funs, I.env0.frf, I.env0.hok, I.env0.bare⟩
  refine codeAny_mono (F A X.stack s H us vs Q E0 hr e0 r h) fun r s' hq => ?_
  cases r with
  | error e => exact False.elim hq
  | ok fl =>
    cases fl with
    | ret u => exact hR u s' (I.after hq)
    | next => exact False.elim hq
    | brk => exact False.elim hq
    | cont => exact False.elim hq
/-- the loop over the keys: X's invariant is kept -/
theorem keyI_rest {A : Around} {a kS : Addr} {b : Bool} {e1 : Nat} {vs : List Value} {xs : List V} {key : V → Int} {f : Value} {s : Shared} {P : PySem.Fin → Shared → Prop} {E : Value → Shared → Prop} (I : Inv X pins σ H s) (fa : FpOk X pins H a) (fk : FpOk X pins H kS) (hka : kS ≠ a)
    (nk : s.heap.get? kS = some (seqObj "list" #[] 0)) (na : s.heap.get? a = some (seqObj "list" #[] e1)) (rv : Vals xs vs) (hZ : vs.length ≤ sizeLine) (hu : A.units + 1 < cLine)
    (turn : ∀ (x : V) (v : Value), x ∈ xs → RelV x v → ∀ (pins' : List (Addr × Obj)) (s' : Shared), Inv X pins' σ H s' → wpAny (model X.prog X.w) A (call f [v]) (fun u s'' => Inv X pins' σ H s'' ∧ RelV (.int (key x)) u) (fun _ _ => False) s')
    (h : ∀ (ys : List V) s', ys.Perm xs → ys.Pairwise (fun x y => if b = true then key y ≤ key x else key x ≤ key y) → Inv X pins σ (upd H a (.lst ys)) s' → P (.done (.ret .none)) s') :
    wpAny (model X.prog X.w) A (ksk_rest a f b vs.toArray e1 (.ref kS)) P E s := by
  have hl : xs.length = vs.length := rv.length
  unfold ksk_rest
  refine wpAny_bind (wpAny_rule ?_)
  first
    | rw [List.forIn_toArray]
    | (rw [← Array.forIn_toList]; simp only [List.toList_toArray])
    | rw [← Array.forIn_toList]
  refine wpAny_bind (ksk_fold (fun i s' => ∃ kA e, Inv X pins σ H s' ∧ s'.heap.get? kS = some (seqObj "list" kA e) ∧ s'.heap.get? a = some (seqObj "list" #[] e1) ∧ Vals ((xs.take i).map fun x => V.int (key x)) kA.toList) vs 0 s
    ⟨#[], 0, I, nk, na, by rw [List.take_zero]; exact .nil⟩ ?step ?done)
  case step =>
    rintro j v s' hx ⟨kA, e, I', nk', na', hk⟩
    simp only [Nat.zero_add] at hk ⊢
    have hj : j < vs.length := (List.getElem?_eq_some_iff.mp hx).1
    have hjx : j < xs.length := by omega
    have ex : xs[j]? = some xs[j] := List.getElem?_eq_getElem hjx
    obtain ⟨v', hv', hr⟩ := rv.get ex
    rw [hx] at hv'
    obtain rfl : v = v' := Option.some.inj hv'
    have hz : kA.size ≤ vs.length := by
      have h1 := hk.length
      simp at h1
      omega
    have pin : ∀ p ∈ pins ++ [(kS, seqObj "list" kA e), (a, seqObj "list" #[] e1)], s'.heap.get? p.1 = some p.2 ∧ H p.1 = none ∧ p.1 ≠ X.env.locals ∧ p.1 ∉ X.fs ∧ ∀ v, p.2.data ≠ .cell v := fun p hp => by
      rcases List.mem_append.mp hp with hp | hp
      · exact I'.pin p (List.mem_append_right _ hp)
      · rcases List.mem_cons.mp hp with rfl | hp
        · exact ⟨nk', fk.1, fk.2.1, fk.2.2.1, fun v q => nomatch q⟩
        · rcases List.mem_singleton.mp hp with rfl
          exact ⟨na', fa.1, fa.2.1, fa.2.2.1, fun v q => nomatch q⟩
    refine wpAny_bind (wpAny_attempt (wpAny_mono (turn xs[j] v (List.getElem_mem hjx) hr _ s' (I'.pins_of pin)) (fun u s'' he => ?_) fun _ _ hF => hF.elim))
    obtain ⟨I2, ru⟩ := he
    have nk2 : s''.heap.get? kS = some (seqObj "list" kA e) := (I2.pin (kS, seqObj "list" kA e) (by simp)).1
    have na2 : s''.heap.get? a = some (seqObj "list" #[] e1) := (I2.pin (a, seqObj "list" #[] e1) (by simp)).1
    have I3 : Inv X pins σ H s'' := I2.pins_of fun p hp => I2.pin p (List.mem_append_right _ (List.mem_append_left _ hp))
    have s1 := Heap.SameBut.update s''.heap kS (Obj.mapSeq (·.push u))
    obtain ⟨c2, hc2⟩ : ∃ c2, (s''.heap.update kS (Obj.mapSeq (·.push u))).get? kS = some (seqObj "list" (kA.push u) c2) := ⟨_, get?_update_seq nk2 (·.push u)⟩
    have ek : xs.take (j + 1) = xs.take j ++ [xs[j]] := by rw [List.take_add_one, ex]; simp
    have ea : (kA.push u).toList = kA.toList ++ [u] := by simp
    refine wpAny_bind (listUpdate_at nk2 rfl ?_ (Nat.le_trans hz hZ) (Nat.le_trans (Nat.le_of_eq (Array.size_push ..)) (Nat.succ_le_succ (Nat.le_trans hz hZ))))
    refine wpAny_pure ⟨rfl, kA.push u, c2, I3.turned (t' := s''.toks) (fun b o hb e => (s1.2 b hb).trans e) fk.1 fk.2.1 fk.2.2.2.1 fk.2.2.2.2.1 fk.2.2.2.2.2, hc2, (s1.2 a hka.symm).trans na2, ?_⟩
    rw [ea, ek, List.map_append]
    exact hk.append (.cons ru .nil)
  case done =>
    rintro s' ⟨kA, e, I', nk', na', hk⟩
    have hk : Vals (xs.map fun x => V.int (key x)) kA.toList := by
      have e3 : xs.take (0 + vs.length) = xs := List.take_of_length_le (by omega)
      rw [e3] at hk
      exact hk
    have hsz : kA.size = vs.length := by
      have h1 := hk.length
      simp at h1
      omega
    try dsimp only
    refine wpAny_bind (listItems_at nk' rfl ?_)
    have hk' : EachIs (fun v k => ∃ as, Reads s'.heap v k as) kA.toList (xs.map fun x => PyData.int (key x)) := by
      clear hsz nk' na' nk
      revert hk
      generalize kA.toList = us
      intro hk
      have go : ∀ (zs : List V) (us : List Value), Vals (zs.map fun x => V.int (key x)) us → EachIs (fun v k => ∃ as, Reads s'.heap v k as) us (zs.map fun x => PyData.int (key x)) := by
        intro zs
        induction zs with
        | nil =>
          intro us hv
          cases hv
          exact .nil
        | cons z zs ih =>
          intro us hv
          cases hv with
          | cons r t =>
            obtain ⟨tk, rfl⟩ := r
            exact .cons ⟨[], reads_int⟩ (ih _ t)
      exact go xs us hk
    have hal : AllAlike (xs.map fun x => PyData.int (key x)) := AllAlike.of (enc := fun x => PyData.int (key x)) fun _ _ => rfl
    have hsk : Sortable (xs.map fun x => PyData.int (key x)) := .inr fun d hd => by
      obtain ⟨x, _, rfl⟩ := List.mem_map.mp hd
      exact ⟨by simp, by simp⟩
    have hu' : ∀ d, d ∈ (xs.map fun x => PyData.int (key x)) → A.units + d.depth < cLine := fun d hd => by
      obtain ⟨x, _, rfl⟩ := List.mem_map.mp hd
      have : (PyData.int (key x)).depth = 0 := by simp [PyData.depth]
      omega
    refine keyH_end (κ := dataKind s'.heap (xs.map fun x => PyData.int (key x))) (h₁ := hideAll s'.heap [kS]) (fun b o _ e => of_hideAll _ e) (hideAll_none _ (by simp)) nk' na' hka (SortsAt.data (s := s') hk' hal hsk hu') hsz hZ fun h3 tk3 c k3 n3 => ?_
    have ko : KeyedOut b (xs.map fun x => PyData.int (key x)) vs (sortVals (dataKind s'.heap (xs.map fun x => PyData.int (key x))) b kA.toList vs) := ⟨s'.heap, kA.toList, hal, rfl, hk'⟩
    have rv' : EachIs (fun u x => L2.RelV x u) vs xs := by
      have go : ∀ {xs : List V} {vs : List Value}, Vals xs vs → EachIs (fun u x => L2.RelV x u) vs xs := fun r => by
        induction r with
        | nil => exact .nil
        | cons r t ih => exact .cons r ih
      exact go rv
    have eo := keyedOut_each (fun x : V => PyData.int (key x)) ko rv'
    have hlen := (ko.length (by rw [List.length_map]; exact hl))
    generalize hout : sortVals (dataKind s'.heap (xs.map fun x => PyData.int (key x))) b kA.toList vs = out at n3 eo hlen
    have vo : Vals (xs.mergeSort (dataLe b fun x => PyData.int (key x))) out := by
      revert eo
      generalize xs.mergeSort (dataLe b fun x => PyData.int (key x)) = ys
      intro eo
      clear n3 hout hlen
      induction eo with
      | nil => exact .nil
      | cons r _ ih => exact .cons r ih
    refine h (xs.mergeSort (dataLe b fun x => PyData.int (key x))) _ (List.mergeSort_perm _ _) ?_ ?_
    · cases b with
      | true =>
        rw [dataGe_int]
        have := List.pairwise_mergeSort (le := fun a b : V => decide (key b ≤ key a)) (fun a b c h1 h2 => by simp at h1 h2 ⊢; omega) (fun a b => by simp; omega) xs
        exact this.imp fun h => by simpa using h
      | false =>
        rw [dataLe_int]
        have := List.pairwise_mergeSort (le := fun a b : V => decide (key a ≤ key b)) (fun a b c h1 h2 => by simp at h1 h2 ⊢; omega) (fun a b => by simp; omega) xs
        exact this.imp fun h => by simpa using h
    · have kp : ∀ b o, b ≠ a → b ≠ kS → s'.heap.get? b = some o → h3.get? b = some o := fun b o h1 h2 e => k3 b o h1 (hideAll_get _ e (by simpa using h2))
      have nH : ∀ {b o}, H b = some o → b ≠ a ∧ b ≠ kS := fun {b o} e => ⟨fun z => (by rw [z, fa.1] at e; cases e), fun z => (by rw [z, fk.1] at e; cases e)⟩
      have neU : ∀ {b : Addr}, b ∉ [a, kS] → b ≠ a ∧ b ≠ kS := fun {b} hb => ⟨fun z => hb (by simp [z]), fun z => hb (by simp [z])⟩
      have hlz : (xs.mergeSort (dataLe b fun x => PyData.int (key x))).length ≤ sizeLine := by
        rw [vo.length, hlen]
        exact hZ
      refine I'.step (g' := s'.gens) (d' := s'.drawn) (t' := tk3) (H' := upd H a (.lst (xs.mergeSort (dataLe b fun x => PyData.int (key x))))) (ch := [a, kS]) (fun b hb => ?_) (fun b o _ _ hc e _ => kp b o (neU hc).1 (neU hc).2 e) (fun b o _ _ hc e _ => ⟨o.slots, kp b o (neU hc).1 (neU hc).2 e⟩)
        (fun b o hc _ n => by rw [upd_ne (neU hc).1]; exact n) (fun b o hc e => ⟨o, kp b o (neU hc).1 (neU hc).2 e⟩) (fun b xs e => by rw [upd_ne (nH e).1]; exact e) (fun b o u e => by rw [upd_ne (nH e).1]; exact e) (fun b ps e => ⟨#[], by rw [upd_ne (nH e).1, e]; simp⟩)
        (fun m hm => ?_) (fun b u e => ?_) I'.bare
      · rcases List.mem_cons.mp hb with rfl | hb
        · exact ⟨fa.2.2.2.1, fa.2.1, fa.2.2.2.2.1, fa.2.2.2.2.2⟩
        · rcases List.mem_singleton.mp hb with rfl
          exact ⟨fk.2.2.2.1, fk.2.1, fk.2.2.2.2.1, fk.2.2.2.2.2⟩
      · obtain ⟨o, es, ep, ho, r⟩ := hm
        exact ⟨o, es, ep, kp _ o (Ne.symm fa.2.1) (Ne.symm fk.2.1) ho, r⟩
      · by_cases hb : b = a
        · subst hb
          rw [upd_same] at e
          cases e
          exact ⟨hlz, out, c, vo, n3⟩
        · rw [upd_ne hb] at e
          refine (I'.hok b u e).stay (fun c v hc q => ?_) (fun c q => by rw [upd_ne (nH q).1]; exact q) fun c xs q => by rw [upd_ne (nH q).1]; exact q
          rcases hc with rfl | hc
          · exact kp _ v (nH e).1 (nH e).2 q
          · exact kp c v (nH hc).1 (nH hc).2 q
/-- sorted(xs, key=o.m, reverse=b) -/
def rSortedM (K : PySem.W.Frag) (sp : Sp) (g : Addr) (b : Bool) : List V → List V → Hp → VK → Prop := fun vs zs H Q => ∃ (a q o : Addr) (xs : List V) (key : V → Int), vs = [V.ref a] ∧ zs = [V.ref q, .bl b] ∧ H q = some (.met g o) ∧ SqL K H a xs ∧
  (∀ x ∈ xs, ∀ Q : VK, Q (.int (key x)) H → sp [.ref o, x] H Q E0) ∧
  ∀ (ys : List V) (p : Addr), ys.Perm xs → ys.Pairwise (fun x y => if b = true then key y ≤ key x else key x ≤ key y) → H p = none → Q (.ref p) (upd H p (.lst ys))
theorem cr_sortedM {b : Bool} {k : Nat} {g : Addr} {sp : Sp} (F : FnR X.prog X.w X.K X.mg X.base CX0 k g sp) (hr : Room (k + 2) X.A) : CallRK X (.builtin "sorted") [Str.ofString "key", Str.ofString "reverse"] (rSortedM X.K sp g b) := by
  intro pins s σ H vs zs us ws Q I r rz h
  obtain ⟨a, q, o, xs, key, rfl, rfl, hq, hs, hkey, kk⟩ := h
  obtain rfl := Vals.ref1 r
  obtain ⟨w1, w2, rfl, e1, e2⟩ := vals2 rz
  obtain rfl : w1 = Value.ref q := e1
  obtain rfl : w2 = Value.bool b := e2
  obtain ⟨its, rv, hl, hz⟩ := I.list hs
  have hZ : its.length ≤ sizeLine := by rw [← rv.length]; exact hz
  have hrA : Room k X.A.in1.in1 := (hr.in1).in1
  refine sorted_of_sort hl.isList hZ (PyProof.Rows.ksk_s2 _ _ _) (fun _ => PyProof.Rows.ksk_l2 _ _ _) fun E' => ?_
  show wpAny (model X.prog X.w) X.A.in1.in1 (Builtin.«list.sort» ⟨[.ref (s.heap.objs.size + 1)], [(Str.ofString "key", .ref q), (Str.ofString "reverse", .bool b)]⟩) _ E' _
  rw [PyProof.Rows.ksk_t2]
  have ho : (copyHeap s.heap its).get? (s.heap.objs.size + 1) = some (seqObj "list" its.toArray 0) := copyHeap_at s.heap its
  obtain ⟨e1, ho1⟩ : ∃ e1, ((copyHeap s.heap its).update (s.heap.objs.size + 1) (Obj.mapSeq fun _ => (#[] : Array Value))).get? (s.heap.objs.size + 1) = some (seqObj "list" #[] e1) := ⟨_, get?_update_seq ho fun _ => #[]⟩
  have ha : s.heap.objs.size + 1 < (copyHeap s.heap its).objs.size := Heap.lt_size ho
  have hkS : (((copyHeap s.heap its).update (s.heap.objs.size + 1) (Obj.mapSeq fun _ => (#[] : Array Value))).push (seqObj "tuple" its.toArray 0)).objs.size = (copyHeap s.heap its).objs.size + 1 := by rw [size_push', Heap.size_update]
  unfold PyProof.Rows.ksk_tree
  refine wpAny_bind (listItems_at ho rfl ?_)
  refine wpAny_bind (listUpdate_at ho rfl ?_ (by rw [List.size_toArray]; exact hZ) (Nat.zero_le _))
  refine wpAny_bind (seqEpoch_at ho1 rfl ?_)
  refine wpAny_bind (wpAny_newTuple ?_ (by show its.length ≤ _; exact hZ))
  refine wpAny_bind (wpAny_newList ?_ (Nat.zero_le _))
  refine wpAny_holding ?_
  have keep : ∀ b o, s.heap.get? b = some o → (sortingHeap (copyHeap s.heap its) (s.heap.objs.size + 1) its).get? b = some o := fun b o e =>
    sortingHeap_old (Nat.ne_of_lt (Nat.lt_succ_of_lt (Heap.lt_size e))) (copyHeap_old e)
  have I1 : L2.Inv X pins σ H { s with heap := sortingHeap (copyHeap s.heap its) (s.heap.objs.size + 1) its } := I.kept (t' := s.toks) keep
  have fa : FpOk X pins H (s.heap.objs.size + 1) := I.fpOk (Nat.le_succ _) (I.hok.fresh (Nat.le_succ _))
  have hkge : s.heap.objs.size ≤ (((copyHeap s.heap its).update (s.heap.objs.size + 1) (Obj.mapSeq fun _ => (#[] : Array Value))).push (seqObj "tuple" its.toArray 0)).objs.size := by rw [hkS]; exact Nat.le_succ_of_le (Nat.le_of_lt (Nat.lt_of_succ_lt ha))
  have fk : FpOk X pins H (((copyHeap s.heap its).update (s.heap.objs.size + 1) (Obj.mapSeq fun _ => (#[] : Array Value))).push (seqObj "tuple" its.toArray 0)).objs.size := I.fpOk hkge (I.hok.fresh hkge)
  refine keyI_rest (key := key) (xs := xs) (s := { s with heap := sortingHeap (copyHeap s.heap its) (s.heap.objs.size + 1) its }) I1 fa fk (by rw [hkS]; exact Nat.ne_of_gt (Nat.lt_succ_of_lt ha)) (Heap.get?_push_size _ rfl) (Heap.get?_push_of_some _ (Heap.get?_push_of_some _ ho1)) rv hZ (by have := hrA.un; omega) (fun x v hx rx pins' s' I' => ?_) fun ys s' hp hw I' => ?_
  · refine wpAny_call (PySem.W.method_call (met_P I' hq).1 (run_at (us := [Value.ref o, v]) (vs := [V.ref o, x]) F hrA rfl I' (.cons rfl (.cons rx .nil)) (hkey x hx (fun u H2 => u = .int (key x) ∧ H2 = H) ⟨rfl, rfl⟩) fun u s2 ⟨y, H2, I2, ry, ey, eh⟩ => ?_))
    subst ey eh
    exact ⟨I2, ry⟩
  · exact ⟨rfl, .ref _, _, I', rfl, kk ys _ hp hw fa.1⟩
end
/-! ### sorted(d), the keys ints -/
theorem ints_at : ∀ {us : List Value} {ks : List Int}, us.length = ks.length → (∀ (j : Nat) (v : Value), us[j]? = some v → ∃ (x : Int) (t : Tok), ks[j]? = some x ∧ v = Value.int x t) → IntsAre us ks
  | [], [], _, _ => .nil
  | u :: us, k :: ks, hl, h => by
    obtain ⟨x, t, e1, e2⟩ := h 0 u rfl
    have e1' : k = x := Option.some.inj e1
    subst e1'
    subst e2
    refine .cons _ _ (ints_at (by simpa using hl) fun j v e => ?_)
    obtain ⟨x, t, a, b⟩ := h (j + 1) v (by simpa using e)
    exact ⟨x, t, by simpa using a, b⟩
  | [], _ :: _, hl, _ => by simp at hl
  | _ :: _, [], hl, _ => by simp at hl
def rSortedDI : List V → Hp → VK → Prop := fun xs H Q => ∃ (a : Addr) (kvs : List (Key × V)) (ns : List Int), xs = [V.ref a] ∧ Rd H a (.dK kvs) ∧ kvs.map (·.1) = ns.map Sum.inl ∧
  ∀ (ns' : List Int) (p : Addr), ns'.Perm ns → ns'.Pairwise (· ≤ ·) → H p = none → Q (.ref p) (upd H p (.lst (ns'.map V.int)))
theorem cr_sortedDI {X : Cx} (hcalm : X.calm = true) : CallR X (.builtin "sorted") rSortedDI := by
  intro pins s σ H xs us Q I r q
  obtain ⟨a, kvs, ks, ex, hd, hks, q⟩ := q
  subst ex
  obtain ⟨u, eu, rx⟩ := vals1 r
  subst eu
  cases rx
  obtain ⟨z, lo, vs, rel, dd⟩ := dk_rd I.hok hd
  obtain ⟨ep, hat⟩ := dd.dictAt
  have hkeys : vs.map (·.1) = ks.map Sum.inl := rel.keys.symm.trans hks
  have hl : vs.length = ks.length := by
    have e := congrArg List.length hkeys
    rw [List.length_map, List.length_map] at e
    exact e
  have h16 : vs.length ≤ sizeLine := by
    have e := Paired.length rel
    rw [← e]
    exact z
  refine Calls.call_function_entry PyProof.Rows.kind_sorted PyProof.Rows.plain_sorted PyProof.Rows.entry_sorted (PyProof.Rows.args_sorted1 _) ?_
  unfold Builtin.«sorted»
  refine wpAny_bind (m := checkCount "sorted" 1 1 _) (wpAny_pure ?_)
  refine wpAny_bind (PySem.W.kdu_collect (A := X.A.in1) (PySem.W.kdl_dict (knd := mixKind X.prog X.w) (kvs := vs) (ep := ep) lo) (I.ok.hd hcalm) hat h16 fun h' tk acc hk hacc => ?_)
  have hal : acc.toList.length = ks.length := by rw [Array.length_toList, hacc.1, hl]
  have hS : IntsAre acc.toList ks := ints_at hal fun j v e => by
    obtain ⟨k, x, e1, e2⟩ := hacc.2 j v (by rw [← Array.getElem?_toList]; exact e)
    have e3 : (vs.map (·.1))[j]? = some k := by rw [List.getElem?_map, e1]; all_goals rfl
    rw [hkeys, List.getElem?_map] at e3
    cases e4 : ks[j]? with
    | none => rw [e4] at e3; cases e3
    | some y =>
      rw [e4] at e3
      have e5 : Sum.inl y = k := Option.some.inj e3
      subst e5
      obtain ⟨t, ev⟩ := Value.isInt_shape (k := y) (v := v) e2
      exact ⟨y, t, rfl, ev⟩
  have hz : acc.toList.length ≤ sizeLine := by rw [hal, ← hl]; exact h16
  have I1 : L2.Inv X pins σ H { s with heap := h', toks := tk } := I.kept hk
  refine wpAny_bind (wpAny_newList ?_ hz)
  have hoL : (h'.push (seqObj "list" acc.toList.toArray 0)).get? h'.objs.size = some (seqObj "list" acc.toList.toArray 0) := Heap.get?_push_size _ rfl
  show wpAny _ _ _ _ _ { s with heap := h'.push (seqObj "list" acc.toList.toArray 0), toks := tk }
  refine wpAny_bind (wpAny_holding (wpAny_call_entry PyProof.Rows.slot_list_sort ⟨_, hoL, rfl⟩ PyProof.Rows.entry_list_sort
    (SrtO.list_sort_ord (s := { s with heap := h'.push (seqObj "list" acc.toList.toArray 0), toks := tk }) SrtO.swo_int hoL hz (fun h2 => SrtO.ints_sortable hS h2) fun out h1 h2 => ⟨_, rfl, ?_⟩) (PyProof.Rows.args_list_sort _)))
  obtain ⟨k1, k2, k3⟩ := SrtO.ints_out hS h1 h2
  obtain ⟨e', he'⟩ := PyProof.Rows.sortedHeap_at (vs := acc.toList) (out := out.toArray) hoL
  have hlen : ((out.map SrtO.iv).map V.int).length ≤ sizeLine := by
    rw [List.length_map, k2.length_eq, ← hl]
    exact h16
  refine wpAny_pure ⟨_, rfl, .ref h'.objs.size, upd H h'.objs.size (.lst ((out.map SrtO.iv).map V.int)), I1.laid (t' := tk) (fun b u e => ?_) (Nat.le_refl _)
    (show ObjOk X.prog X.w _ _ _ (.lst ((out.map SrtO.iv).map V.int)) from ⟨hlen, out, e', vals_of_ints k1, he'⟩), rfl, q _ _ k2 k3 (I1.hok.fresh (Nat.le_refl _))⟩
  have hb : b < h'.objs.size := Heap.lt_size e
  rw [PyProof.Rows.sortedHeap_old (Nat.ne_of_lt hb) (by rw [size_push']; exact Nat.lt_succ_of_lt hb)]
  exact Heap.get?_push_of_some _ e
/-! ### the steps -/
section
variable {K : PySem.W.Frag} {H F : Hp} {m : Mem} {v : V} {α : Type} {R : Rp α} {Q : VK}
theorem ints_of {F : Hp} : ∀ {ns : List Int} {vs : List V}, All2 (rInt F) ns vs → vs = ns.map V.int := fun h => All2.eqmap (f := V.int) h
theorem x_sortedL {ns : List Int} (O : Own H F m) (h : rList rInt F ns v) (k : ∀ ns' w H' F', ns'.Perm ns → ns'.Pairwise (· ≤ ·) → Same F F' → Own H' F' m → rList rInt F' ns' w → Q w H') : rSortedI K [v] H Q := by
  obtain ⟨a, vs, rfl, ha, r⟩ := h
  have e := ints_of r
  subst e
  exact ⟨a, ns, rfl, .inl (.inl (O.frz ha)), fun ns' p h1 h2 hp => k ns' _ _ _ h1 h2 (same_new (O.fresh hp)) (O.new hp) ⟨p, _, rfl, upd_same, All2.ofmap⟩⟩
theorem x_sortedD {d : List (Int × α)} (O : Own H F m) (h : rDict R F d v) (k : ∀ ns' w H' F', ns'.Perm (d.map (·.1)) → ns'.Pairwise (· ≤ ·) → Same F F' → Own H' F' m → rList rInt F' ns' w → Q w H') : rSortedDI [v] H Q := by
  obtain ⟨a, kvs, rfl, ha, r⟩ := h
  have e : kvs.map (·.1) = (d.map (·.1)).map Sum.inl := by
    clear ha k
    induction r with
    | nil => rfl
    | cons h t ih => rw [List.map_cons, List.map_cons, List.map_cons, ih, h.1]
  exact ⟨a, kvs, d.map (·.1), rfl, rd_own O ha, e, fun ns' p h1 h2 hp => k ns' _ _ _ h1 h2 (same_new (O.fresh hp)) (O.new hp) ⟨p, _, rfl, upd_same, All2.ofmap⟩⟩
/-- list(d) -/
theorem x_listD {d : List (Int × α)} (O : Own H F m) (h : rDictX R F d v) (k : ∀ w H' F', Same F F' → Own H' F' m → rList rInt F' (d.map (·.1)) w → Q w H') : rListD [v] H Q := by
  obtain ⟨a, kvs, rfl, ha, r⟩ := h
  exact ⟨a, kvs, rfl, O.frz ha, fun q hq => k _ _ _ (same_new (O.fresh hq)) (O.new hq) ⟨q, _, rfl, upd_same, by rw [r.keys]; exact All2.ofmap⟩⟩
theorem x_listDO {d : List (Int × α)} {a : Addr} {kvs : List (Key × V)} (O : Own H F ((a, .dK kvs) :: m)) (r : kvR R F d kvs) (k : ∀ w H' F', Same F F' → Own H' F' ((a, .dK kvs) :: m) → rList rInt F' (d.map (·.1)) w → Q w H') : rListD [.ref a] H Q :=
  ⟨a, kvs, rfl, O.at0, fun q hq => k _ _ _ (same_new (O.fresh hq)) (O.new hq) ⟨q, _, rfl, upd_same, by rw [r.keys]; exact All2.ofmap⟩⟩
end
def BMQ (C g : Addr) (nm : Str) (Q : VK) : VK := fun x H1 => ∃ a dx fs, x = .ref a ∧ H1 a = some (.ins C dx fs) ∧ fs.lookup nm = none ∧ ∀ q, H1 q = none → Q (.ref q) (upd H1 q (.met g a))
theorem x_bndM {C g : Addr} {nm : Str} {ta : TE} {σ : L2.St} {H : Hp} {Q : VK} (k : ta σ H (BMQ C g nm Q)) : tBndM C g nm ta σ H Q := k
theorem bm_of {C g a dx : Addr} {nm : Str} {fs : List (Str × V)} {H F : Hp} {m : Mem} {Q : VK} (O : Own H F m) (h : F a = some (.ins C dx fs)) (l : fs.lookup nm = none) (k : ∀ q H' F', Same F F' → Own H' F' m → F' q = some (.met g a) → Q (.ref q) H') : BMQ C g nm Q (.ref a) H :=
  ⟨a, dx, fs, rfl, O.frz h, l, fun q hq => k q _ _ (same_new (O.fresh hq)) (O.new hq) upd_same⟩
theorem x_sortedM {K : PySem.W.Frag} {sp : Sp} {g q o : Addr} {b : Bool} {H F : Hp} {m : Mem} {v : V} {Q : VK} {ns : List Int} (O : Own H F m) (h : rList rInt F ns v) (hq : F q = some (.met g o)) (hsp : ∀ n ∈ ns, ∀ Q : VK, Q (.int n) H → sp [.ref o, .int n] H Q E0)
    (k : ∀ ns' w H' F', ns'.Perm ns → ns'.Pairwise (fun x y => if b = true then y ≤ x else x ≤ y) → Same F F' → Own H' F' m → rList rInt F' ns' w → Q w H') : rSortedM K sp g b [v] [.ref q, .bl b] H Q := by
  obtain ⟨a, vs, rfl, ha, r⟩ := h
  have e := ints_of r
  subst e
  refine ⟨a, q, o, ns.map V.int, fun x => (match x with | .int i => i | _ => 0), rfl, rfl, O.frz hq, .inl (.inl (O.frz ha)), fun x hx Q' hQ => ?_, fun ys p hp hw hn => ?_⟩
  · obtain ⟨n, hn, rfl⟩ := List.mem_map.mp hx
    exact hsp n hn Q' hQ
  · obtain ⟨ns', rfl⟩ : ∃ ns' : List Int, ys = ns'.map V.int := by
      have : ∀ y ∈ ys, ∃ n, y = V.int n := fun y hy => by
        obtain ⟨n, _, e⟩ := List.mem_map.mp (hp.mem_iff.mp hy)
        exact ⟨n, e.symm⟩
      clear hp hw
      induction ys with
      | nil => exact ⟨[], rfl⟩
      | cons y ys ih =>
        obtain ⟨n, rfl⟩ := this y List.mem_cons_self
        obtain ⟨r, rfl⟩ := ih fun z hz => this z (List.mem_cons_of_mem _ hz)
        exact ⟨n :: r, rfl⟩
    have hp' : ns'.Perm ns := by
      have e1 : ns' = (ns'.map V.int).map fun x => (match x with | .int i => i | _ => 0) := by
        rw [List.map_map]
        exact (List.map_id' ns').symm
      have e2 : ns = (ns.map V.int).map fun x => (match x with | .int i => i | _ => 0) := by
        rw [List.map_map]
        exact (List.map_id' ns).symm
      rw [e1, e2]
      exact hp.map _
    rw [List.pairwise_map] at hw
    exact k ns' _ _ _ hp' hw (same_new (O.fresh hn)) (O.new hn) ⟨p, _, rfl, upd_same, All2.ofmap⟩
/-- C(..) -/
def MKQ (C : Addr) (sp : Sp) (E : XK) (Q : VK) : List V → Hp → Prop := fun vs H1 => ∀ x dx, H1 x = none → H1 dx = none → dx ≠ x → sp (.ref x :: (vs ++ [])) (upd (upd H1 dx (.own x)) x (.ins C dx [])) (fun v H2 => v = .non ∧ Q (.ref x) H2) E
theorem x_make {C : Addr} {sp : Sp} {E : XK} {t : TA} {σ : L2.St} {H : Hp} {Q : VK} (k : t σ H (MKQ C sp E Q)) : tMake C sp [] E t σ H Q := k
theorem mk_of {C : Addr} {sp : Sp} {E : XK} {H F : Hp} {m : Mem} {Q : VK} {vs : List V} (O : Own H F m) (k : ∀ x dx H' F', H x = none → Same F F' → Own H' F' ((x, .ins C dx []) :: m) → sp (.ref x :: vs) H' (fun v H2 => v = .non ∧ Q (.ref x) H2) E) : MKQ C sp E Q vs H := fun x dx hx hdx hne => by
  rw [List.append_nil]
  have O1 := O.new (o := .own x) hdx
  have hx1 : upd H dx (.own x) x = none := by rw [upd_ne (Ne.symm hne)]; exact hx
  exact k x dx _ _ hx (same_new (O.fresh hdx)) (O1.own hx1)
end Tf
/-! tables of steps, reached states, spectra: plain Lean -/
namespace Tf
abbrev Row := List (Int × Nat)
def WF (rows : List Row) : Prop := 0 < rows.length ∧ ∀ (k : Nat) (row : Row), rows[k]? = some row → ∀ p ∈ row, 0 ≤ p.1 ∧ k < p.2 ∧ p.2 < rows.length
theorem WF.row {rows : List Row} (w : WF rows) {k : Nat} (h : k < rows.length) : ∃ row, rows[k]? = some row := ⟨_, List.getElem?_eq_getElem h⟩
theorem WF.last {rows : List Row} (w : WF rows) {k : Nat} {row : Row} (h : rows[k]? = some row) (e : k + 1 = rows.length) : row = [] := by
  cases row with
  | nil => rfl
  | cons p r =>
    have := w.2 k _ h p List.mem_cons_self
    omega
inductive Reach (rows : List Row) : Nat → Prop
  | first : Reach rows 0
  | step {k : Nat} {row : Row} {p : Int × Nat} : Reach rows k → rows[k]? = some row → p ∈ row → Reach rows p.2
theorem Reach.lt {rows : List Row} (w : WF rows) {k : Nat} (h : Reach rows k) : k < rows.length := by
  cases h with
  | first => exact w.1
  | step _ h1 h2 => exact (w.2 _ _ h1 _ h2).2.2
/-- one step's lengths are looked at -/
def leastStep (cost : Int) (lens : List (Int × Int)) (acc : List (Int × Int)) (k : Int) : List (Int × Int) :=
  let total := cost + (getD lens k).getD 0
  match getD acc (k + 1) with
  | none => putD acc (k + 1) total
  | some x => if total < x then putD acc (k + 1) total else acc
def leastAll (cost : Int) (lens acc : List (Int × Int)) : List (Int × Int) := (lens.map (·.1)).foldl (leastStep cost lens) acc
def leastOf (row : Row) (look : Nat → List (Int × Int)) : List (Int × Int) := row.foldl (fun acc p => leastAll p.1 (look p.2) acc) []
def lensF (rows : List Row) : Nat → Nat → List (Int × Int)
  | 0, _ => []
  | n + 1, k => if k + 1 = rows.length then [(0, 0)] else leastOf ((rows[k]?).getD []) (lensF rows n)
def lens (rows : List Row) (k : Nat) : List (Int × Int) := lensF rows (rows.length - k) k
theorem leastOf_congr {row : Row} {f g : Nat → List (Int × Int)} (h : ∀ p ∈ row, f p.2 = g p.2) : leastOf row f = leastOf row g := by
  unfold leastOf
  generalize ([] : List (Int × Int)) = acc
  induction row generalizing acc with
  | nil => rfl
  | cons p r ih =>
    rw [List.foldl_cons, List.foldl_cons, h p List.mem_cons_self]
    exact ih (fun q hq => h q (List.mem_cons_of_mem _ hq)) _
theorem lensF_fuel {rows : List Row} (w : WF rows) : ∀ (n k : Nat), k < rows.length → rows.length - k ≤ n → lensF rows n k = lens rows k := by
  have main : ∀ (n m k : Nat), k < rows.length → rows.length - k ≤ n → rows.length - k ≤ m → lensF rows n k = lensF rows m k := by
    intro n
    induction n with
    | zero =>
      intro m k hk h1 h2
      omega
    | succ n ih =>
      intro m k hk h1 h2
      cases m with
      | zero => omega
      | succ m =>
        unfold lensF
        split
        · rfl
        · refine leastOf_congr fun p hp => ?_
          obtain ⟨row, hr⟩ := w.row hk
          rw [hr] at hp
          have := w.2 k row hr p hp
          exact ih m p.2 this.2.2 (by omega) (by omega)
  intro n k hk h
  exact main n _ k hk h (Nat.le_refl _)
theorem lens_last {rows : List Row} {k : Nat} (e : k + 1 = rows.length) : lens rows k = [(0, 0)] := by
  unfold lens
  rw [show rows.length - k = 0 + 1 by omega]
  unfold lensF
  rw [if_pos e]
theorem lens_row {rows : List Row} (w : WF rows) {k : Nat} {row : Row} (hr : rows[k]? = some row) (e : k + 1 ≠ rows.length) : lens rows k = leastOf row (lens rows) := by
  have hk : k < rows.length := (List.getElem?_eq_some_iff.mp hr).1
  have e1 : lens rows k = lensF rows ((rows.length - k - 1) + 1) k := congrArg (fun n => lensF rows n k) (show rows.length - k = (rows.length - k - 1) + 1 by omega)
  rw [e1]
  unfold lensF
  rw [if_neg e, hr]
  refine leastOf_congr fun p hp => ?_
  have := w.2 k row hr p hp
  exact lensF_fuel w _ _ this.2.2 (by omega)
/-! the lengths differ and are few -/
def Keys (B : Nat) (d : List (Int × Int)) : Prop := (d.map (·.1)).Nodup ∧ ∀ x ∈ d.map (·.1), 0 ≤ x ∧ x < (B : Int)
theorem nodup_len : ∀ (B : Nat) (l : List Int), l.Nodup → (∀ x ∈ l, 0 ≤ x ∧ x < (B : Int)) → l.length ≤ B
  | 0, l, _, h => by
    cases l with
    | nil => exact Nat.le_refl _
    | cons x l =>
      have := h x List.mem_cons_self
      omega
  | B + 1, l, hn, h => by
    by_cases hm : (B : Int) ∈ l
    · have h1 := nodup_len B (l.erase (B : Int)) (hn.erase _) fun x hx => by
        have hx' := (hn.mem_erase_iff).mp hx
        have := h x hx'.2
        omega
      rw [List.length_erase_of_mem hm] at h1
      omega
    · have := nodup_len B l hn fun x hx => by
        have := h x hx
        have : x ≠ (B : Int) := fun e => hm (e ▸ hx)
        omega
      omega
theorem Keys.len {B : Nat} {d : List (Int × Int)} (h : Keys B d) : d.length ≤ B := by
  have := nodup_len B _ h.1 h.2
  rw [List.length_map] at this
  exact this
theorem Keys.put {B : Nat} {d : List (Int × Int)} {k x : Int} (h : Keys B d) (hk : 0 ≤ k ∧ k < (B : Int)) : Keys B (putD d k x) := by
  refine ⟨putD_nodup h.1, fun y hy => ?_⟩
  rw [putD_keys] at hy
  split at hy
  · exact h.2 y hy
  · rcases List.mem_append.mp hy with q | q
    · exact h.2 y q
    · rw [List.mem_singleton.mp q]
      exact hk
theorem Keys.step {B : Nat} {cost : Int} {ls acc : List (Int × Int)} {k : Int} (h : Keys (B + 1) acc) (hk : 0 ≤ k ∧ k < (B : Int)) : Keys (B + 1) (leastStep cost ls acc k) := by
  unfold leastStep
  dsimp only
  split
  · exact h.put (by omega)
  · split
    · exact h.put (by omega)
    · exact h
theorem Keys.fold {B : Nat} {cost : Int} {ls : List (Int × Int)} : ∀ (l : List Int) {acc : List (Int × Int)}, Keys (B + 1) acc → (∀ x ∈ l, 0 ≤ x ∧ x < (B : Int)) → Keys (B + 1) (l.foldl (leastStep cost ls) acc)
  | [], _, h, _ => h
  | x :: l, _, h, hl => Keys.fold l (h.step (hl x List.mem_cons_self)) fun y hy => hl y (List.mem_cons_of_mem _ hy)
theorem Keys.all {B : Nat} {cost : Int} {ls acc : List (Int × Int)} (h : Keys (B + 1) acc) (hl : Keys B ls) : Keys (B + 1) (leastAll cost ls acc) := Keys.fold _ h hl.2
theorem Keys.nil {B : Nat} : Keys B [] := ⟨List.nodup_nil, fun _ h => (nomatch h)⟩
theorem Keys.of {B : Nat} {look : Nat → List (Int × Int)} : ∀ (row : Row) (acc : List (Int × Int)), Keys (B + 1) acc → (∀ p ∈ row, Keys B (look p.2)) → Keys (B + 1) (row.foldl (fun acc p => leastAll p.1 (look p.2) acc) acc)
  | [], _, h, _ => h
  | p :: row, _, h, hl => Keys.of row _ (h.all (hl p List.mem_cons_self)) fun q hq => hl q (List.mem_cons_of_mem _ hq)
theorem Keys.mono {B C : Nat} {d : List (Int × Int)} (h : Keys B d) (hb : B ≤ C) : Keys C d := ⟨h.1, fun x hx => by have := h.2 x hx; omega⟩
theorem lens_keys {rows : List Row} (w : WF rows) : ∀ (n k : Nat), k + n = rows.length → 0 < n → Keys n (lens rows k) := by
  intro n
  induction n using Nat.strongRecOn with
  | _ n ih =>
    intro k hk hn
    by_cases e : k + 1 = rows.length
    · rw [lens_last e]
      refine ⟨by simp, fun x hx => ?_⟩
      simp at hx
      subst hx
      omega
    · have hlt : k < rows.length := by omega
      obtain ⟨row, hr⟩ := w.row hlt
      rw [lens_row w hr e]
      obtain ⟨m, rfl⟩ : ∃ m, n = m + 1 := ⟨n - 1, by omega⟩
      refine Keys.of row [] Keys.nil fun p hp => ?_
      have h := w.2 k row hr p hp
      have := ih (rows.length - p.2) (by omega) p.2 (by omega) (by omega)
      exact this.mono (by omega)
/-! what is not yet found weighs -/
def wt (rows : List Row) (ks : List Int) : Nat := ((List.range rows.length).map fun k : Nat => if (k : Int) ∈ ks then 0 else ((rows[k]?).getD []).length + 1).sum
theorem sum_change : ∀ (L : List Nat) (f g : Nat → Nat) (k : Nat), L.Nodup → k ∈ L → (∀ j ∈ L, j ≠ k → f j = g j) → f k = 0 → (L.map f).sum + g k = (L.map g).sum
  | [], _, _, _, _, h, _, _ => by cases h
  | a :: L, f, g, k, hn, hk, hfg, h0 => by
    obtain ⟨h1, h2⟩ := List.nodup_cons.mp hn
    rw [List.map_cons, List.map_cons, List.sum_cons, List.sum_cons]
    by_cases e : a = k
    · subst e
      have : L.map f = L.map g := List.map_congr_left fun j hj => hfg j (List.mem_cons_of_mem _ hj) fun z => h1 (z ▸ hj)
      rw [this, h0]
      omega
    · have hk' : k ∈ L := (List.mem_cons.mp hk).resolve_left fun z => e z.symm
      have := sum_change L f g k h2 hk' (fun j hj => hfg j (List.mem_cons_of_mem _ hj)) h0
      rw [hfg a List.mem_cons_self e]
      omega
theorem wt_add {rows : List Row} {ks : List Int} {k : Nat} {row : Row} (hr : rows[k]? = some row) (hn : (k : Int) ∉ ks) : wt rows (ks ++ [(k : Int)]) + (row.length + 1) = wt rows ks := by
  have hk : k < rows.length := (List.getElem?_eq_some_iff.mp hr).1
  have := sum_change (List.range rows.length) (fun j : Nat => if (j : Int) ∈ ks ++ [(k : Int)] then 0 else ((rows[j]?).getD []).length + 1) (fun j : Nat => if (j : Int) ∈ ks then 0 else ((rows[j]?).getD []).length + 1) k List.nodup_range (List.mem_range.mpr hk)
    (fun j _ hj => by
      have : ((j : Int) ∈ ks ++ [(k : Int)]) ↔ (j : Int) ∈ ks := by
        rw [List.mem_append, List.mem_singleton]
        constructor
        · rintro (h | h)
          · exact h
          · omega
        · exact .inl
      by_cases h : (j : Int) ∈ ks
      · rw [if_pos h, if_pos (this.mpr h)]
      · rw [if_neg h, if_neg fun z => h (this.mp z)]) (by rw [if_pos (by simp)])
  unfold wt
  rw [if_neg hn, hr] at this
  exact this
theorem sum_range : ∀ (rows : List Row), ((List.range rows.length).map fun k : Nat => ((rows[k]?).getD []).length + 1).sum = rows.length + (rows.map List.length).sum
  | [] => rfl
  | r :: rows => by
    have ih := sum_range rows
    rw [List.length_cons, List.range_succ_eq_map, List.map_cons, List.map_map, List.sum_cons, List.map_cons, List.sum_cons]
    have : ((List.range rows.length).map ((fun k : Nat => (((r :: rows)[k]?).getD []).length + 1) ∘ Nat.succ)) = (List.range rows.length).map fun k : Nat => ((rows[k]?).getD []).length + 1 := List.map_congr_left fun j _ => by simp
    rw [this, ih]
    simp
    omega
theorem wt_nil (rows : List Row) : wt rows [] = rows.length + (rows.map List.length).sum := by
  rw [← sum_range]
  unfold wt
  congr 1
/-! sorted lists of ints are one -/
theorem sorted_one {l1 l2 : List Int} (hp : l1.Perm l2) (h1 : l1.Pairwise (· ≤ ·)) (h2 : l2.Pairwise (· ≤ ·)) : l1 = l2 :=
  hp.eq_of_pairwise (fun a b _ _ h1 h2 => Int.le_antisymm h1 h2) h1 h2
def sortI (l : List Int) : List Int := l.mergeSort (fun a b => decide (a ≤ b))
theorem sortI_perm (l : List Int) : (sortI l).Perm l := List.mergeSort_perm _ _
theorem sortI_sorted (l : List Int) : (sortI l).Pairwise (· ≤ ·) := by
  have := List.pairwise_mergeSort (le := fun a b : Int => decide (a ≤ b)) (fun a b c h1 h2 => by simp at h1 h2 ⊢; omega) (fun a b => by simp; omega) l
  exact this.imp fun h => by simpa using h
theorem sortI_eq {l l' : List Int} (hp : l'.Perm l) (h : l'.Pairwise (· ≤ ·)) : l' = sortI l := sorted_one (hp.trans (sortI_perm l).symm) h (sortI_sorted l)
/-- the told form of a spectrum -/
def told (d : List (Int × Int)) : List (Int × Int) := (sortI (d.map (·.1))).map fun k => (k, (getD d k).getD 0)
end Tf
/-! the promises of table tasks, of steps_of_reached, of least_lengths, of Lengths -/
namespace Tf
open PySem PySem.Spec PyProof.Rows L2
abbrev rRow : Rp Row := rList (rPair rInt rNat)
abbrev rRows : Rp (List Row) := rList rRow
abbrev rRowS : Rp Row := rSeq (rPair rInt rNat)
abbrev rRowsS : Rp (List Row) := rSeq rRowS
/-- a table task -/
def rTask (C : Addr) : Rp (List Row) := fun F rows v => ∃ a dx t, v = .ref a ∧ F a = some (.ins C dx [("_table", t)]) ∧ rRows F rows t
instance {C : Addr} : MonoS (rTask C) := ⟨fun s ⟨a, dx, t, e, h, r⟩ => ⟨a, dx, t, e, s _ _ h, up s r⟩⟩
def spTInit (C : Addr) : Sp := fun vs H Q _ => ∃ x dx v rows F m, vs = [.ref x, v] ∧ Own H F ((x, .ins C dx []) :: m) ∧ rRowsS F rows v ∧ WF rows ∧ rows.length < 16777216 ∧ (∀ row ∈ rows, row.length < 16777216) ∧
  ∀ H' F' t, Same F F' → Own H' F' ((x, .ins C dx [("_table", t)]) :: m) → rRows F' rows t → Q .non H'
def spTFirst (C : Addr) : Sp := fun vs H Q _ => ∃ v rows F m, vs = [v] ∧ Own H F m ∧ rTask C F rows v ∧ Q (.int 0) H
def spTEnd (C : Addr) : Sp := fun vs H Q _ => ∃ (v : V) (rows : List Row) (k : Nat) (F : Hp) (m : Mem), vs = [v, .int (k : Int)] ∧ Own H F m ∧ rTask C F rows v ∧ Q (.bl (decide (k + 1 = rows.length))) H
def spTSteps (C : Addr) : Sp := fun vs H Q _ => ∃ (v : V) (rows : List Row) (k : Nat) (row : Row) (F : Hp) (m : Mem), vs = [v, .int (k : Int)] ∧ Own H F m ∧ rTask C F rows v ∧ rows[k]? = some row ∧
  ∀ w H' F', Same F F' → Own H' F' m → rRow F' row w → Q w H'
def spTRank : Sp := fun vs H Q _ => ∃ v k, vs = [v, .int k] ∧ Q (.int k) H
/-- found: the reached states and their steps -/
structure Found (rows : List Row) (d : List (Int × Row)) : Prop where
  nd : (d.map (·.1)).Nodup
  ent : ∀ p ∈ d, ∃ k : Nat, p.1 = (k : Int) ∧ rows[k]? = some p.2
  all : ∀ k : Nat, (k : Int) ∈ d.map (·.1) ↔ Reach rows k
def spReached (C : Addr) : Sp := fun vs H Q _ => ∃ v rows F m, vs = [v] ∧ Own H F m ∧ rTask C F rows v ∧ WF rows ∧ (rows.length + (rows.map List.length).sum < 1000000) ∧
  ∀ w H' F' d, Same F F' → Own H' F' m → rDictX rRow F' d w → Found rows d → Q w H'
abbrev rLens : Rp (List (Int × Int)) := rDictX rInt
def spLeast : Sp := fun vs H Q _ => ∃ (v w : V) (row : Row) (tab : List (Int × List (Int × Int))) (look : Nat → List (Int × Int)) (B : Nat) (F : Hp) (m : Mem), vs = [v, w] ∧ Own H F m ∧ rRow F row v ∧ rDictX rLens F tab w ∧ (∀ p ∈ row, getD tab (p.2 : Int) = some (look p.2) ∧ Keys B (look p.2)) ∧ B < 1000000 ∧
  ∀ p kvs H', Own H' F ((p, .dK kvs) :: m) → kvR rInt F (leastOf row look) kvs → Q (.ref p) H'
structure TabOk (rows : List Row) (tab : List (Int × List (Int × Int))) : Prop where
  nd : (tab.map (·.1)).Nodup
  ent : ∀ p ∈ tab, ∃ k : Nat, p.1 = (k : Int) ∧ k < rows.length ∧ p.2 = lens rows k
  all : ∀ k : Nat, (k : Int) ∈ tab.map (·.1) ↔ Reach rows k
def lF (t f b : V) : List (Str × V) := [("_task", t), ("_found", f), ("_table", b)]
/-- an instance of Lengths -/
def rLengths (C CT : Addr) : Rp (List Row) := fun F rows v => ∃ a dx t f b d tab, v = .ref a ∧ F a = some (.ins C dx (lF t f b)) ∧ rTask CT F rows t ∧ rDictX rRow F d f ∧ Found rows d ∧ rDictX rLens F tab b ∧ TabOk rows tab
instance {C CT : Addr} : MonoS (rLengths C CT) := ⟨fun s ⟨a, dx, t, f, b, d, tab, e, h, h1, h2, h3, h4, h5⟩ => ⟨a, dx, t, f, b, d, tab, e, s _ _ h, up s h1, up s h2, h3, up s h4, h5⟩⟩
def spLInit (C CT : Addr) : Sp := fun vs H Q _ => ∃ x dx v rows F m, vs = [.ref x, v] ∧ Own H F ((x, .ins C dx []) :: m) ∧ rTask CT F rows v ∧ WF rows ∧ (rows.length + (rows.map List.length).sum < 1000000) ∧
  ∀ H' F' f b d tab, Same F F' → Own H' F' ((x, .ins C dx (lF v f b)) :: m) → rDictX rRow F' d f → Found rows d → rDictX rLens F' tab b → TabOk rows tab → Q .non H'
abbrev rTold : Rp (List (Int × Int)) := rTup (rPair rInt rInt)
def spTold (C CT : Addr) : Sp := fun vs H Q _ => ∃ (v : V) (rows : List Row) (k : Nat) (F : Hp) (m : Mem), vs = [v, .int (k : Int)] ∧ Own H F m ∧ rLengths C CT F rows v ∧ WF rows ∧ rows.length < 1000000 ∧ Reach rows k ∧
  ∀ w H' F', Same F F' → Own H' F' m → rTold F' (told (lens rows k)) w → Q w H'
def spSpec (C CT : Addr) : Sp := fun vs H Q _ => ∃ v rows F m, vs = [v] ∧ Own H F m ∧ rLengths C CT F rows v ∧ WF rows ∧ rows.length < 1000000 ∧
  ∀ w H' F', Same F F' → Own H' F' m → rTold F' (told (lens rows 0)) w → Q w H'
/-- a spectrum paper -/
abbrev rPaper : Rp (List (Int × List (Int × Int))) := rTup (rPair rInt rTold)
def PaperOk (rows : List Row) (p : List (Int × List (Int × Int))) : Prop := ∃ ks : List Int, ks.Nodup ∧ ks.Pairwise (· ≤ ·) ∧ (∀ x ∈ ks, 0 ≤ x) ∧ (∀ k : Nat, (k : Int) ∈ ks ↔ Reach rows k) ∧ p = ks.map fun k => (k, told (lens rows k.toNat))
def spPaper (C CT : Addr) : Sp := fun vs H Q _ => ∃ v rows F m, vs = [v] ∧ Own H F m ∧ rLengths C CT F rows v ∧ WF rows ∧ rows.length < 1000000 ∧
  ∀ w H' F' p, Same F F' → Own H' F' m → rPaper F' p w → PaperOk rows p → Q w H'
/-- the defs of the top: spectrum, spectra -/
def spTopSpec (CT : Addr) : Sp := fun vs H Q _ => ∃ v rows F m, vs = [v] ∧ Own H F m ∧ rTask CT F rows v ∧ WF rows ∧ (rows.length + (rows.map List.length).sum < 1000000) ∧
  ∀ w H' F', Same F F' → Own H' F' m → rTold F' (told (lens rows 0)) w → Q w H'
def spTopSpectra (CT : Addr) : Sp := fun vs H Q _ => ∃ v rows F m, vs = [v] ∧ Own H F m ∧ rTask CT F rows v ∧ WF rows ∧ (rows.length + (rows.map List.length).sum < 1000000) ∧
  ∀ w H' F' p, Same F F' → Own H' F' m → rPaper F' p w → PaperOk rows p → Q w H'
/-! fields -/
theorem lk_eq {k : Str} {v : V} {fs : List (Str × V)} : ((k, v) :: fs).lookup k = some v := by simp
theorem lk_ne {k k' : Str} {v : V} {fs : List (Str × V)} (h : (k == k') = false) : ((k', v) :: fs).lookup k = fs.lookup k := by simp [List.lookup_cons, h]
theorem put_ne {k k' : Str} {v w : V} {fs : List (Str × V)} (h : ¬ k' = k) : putF k v ((k', w) :: fs) = (k', w) :: putF k v fs := by
  show (if k' = k then _ else _) = _
  rw [if_neg h]
theorem lF_task {t f b : V} : (lF t f b).lookup ("_task" : Str) = some t := lk_eq
theorem lF_found {t f b : V} : (lF t f b).lookup ("_found" : Str) = some f := by
  unfold lF
  rw [lk_ne (by decide +kernel), lk_eq]
theorem lF_table {t f b : V} : (lF t f b).lookup ("_table" : Str) = some b := by
  unfold lF
  rw [lk_ne (by decide +kernel), lk_ne (by decide +kernel), lk_eq]
section
variable {K : PySem.W.Frag} {σ : L2.St} {H F : Hp} {m : Mem} {Q : VK} {v : V}
/-- a field is read: of a thing that stands still, of one of ours -/
theorem x_fldF {a C dx : Addr} {fs : List (Str × V)} {f : Str} (O : Own H F m) (h : F a = some (.ins C dx fs)) (c : Cls K C) (n : NoAttr K C f) (l : fs.lookup f = some v) (k : Q v H) :
    FQ K f Q (.ref a) H := ⟨a, C, dx, fs, v, rfl, O.frz h, c, n, l, k⟩
theorem x_fldO {a C dx : Addr} {fs : List (Str × V)} {f : Str} (h : H a = some (.ins C dx fs)) (c : Cls K C) (n : NoAttr K C f) (l : fs.lookup f = some v) (k : Q v H) :
    FQ K f Q (.ref a) H := ⟨a, C, dx, fs, v, rfl, h, c, n, l, k⟩
end
theorem lF_make {t f b : V} : putF "_table" b (putF "_found" f (putF "_task" t [])) = lF t f b := by
  have e1 : putF "_task" t [] = ([("_task", t)] : List (Str × V)) := rfl
  have e2 : putF "_found" f ([("_task", t)] : List (Str × V)) = ([("_task", t), ("_found", f)] : List (Str × V)) := by
    rw [put_ne (k := "_found") (k' := "_task") (by decide +kernel)]
    rfl
  have e3 : putF "_table" b ([("_task", t), ("_found", f)] : List (Str × V)) = lF t f b := by
    rw [put_ne (k := "_table") (k' := "_task") (by decide +kernel), put_ne (k := "_table") (k' := "_found") (by decide +kernel)]
    rfl
  rw [e1, e2, e3]
/-- the class Lengths -/
structure LCls (K : PySem.W.Frag) (C : Addr) : Prop where
  cl : Cls K C
  n1 : NoAttr K C "_task"
  n2 : NoAttr K C "_found"
  n3 : NoAttr K C "_table"
/-! the law's own -/
def spCost : Sp := fun vs H Q _ => ∃ p o F m, vs = [.ref p] ∧ Own H F ((p, o) :: m) ∧ PoolOk F o ∧ ∀ r H' o', 0 ≤ r → Own H' F ((p, o') :: m) → PoolOk F o' → Q (.int r) H'
structure RowsOk (rows : List Row) : Prop where
  wf : WF rows
  len : rows.length ≤ 2000
  few : ∀ row ∈ rows, row.length ≤ 7
def spRows : Sp := fun vs H Q _ => ∃ p o F m, vs = [.ref p] ∧ Own H F ((p, o) :: m) ∧ PoolOk F o ∧ ∀ w H' F' o' rows, Same F F' → Own H' F' ((p, o') :: m) → PoolOk F' o' → rRows F' rows w → RowsOk rows → Q w H'
theorem RowsOk.sum {rows : List Row} (h : RowsOk rows) : rows.length + (rows.map List.length).sum < 1000000 := by
  have : ∀ (l : List Row), (∀ r ∈ l, r.length ≤ 7) → (l.map List.length).sum ≤ 7 * l.length := by
    intro l
    induction l with
    | nil => exact fun _ => Nat.le_refl _
    | cons r l ih =>
      intro hl
      have h1 := hl r List.mem_cons_self
      have h2 := ih fun q hq => hl q (List.mem_cons_of_mem _ hq)
      rw [List.map_cons, List.sum_cons, List.length_cons]
      omega
  have h1 := this rows h.few
  have h2 := h.len
  omega
/-- rows under way: the i-th rows of those that lead to below many -/
structure RowsTo (many : Nat) (rs : List Row) : Prop where
  ent : ∀ (j : Nat) (row : Row), rs[j]? = some row → row.length ≤ 7 ∧ ∀ q ∈ row, 0 ≤ q.1 ∧ j < q.2 ∧ q.2 < many
theorem RowsTo.nil {many : Nat} : RowsTo many [] := ⟨fun j row h => by simp at h⟩
theorem RowsTo.snoc {many : Nat} {rs : List Row} {row : Row} (h : RowsTo many rs) (h1 : row.length ≤ 7) (h2 : ∀ q ∈ row, 0 ≤ q.1 ∧ rs.length < q.2 ∧ q.2 < many) : RowsTo many (rs ++ [row]) := ⟨fun j r hr => by
  by_cases hj : j < rs.length
  · rw [List.getElem?_append_left hj] at hr
    exact h.ent j r hr
  · rw [List.getElem?_append_right (by omega)] at hr
    have : j = rs.length := by
      have := (List.getElem?_eq_some_iff.mp hr).1
      simp at this
      omega
    subst this
    simp at hr
    subst hr
    exact ⟨h1, h2⟩⟩
theorem RowsTo.done {many : Nat} {rs : List Row} (h : RowsTo many rs) (hl : rs.length + 1 = many) (hm : many ≤ 2000) : RowsOk (rs ++ [[]]) := by
  have hlen : (rs ++ [([] : Row)]).length = many := by
    rw [List.length_append]
    exact hl
  have g := h.snoc (row := []) (by simp) (fun q hq => (nomatch hq))
  refine ⟨⟨by omega, fun k row hr p hp => ?_⟩, by omega, fun row hr => ?_⟩
  · rw [hlen]
    exact (g.ent k row hr).2 p hp
  · obtain ⟨k, hk⟩ := List.getElem?_of_mem hr
    exact (g.ent k row hk).1
/-- a row under way -/
def RowTo (k many : Nat) (row : Row) : Prop := ∀ q ∈ row, 0 ≤ q.1 ∧ k < q.2 ∧ q.2 < many
theorem RowTo.snoc {k many : Nat} {row : Row} {c : Int} {a : Nat} (h : RowTo k many row) (h1 : 0 ≤ c) (h2 : k < a) (h3 : a < many) : RowTo k many (row ++ [(c, a)]) := fun q hq => by
  rcases List.mem_append.mp hq with hq | hq
  · exact h q hq
  · rw [List.mem_singleton.mp hq]
    exact ⟨h1, h2, h3⟩
def spLawLens : Sp := fun vs H Q _ => ∃ v rows F m, vs = [v] ∧ Own H F m ∧ rRows F rows v ∧ RowsOk rows ∧ ∀ w H' F', Same F F' → Own H' F' m → rList rLens F' ((List.range rows.length).map (lens rows)) w → Q w H'
def spLawTold : Sp := fun vs H Q _ => ∃ v d F m, vs = [v] ∧ Own H F m ∧ rLens F d v ∧ d.length < 1000000 ∧ ∀ w H' F', Same F F' → Own H' F' m → rTold F' (told d) w → Q w H'
def spLawPaper : Sp := fun vs H Q _ => ∃ v rows F m, vs = [v] ∧ Own H F m ∧ rRows F rows v ∧ RowsOk rows ∧ ∀ w H' F' p, Same F F' → Own H' F' m → rPaper F' p w → PaperOk rows p → Q w H'
theorem perm_of {l1 l2 : List Int} (h1 : l1.Nodup) (h2 : l2.Nodup) (h : ∀ x, x ∈ l1 ↔ x ∈ l2) : l1.Perm l2 := (List.perm_ext_iff_of_nodup h1 h2).mpr h
theorem PaperOk.one {rows : List Row} {p q : List (Int × List (Int × Int))} (hp : PaperOk rows p) (hq : PaperOk rows q) : p = q := by
  obtain ⟨ks, a1, a2, a3, a4, rfl⟩ := hp
  obtain ⟨ls, b1, b2, b3, b4, rfl⟩ := hq
  have e : ks = ls := sorted_one (perm_of a1 b1 fun x => ⟨fun h => by
    have := a3 x h
    obtain ⟨n, rfl⟩ : ∃ n : Nat, x = (n : Int) := ⟨x.toNat, by omega⟩
    exact (b4 n).mpr ((a4 n).mp h), fun h => by
    have := b3 x h
    obtain ⟨n, rfl⟩ : ∃ n : Nat, x = (n : Int) := ⟨x.toNat, by omega⟩
    exact (a4 n).mpr ((b4 n).mp h)⟩) a2 b2
  rw [e]
theorem PaperOk.first {rows : List Row} {p : List (Int × List (Int × Int))} (hp : PaperOk rows p) : p[0]? = some (0, told (lens rows 0)) := by
  obtain ⟨ks, a1, a2, a3, a4, rfl⟩ := hp
  have h0 : (0 : Int) ∈ ks := (a4 0).mpr .first
  cases ks with
  | nil => cases h0
  | cons k ks =>
    have e : k = 0 := by
      rcases List.mem_cons.mp h0 with h | h
      · exact h.symm
      · have := (List.pairwise_cons.mp a2).1 0 h
        have := a3 k List.mem_cons_self
        omega
    subst e
    rfl
theorem PaperOk.len {rows : List Row} {p : List (Int × List (Int × Int))} (hp : PaperOk rows p) (w : WF rows) : p.length ≤ rows.length ∧ ∀ x ∈ p, x.2.length ≤ rows.length := by
  obtain ⟨ks, a1, a2, a3, a4, rfl⟩ := hp
  have hk : ∀ x ∈ ks, 0 ≤ x ∧ x < (rows.length : Int) := fun x hx => by
    have h0 := a3 x hx
    obtain ⟨n, rfl⟩ : ∃ n : Nat, x = (n : Int) := ⟨x.toNat, by omega⟩
    have := ((a4 n).mp hx).lt w
    omega
  refine ⟨?_, fun x hx => ?_⟩
  · rw [List.length_map]
    exact nodup_len _ _ a1 hk
  · obtain ⟨k, h, rfl⟩ := List.mem_map.mp hx
    have := hk k h
    show (told (lens rows k.toNat)).length ≤ _
    unfold told
    rw [List.length_map, (sortI_perm _).length_eq, List.length_map]
    have := (lens_keys w (rows.length - k.toNat) k.toNat (by omega) (by omega)).len
    omega
/-! papers are alike -/
theorem sim_told {F : Hp} {d : List (Int × Int)} {v w : V} (hl : d.length < 16777216) (h : rTold F d v) (h' : rTold F d w) : Sim F 2 v w := by
  have : SimR (rPair rInt rInt) 1 := sim_pair (R := rInt) (S := rInt) (n := 0) SimR.sim SimR.sim
  exact sim_tup hl h h'
theorem all2_simX {α : Type} {R : Rp α} {n : Nat} {F : Hp} : ∀ {xs : List α} {vs ws : List V}, (∀ x ∈ xs, ∀ v w, R F x v → R F x w → Sim F n v w) → All2 (R F) xs vs → All2 (R F) xs ws → All2 (Sim F n) vs ws
  | _, _, _, _, .nil, .nil => .nil
  | _, _, _, f, .cons h t, .cons h' t' => .cons (f _ List.mem_cons_self _ _ h h') (all2_simX (fun x hx => f x (List.mem_cons_of_mem _ hx)) t t')
theorem sim_paper {F : Hp} {p : List (Int × List (Int × Int))} {v w : V} (hl : p.length < 16777216) (hx : ∀ x ∈ p, x.2.length < 16777216) : rPaper F p v → rPaper F p w → Sim F 4 v w := fun ⟨a, vs, e, h, r⟩ ⟨a', vs', e', h', r'⟩ =>
  .inr ⟨a, a', vs, vs', e, e', all2_simX (fun x hm v w ⟨b, u, z, e1, hb, hu, hz⟩ ⟨b', u', z', e2, hb', hu', hz'⟩ =>
    .inr ⟨b, b', _, _, e1, e2, .cons ((SimR.sim (R := rInt) (n := 0) hu hu').le (by decide)) (.cons (sim_told (hx x hm) hz hz') .nil), by show 2 < _; decide, .inl ⟨hb, hb'⟩⟩) r r', by rw [← r.length]; exact hl, .inl ⟨h, h'⟩⟩
theorem sim_rows {F : Hp} {p : List Row} {v w : V} (hl : p.length < 16777216) (hx : ∀ x ∈ p, x.length < 16777216) : rRows F p v → rRows F p w → Sim F 4 v w := fun ⟨a, vs, e, h, r⟩ ⟨a', vs', e', h', r'⟩ => by
  have : SimR (rPair rInt rNat) 1 := sim_pair (R := rInt) (S := rNat) (n := 0) SimR.sim SimR.sim
  exact Sim.le (n := 3) (by decide) (.inr ⟨a, a', vs, vs', e, e', all2_simX (fun x hm v w h1 h2 => sim_list (hx x hm) h1 h2) r r', by rw [← r.length]; exact hl, .inr ⟨h, h'⟩⟩)
end Tf
/-! min(ints, default=None), min of int triples -/
namespace Tf
open PySem PySem.Spec PyProof.Rows L2 PySem.W
theorem reads_nums {h : Heap} : ∀ {us : List Value} {ks : List Int}, IntsAre us ks → ReadsAll h us (ks.map PyData.int) []
  | _, _, .nil => .nil
  | _, _, .cons n t r => (show ReadsAll h (Value.int n t :: _) (PyData.int n :: _) ([] ++ []) from .cons (.int n t) (reads_nums r))
theorem vals_at : ∀ {xs : List V} {us : List Value} {i : Nat} {v : Value}, Vals xs us → us[i]? = some v → ∃ x, xs[i]? = some x ∧ RelV x v
  | _, _, _, _, .nil, h => by simp at h
  | x :: _, _, 0, _, .cons r _, h => by
    cases h
    exact ⟨x, rfl, r⟩
  | _ :: _, _, i + 1, _, .cons _ rs, h => vals_at (i := i) rs (by simpa using h)
/-- the least, if there is one -/
def minI : List Int → Option Int
  | [] => none
  | n :: r => some (r.foldl min n)
def optV : Option Int → V
  | none => .non
  | some x => .int x
def rMinDI (K : PySem.W.Frag) : List V → List V → Hp → VK → Prop := fun vs zs H Q => ∃ (a : Addr) (ns : List Int), vs = [V.ref a] ∧ zs = [V.non] ∧ SqL K H a (ns.map V.int) ∧ Q (optV (minI ns)) H
theorem depth_nums : ∀ (ks : List Int), PyData.depthAll (ks.map PyData.int) ≤ 1
  | [] => by simp [PyData.depthAll]
  | k :: ks => by
    have := depth_nums ks
    simp only [List.map_cons, PyData.depthAll, PyData.depth]
    omega
theorem alike_nums (ks : List Int) : AlikeAll (ks.map PyData.int) := alikeAll_datum (α := Int) ks
section
variable {X : Cx}
theorem cr_minDI (hc : X.calm = true) (hu : X.A.units + 2 < cLine) : CallRK X (.builtin "min") [Str.ofString "default"] (rMinDI X.K) := by
  intro pins s σ H xs zs us ws Q I r rz h
  obtain ⟨a, ks, rfl, rfl, hs, q⟩ := h
  obtain ⟨its, rv, hl, _⟩ := I.list hs
  rw [Vals.ref1 r]
  obtain ⟨u, rfl, eu⟩ := vals1 rz
  have eu : u = Value.none := eu
  subst eu
  refine min_list_default (xs := ks.map PyData.int) (I.ok.hd hc) hl.isList (reads_nums rv.ints) (alike_nums ks) (by have := depth_nums ks; omega) (fun h0 h' tk hk => ?_) (fun y ys i v h' tk bs e hv hr hk => ?_)
  · have e : ks = [] := List.map_eq_nil_iff.mp h0
    subst e
    exact ⟨.non, H, I.kept hk, rfl, q⟩
  · cases ks with
    | nil => cases e
    | cons k ks =>
      obtain ⟨rfl, rfl⟩ := List.cons.inj e
      rw [minD_ints] at hr
      cases hr
      exact ⟨.int _, H, I.kept hk, ⟨_, rfl⟩, q⟩
/-- a tuple of ints -/
def TpI (K : PySem.W.Frag) (H : Hp) (x : V) (ns : List Int) : Prop := ∃ b, x = .ref b ∧ SqT K H b (ns.map V.int)
/-- int triples, by what comes first -/
def leT (a b : Int × Int × Int) : Prop := a.1 < b.1 ∨ (a.1 = b.1 ∧ (a.2.1 < b.2.1 ∨ (a.2.1 = b.2.1 ∧ a.2.2 ≤ b.2.2)))
abbrev itT (t : Int × Int × Int) : List Int := [t.1, t.2.1, t.2.2]
abbrev tuT (t : Int × Int × Int) : Tup Int := ⟨itT t⟩
theorem lt_tuT {a b : Int × Int × Int} : DatumOrd.lt (tuT a) (tuT b) = false ↔ leT b a := by
  show listLt (itT a) (itT b) = false ↔ _
  obtain ⟨a1, a2, a3⟩ := a
  obtain ⟨b1, b2, b3⟩ := b
  simp only [itT, listLt, DatumOrd.lt, leT]
  split
  · split
    · split
      · simp; omega
      · simp; omega
    · simp; omega
  · simp; omega
theorem leT_trans {a b c : Int × Int × Int} : leT a b → leT b c → leT a c := by
  unfold leT
  omega
theorem leT_total (a b : Int × Int × Int) : leT a b ∨ leT b a := by
  unfold leT
  omega
theorem min_tuT : ∀ (ts : List (Int × Int × Int)) (t : Int × Int × Int), ∃ m, m ∈ t :: ts ∧ (∀ u ∈ t :: ts, leT m u) ∧ minOf (tuT t) (ts.map tuT) = tuT m
  | [], t => ⟨t, List.mem_cons_self, fun u hu => by rw [List.mem_singleton.mp hu]; exact (leT_total t t).elim id id, rfl⟩
  | y :: ts, t => by
    cases hb : DatumOrd.lt (tuT y) (tuT t) with
    | true =>
      obtain ⟨m, h1, h2, h3⟩ := min_tuT ts y
      have hy : leT y t := by
        rcases leT_total y t with h | h
        · exact h
        · rw [lt_tuT.mpr h] at hb
          cases hb
      refine ⟨m, List.mem_cons_of_mem _ h1, fun u hu => ?_, ?_⟩
      · rcases List.mem_cons.mp hu with rfl | hu
        · exact leT_trans (h2 y List.mem_cons_self) hy
        · exact h2 u hu
      · rw [← h3]
        show List.foldl _ (if DatumOrd.lt (tuT y) (tuT t) = true then _ else _) _ = _
        rw [if_pos hb]
        rfl
    | false =>
      obtain ⟨m, h1, h2, h3⟩ := min_tuT ts t
      have hy : leT t y := lt_tuT.mp hb
      refine ⟨m, ?_, fun u hu => ?_, ?_⟩
      · rcases List.mem_cons.mp h1 with rfl | h1
        · exact List.mem_cons_self
        · exact List.mem_cons_of_mem _ (List.mem_cons_of_mem _ h1)
      · rcases List.mem_cons.mp hu with rfl | hu
        · exact h2 _ List.mem_cons_self
        · rcases List.mem_cons.mp hu with rfl | hu
          · exact leT_trans (h2 t List.mem_cons_self) hy
          · exact h2 u (List.mem_cons_of_mem _ hu)
      · rw [← h3]
        show List.foldl _ (if DatumOrd.lt (tuT y) (tuT t) = true then _ else _) _ = _
        rw [if_neg (by rw [hb]; decide)]
        rfl
def rMinT (K : PySem.W.Frag) : List V → Hp → VK → Prop := fun vs H Q => ∃ (a : Addr) (xs : List V) (ts : List (Int × Int × Int)), vs = [V.ref a] ∧ SqL K H a xs ∧ All2 (fun t x => TpI K H x (itT t)) ts xs ∧ ts ≠ [] ∧
  ∀ (i : Nat) (x : V) (t : Int × Int × Int), xs[i]? = some x → ts[i]? = some t → (∀ u ∈ ts, leT t u) → Q x H
theorem reads_tup (pins : List (Addr × Obj)) {σ : L2.St} {H : Hp} {s : Shared} (I : Inv X pins σ H s) {x : V} {v : Value} {t : Int × Int × Int} (h : TpI X.K H x (itT t)) (r : RelV x v) : Reads s.heap v (Datum.toD (tuT t)) [] := by
  obtain ⟨b, rfl, hb⟩ := h
  obtain rfl : v = Value.ref b := r
  obtain ⟨its, rv, hT, _⟩ := I.tuple hb
  obtain ⟨o, ho, hcl, n, hd⟩ := hT
  exact .tuple ho hcl hd (reads_nums (us := its.toArray.toList) (by simpa using rv.ints))
theorem reads_tups (pins : List (Addr × Obj)) {σ : L2.St} {H : Hp} {s : Shared} (I : Inv X pins σ H s) : ∀ {ts : List (Int × Int × Int)} {xs : List V} {us : List Value}, All2 (fun t x => TpI X.K H x (itT t)) ts xs → Vals xs us → ReadsAll s.heap us ((ts.map tuT).map Datum.toD) []
  | _, _, _, .nil, .nil => .nil
  | _, _, _, .cons h t, .cons r rs => (show ReadsAll s.heap (_ :: _) (_ :: _) ([] ++ []) from .cons (reads_tup pins I h r) (reads_tups pins I t rs))
theorem depth_tups : ∀ (ts : List (Int × Int × Int)), PyData.depthAll ((ts.map tuT).map Datum.toD) ≤ 3
  | [] => by simp [PyData.depthAll]
  | t :: ts => by
    have h1 := depth_tups ts
    have h2 := depth_nums (itT t)
    rw [List.map_cons, List.map_cons, PyData.depthAll]
    have h3 : (Datum.toD (tuT t)).depth ≤ 3 := by
      show (PyData.tuple ((itT t).map PyData.int)).depth ≤ 3
      rw [PyData.depth]
      omega
    omega
theorem tuT_inj {a b : Int × Int × Int} (h : Datum.toD (tuT a) = Datum.toD (tuT b)) : a = b := by
  obtain ⟨a1, a2, a3⟩ := a
  obtain ⟨b1, b2, b3⟩ := b
  have h' : PyData.tuple [.int a1, .int a2, .int a3] = PyData.tuple [.int b1, .int b2, .int b3] := h
  simpa using h'
theorem cr_minT (hc : X.calm = true) (hu : X.A.units + 4 < cLine) : CallR X (.builtin "min") (rMinT X.K) := by
  intro pins s σ H xs us Q I r h
  obtain ⟨a, xs, ts, rfl, hs, hx, hne, q⟩ := h
  obtain ⟨its, rv, hl, _⟩ := I.list hs
  rw [Vals.ref1 r]
  cases ts with
  | nil => exact absurd rfl hne
  | cons t ts =>
    obtain ⟨m, h1, h2, h3⟩ := min_tuT ts t
    have hd := depth_tups (t :: ts)
    have hr := reads_tups pins I hx rv
    refine min_list_data (x := Datum.toD (tuT t)) (xs := (ts.map tuT).map Datum.toD) (I.ok.hd hc) hl.isList hr (alikeAll_datum (α := Tup Int) ((t :: ts).map tuT)) (by
      have : PyData.depthAll (Datum.toD (tuT t) :: (ts.map tuT).map Datum.toD) ≤ 3 := hd
      omega) (fun i v h' tk bs hv hrd hk => ?_)
    have hv' : its[i]? = some v := by simpa using hv
    obtain ⟨x, hxi, hxv⟩ := vals_at rv hv'
    obtain ⟨t', ht', hti⟩ := hx.get' hxi
    rw [minD_map, h3] at hrd
    have e := (reads_keeps hk (reads_tup pins I hti hxv)).unique _ _ hrd
    have e := tuT_inj e.1
    subst e
    exact ⟨x, H, I.kept hk, hxv, q i x _ hxi ht' h2⟩
end
end Tf
/-! exact ways, short ways: plain Lean -/
namespace Tf
/-- o is the least of what S holds -/
def Lst (S : Int → Prop) : Option Int → Prop
  | none => ∀ x, ¬ S x
  | some m => S m ∧ ∀ x, S x → m ≤ x
theorem Lst.eq {S T : Int → Prop} : ∀ {o o' : Option Int}, Lst S o → Lst T o' → (∀ x, S x → ∃ y, T y ∧ y ≤ x) → (∀ x, T x → ∃ y, S y ∧ y ≤ x) → o = o'
  | none, none, _, _, _, _ => rfl
  | none, some m, h, h', _, g => by
    obtain ⟨y, hy, _⟩ := g m h'.1
    exact (h y hy).elim
  | some m, none, h, h', f, _ => by
    obtain ⟨y, hy, _⟩ := f m h.1
    exact (h' y hy).elim
  | some m, some m', h, h', f, g => by
    obtain ⟨y, hy, l1⟩ := f m h.1
    obtain ⟨z, hz, l2⟩ := g m' h'.1
    have := h'.2 y hy
    have := h.2 z hz
    exact congrArg some (by omega)
theorem Lst.trans {S T : Int → Prop} : ∀ {o : Option Int}, Lst S o → (∀ x, S x → ∃ y, T y ∧ y ≤ x) → (∀ x, T x → ∃ y, S y ∧ y ≤ x) → Lst T o
  | none, h, _, g => fun x hx => by
    obtain ⟨y, hy, _⟩ := g x hx
    exact h y hy
  | some m, h, f, g => by
    obtain ⟨y, hy, l1⟩ := f m h.1
    obtain ⟨z, hz, l2⟩ := g y hy
    have l3 := h.2 z hz
    have e : y = m := by omega
    refine ⟨e ▸ hy, fun x hx => ?_⟩
    obtain ⟨z, hz, l2⟩ := g x hx
    have := h.2 z hz
    omega
theorem Lst.congr {S T : Int → Prop} {o : Option Int} (h : Lst S o) (e : ∀ x, S x ↔ T x) : Lst T o :=
  h.trans (fun x hx => ⟨x, (e x).mp hx, Int.le_refl _⟩) (fun x hx => ⟨x, (e x).mpr hx, Int.le_refl _⟩)
theorem lst_minI : ∀ ns : List Int, Lst (· ∈ ns) (minI ns)
  | [] => fun x h => by cases h
  | n :: r => by
    have : ∀ (r : List Int) (n : Int), (r.foldl min n ∈ n :: r) ∧ ∀ x ∈ n :: r, r.foldl min n ≤ x := by
      intro r
      induction r with
      | nil => exact fun n => ⟨List.mem_cons_self, fun x hx => by rw [List.mem_singleton.mp hx]; exact Int.le_refl _⟩
      | cons k r ih =>
        intro n
        obtain ⟨h1, h2⟩ := ih (min n k)
        rw [List.foldl_cons]
        refine ⟨?_, fun x hx => ?_⟩
        · rcases List.mem_cons.mp h1 with h | h
          · rw [h]
            rcases Int.le_total n k with q | q
            · rw [Int.min_eq_left q]
              exact List.mem_cons_self
            · rw [Int.min_eq_right q]
              exact List.mem_cons_of_mem _ List.mem_cons_self
          · exact List.mem_cons_of_mem _ (List.mem_cons_of_mem _ h)
        · have h3 := h2 (min n k) List.mem_cons_self
          rcases List.mem_cons.mp hx with rfl | hx
          · omega
          · rcases List.mem_cons.mp hx with rfl | hx
            · omega
            · exact h2 x (List.mem_cons_of_mem _ hx)
    exact this r n
/-- the sums of the steps of a row -/
def stepS (row : Row) (f : Nat → Option Int) : Int → Prop := fun x => ∃ p ∈ row, ∃ y, f p.2 = some y ∧ x = p.1 + y
theorem getD_step_ne {c : Int} {ls acc : List (Int × Int)} {k j : Int} (e : ¬ j = k + 1) : getD (leastStep c ls acc k) j = getD acc j := by
  unfold leastStep
  dsimp only
  split
  · rw [getD_put, if_neg e]
  · split
    · rw [getD_put, if_neg e]
    · rfl
theorem step_lst {c : Int} {ls acc : List (Int × Int)} {k j : Int} {S : Int → Prop} (h : Lst S (getD acc j)) : Lst (fun y => S y ∨ (j = k + 1 ∧ y = c + (getD ls k).getD 0)) (getD (leastStep c ls acc k) j) := by
  by_cases e : j = k + 1
  · subst e
    unfold leastStep
    dsimp only
    generalize c + (getD ls k).getD 0 = v
    cases hg : getD acc (k + 1) with
    | none =>
      rw [hg] at h
      dsimp only
      rw [getD_put, if_pos rfl]
      exact ⟨.inr ⟨rfl, rfl⟩, fun x hx => hx.elim (fun hx => (h x hx).elim) fun hx => by omega⟩
    | some z =>
      rw [hg] at h
      dsimp only
      split
      · rw [getD_put, if_pos rfl]
        exact ⟨.inr ⟨rfl, rfl⟩, fun x hx => hx.elim (fun hx => by have := h.2 x hx; omega) fun hx => by omega⟩
      · rw [hg]
        exact ⟨.inl h.1, fun x hx => hx.elim (fun hx => h.2 x hx) fun hx => by omega⟩
  · rw [getD_step_ne e]
    exact h.congr fun x => ⟨.inl, fun hx => hx.elim id fun hx => (e hx.1).elim⟩
theorem fold_lst {c : Int} {ls : List (Int × Int)} {j : Int} : ∀ (ks : List Int) {acc : List (Int × Int)} {S : Int → Prop}, Lst S (getD acc j) → Lst (fun y => S y ∨ (j - 1 ∈ ks ∧ y = c + (getD ls (j - 1)).getD 0)) (getD (ks.foldl (leastStep c ls) acc) j)
  | [], _, _, h => h.congr fun x => ⟨.inl, fun hx => hx.elim id fun hx => by cases hx.1⟩
  | k :: ks, acc, S, h => (fold_lst ks (step_lst (k := k) h)).congr fun x => by
    refine ⟨fun hx => ?_, fun hx => ?_⟩
    · rcases hx with (hx | ⟨e, hx⟩) | ⟨h1, h2⟩
      · exact .inl hx
      · have : k = j - 1 := by omega
        subst this
        exact .inr ⟨List.mem_cons_self, hx⟩
      · exact .inr ⟨List.mem_cons_of_mem _ h1, h2⟩
    · rcases hx with hx | ⟨h1, h2⟩
      · exact .inl (.inl hx)
      · rcases List.mem_cons.mp h1 with e | h1
        · refine .inl (.inr ⟨by omega, ?_⟩)
          rw [← e]
          exact h2
        · exact .inr ⟨h1, h2⟩
theorem all_lst {c : Int} {ls acc : List (Int × Int)} {j : Int} {S : Int → Prop} (h : Lst S (getD acc j)) : Lst (fun y => S y ∨ ∃ z, getD ls (j - 1) = some z ∧ y = c + z) (getD (leastAll c ls acc) j) :=
  (fold_lst (ls.map (·.1)) h).congr fun x => by
    refine ⟨fun hx => hx.elim .inl fun ⟨h1, h2⟩ => ?_, fun hx => hx.elim .inl fun ⟨z, h1, h2⟩ => ?_⟩
    · obtain ⟨z, hz⟩ := getD_some h1
      rw [hz] at h2
      exact .inr ⟨z, hz, h2⟩
    · rw [h1]
      exact .inr ⟨List.mem_map.mpr ⟨_, getD_mem h1, rfl⟩, h2⟩
theorem of_lst {look : Nat → List (Int × Int)} {j : Int} : ∀ (row : Row) {acc : List (Int × Int)} {S : Int → Prop}, Lst S (getD acc j) → Lst (fun y => S y ∨ stepS row (fun a => getD (look a) (j - 1)) y) (getD (row.foldl (fun acc p => leastAll p.1 (look p.2) acc) acc) j)
  | [], _, _, h => h.congr fun x => ⟨.inl, fun hx => hx.elim id fun ⟨p, hp, _⟩ => by cases hp⟩
  | p :: row, acc, S, h => (of_lst row (all_lst (c := p.1) (ls := look p.2) h)).congr fun x => by
    refine ⟨fun hx => ?_, fun hx => ?_⟩
    · rcases hx with (hx | ⟨z, h1, h2⟩) | ⟨q, hq, y, h1, h2⟩
      · exact .inl hx
      · exact .inr ⟨p, List.mem_cons_self, z, h1, h2⟩
      · exact .inr ⟨q, List.mem_cons_of_mem _ hq, y, h1, h2⟩
    · rcases hx with hx | ⟨q, hq, y, h1, h2⟩
      · exact .inl (.inl hx)
      · rcases List.mem_cons.mp hq with rfl | hq
        · exact .inl (.inr ⟨y, h1, h2⟩)
        · exact .inr ⟨q, hq, y, h1, h2⟩
theorem lens_lst {rows : List Row} (w : WF rows) {k : Nat} {row : Row} (hr : rows[k]? = some row) (e : k + 1 ≠ rows.length) (j : Int) : Lst (stepS row fun a => getD (lens rows a) (j - 1)) (getD (lens rows k) j) := by
  rw [lens_row w hr e]
  refine (of_lst row (acc := []) (S := fun _ => False) (look := lens rows) (j := j) ?_).congr fun x => ⟨fun h => h.elim (fun h => h.elim) id, .inr⟩
  rw [getD_nil]
  exact fun x h => h
/-- the least cost of the lengths up to most -/
def within (d : List (Int × Int)) (most : Int) : Option Int := minI ((d.filter fun p => decide (p.1 ≤ most)).map (·.2))
theorem within_lst {d : List (Int × Int)} (hn : (d.map (·.1)).Nodup) (most : Int) : Lst (fun x => ∃ m, m ≤ most ∧ getD d m = some x) (within d most) :=
  (lst_minI _).congr fun x => by
    refine ⟨fun hx => ?_, fun ⟨m, h1, h2⟩ => ?_⟩
    · obtain ⟨p, hp, rfl⟩ := List.mem_map.mp hx
      obtain ⟨h1, h2⟩ := List.mem_filter.mp hp
      exact ⟨p.1, of_decide_eq_true h2, getD_of hn h1⟩
    · exact List.mem_map.mpr ⟨_, List.mem_filter.mpr ⟨getD_mem h2, decide_eq_true h1⟩, rfl⟩
theorem lens_nd {rows : List Row} (w : WF rows) {k : Nat} (h : k < rows.length) : Keys (rows.length - k) (lens rows k) := lens_keys w _ k (by omega) (by omega)
theorem short_lst {rows : List Row} (w : WF rows) {k : Nat} {row : Row} (hr : rows[k]? = some row) (e : k + 1 ≠ rows.length) (most : Int) : Lst (stepS row fun a => within (lens rows a) (most - 1)) (within (lens rows k) most) := by
  have hk : k < rows.length := (List.getElem?_eq_some_iff.mp hr).1
  refine (within_lst (lens_nd w hk).1 most).trans ?_ ?_
  · rintro x ⟨m, h1, h2⟩
    have h3 := lens_lst w hr e m
    rw [h2] at h3
    obtain ⟨p, hp, y, h4, h5⟩ := h3.1
    have hpw := w.2 k row hr p hp
    have h6 := within_lst (lens_nd w hpw.2.2).1 (most - 1)
    cases hz : within (lens rows p.2) (most - 1) with
    | none =>
      rw [hz] at h6
      exact (h6 y ⟨m - 1, by omega, h4⟩).elim
    | some z =>
      rw [hz] at h6
      have := h6.2 y ⟨m - 1, by omega, h4⟩
      exact ⟨p.1 + z, ⟨p, hp, z, hz, rfl⟩, by omega⟩
  · rintro x ⟨p, hp, y, h4, h5⟩
    have hpw := w.2 k row hr p hp
    have h6 := within_lst (lens_nd w hpw.2.2).1 (most - 1)
    dsimp only at h4
    rw [h4] at h6
    obtain ⟨m, h7, h8⟩ := h6.1
    have h3 := lens_lst w hr e (m + 1)
    have e1 : m + 1 - 1 = m := by omega
    have h9 : stepS row (fun a => getD (lens rows a) (m + 1 - 1)) (p.1 + y) := ⟨p, hp, y, by dsimp only; rw [e1]; exact h8, rfl⟩
    cases hz : getD (lens rows k) (m + 1) with
    | none =>
      rw [hz] at h3
      exact (h3 _ h9).elim
    | some z =>
      rw [hz] at h3
      have := h3.2 _ h9
      exact ⟨z, ⟨m + 1, by omega, hz⟩, by omega⟩
/-- the least cost of all lengths -/
def tot (rows : List Row) (k : Nat) : Option Int := within (lens rows k) (rows.length : Int)
theorem within_tot {rows : List Row} (w : WF rows) {k : Nat} (h : k < rows.length) {most : Int} (hm : (rows.length : Int) - k ≤ most + 1) : within (lens rows k) most = tot rows k := by
  have hK := lens_nd w h
  have hb : ∀ m x, getD (lens rows k) m = some x → m < (rows.length : Int) - k := fun m x hx => by
    have := hK.2 m (List.mem_map.mpr ⟨_, getD_mem hx, rfl⟩)
    omega
  refine (within_lst hK.1 most).eq (within_lst hK.1 (rows.length : Int)) (fun x ⟨m, h1, h2⟩ => ⟨x, ⟨m, ?_, h2⟩, Int.le_refl _⟩) (fun x ⟨m, h1, h2⟩ => ⟨x, ⟨m, ?_, h2⟩, Int.le_refl _⟩)
  · have := hb m x h2
    omega
  · have := hb m x h2
    omega
theorem stepS_congr {row : Row} {f g : Nat → Option Int} (h : ∀ p ∈ row, f p.2 = g p.2) (x : Int) : stepS row f x ↔ stepS row g x := by
  refine ⟨fun ⟨p, hp, y, h1, h2⟩ => ⟨p, hp, y, (h p hp) ▸ h1, h2⟩, fun ⟨p, hp, y, h1, h2⟩ => ⟨p, hp, y, (h p hp).symm ▸ h1, h2⟩⟩
theorem tot_lst {rows : List Row} (w : WF rows) {k : Nat} {row : Row} (hr : rows[k]? = some row) (e : k + 1 ≠ rows.length) : Lst (stepS row (tot rows)) (tot rows k) := by
  refine (short_lst w hr e (rows.length : Int)).congr (stepS_congr fun p hp => ?_)
  have := w.2 k row hr p hp
  exact within_tot w this.2.2 (by omega)
/-- the first step that comes to what is due -/
def firstP (row : Row) (f : Nat → Option Int) (due : Int) : Option (Int × Nat) := row.find? fun p => decide ((f p.2).map (p.1 + ·) = some due)
def nxt (row : Row) (f : Nat → Option Int) (due : Int) : Nat := match firstP row f due with
  | some p => p.2
  | none => 0
theorem firstP_some {row : Row} {f : Nat → Option Int} {due : Int} (h : Lst (stepS row f) (some due)) : ∃ p y, firstP row f due = some p ∧ p ∈ row ∧ f p.2 = some y ∧ p.1 + y = due ∧ nxt row f due = p.2 := by
  obtain ⟨q, hq, y, h1, h2⟩ := h.1
  have hs : (firstP row f due).isSome := by
    unfold firstP
    rw [List.find?_isSome]
    exact ⟨q, hq, decide_eq_true (by rw [h1]; exact congrArg some h2.symm)⟩
  obtain ⟨p, hp⟩ := Option.isSome_iff_exists.mp hs
  have hp' : List.find? (fun p : Int × Nat => decide ((f p.2).map (p.1 + ·) = some due)) row = some p := hp
  have h3 : (f p.2).map (p.1 + ·) = some due := by simpa using List.find?_some hp'
  obtain ⟨z, h4, h5⟩ := Option.map_eq_some_iff.mp h3
  exact ⟨p, z, hp, List.mem_of_find?_eq_some hp', h4, h5, by unfold nxt; rw [hp]⟩
theorem firstP_same {row : Row} {f g : Nat → Option Int} {due : Int} {p : Int × Nat} (h : firstP row f due = some p) (hg : (g p.2).map (p.1 + ·) = some due) (hf : ∀ q ∈ row, (g q.2).map (q.1 + ·) = some due → (f q.2).map (q.1 + ·) = some due) : firstP row g due = some p := by
  unfold firstP at h ⊢
  induction row with
  | nil => cases h
  | cons q row ih =>
    rw [List.find?_cons] at h ⊢
    by_cases e : (f q.2).map (q.1 + ·) = some due
    · rw [decide_eq_true e] at h
      cases h
      rw [decide_eq_true hg]
    · rw [decide_eq_false e] at h
      have : ¬ (g q.2).map (q.1 + ·) = some due := fun e2 => e (hf q List.mem_cons_self e2)
      rw [decide_eq_false this]
      exact ih h fun q hq => hf q (List.mem_cons_of_mem _ hq)
/-- what the law gathers: the sums of the steps, each with its place -/
def sumsOf (row : Row) (f : Nat → Option Int) : List (Int × Int × Int) := row.foldl (fun acc p => match f p.2 with
  | none => acc
  | some y => acc ++ [(p.1 + y, (acc.length : Int), (p.2 : Int))]) []
theorem sumsOf_snoc {row : Row} {f : Nat → Option Int} {p : Int × Nat} : sumsOf (row ++ [p]) f = match f p.2 with
  | none => sumsOf row f
  | some y => sumsOf row f ++ [(p.1 + y, ((sumsOf row f).length : Int), (p.2 : Int))] := by
  unfold sumsOf
  rw [List.foldl_append]
  rfl
theorem snoc_ind {α : Type} {P : List α → Prop} (h0 : P []) (h1 : ∀ l a, P l → P (l ++ [a])) : ∀ l, P l := fun l => by
  have : ∀ n (l : List α), l.length = n → P l := by
    intro n
    induction n with
    | zero =>
      intro l e
      rw [List.eq_nil_of_length_eq_zero e]
      exact h0
    | succ n ih =>
      intro l e
      rcases List.eq_nil_or_concat l with rfl | ⟨l', a, rfl⟩
      · exact h0
      · rw [List.concat_eq_append] at e ⊢
        exact h1 l' a (ih l' (by simpa using e))
  exact this _ l rfl
theorem sumsOf_mem (f : Nat → Option Int) : ∀ row : Row, (∀ u ∈ sumsOf row f, u.2.1 < ((sumsOf row f).length : Int) ∧ stepS row f u.1) ∧ (∀ x, stepS row f x → ∃ u ∈ sumsOf row f, u.1 = x) :=
  fun row => by
   induction row using snoc_ind with
   | h0 => exact ⟨fun u hu => (nomatch hu), fun x ⟨p, hp, _⟩ => (nomatch hp)⟩
   | h1 row p ih =>
    obtain ⟨ih1, ih2⟩ := ih
    rw [sumsOf_snoc]
    have up : ∀ {x}, stepS row f x → stepS (row ++ [p]) f x := fun ⟨q, hq, h⟩ => ⟨q, List.mem_append_left _ hq, h⟩
    cases hp : f p.2 with
    | none =>
      refine ⟨fun u hu => ⟨(ih1 u hu).1, up (ih1 u hu).2⟩, fun x ⟨q, hq, y, h1, h2⟩ => ?_⟩
      rcases List.mem_append.mp hq with hq | hq
      · exact ih2 x ⟨q, hq, y, h1, h2⟩
      · rw [List.mem_singleton.mp hq, hp] at h1
        cases h1
    | some y =>
      dsimp only
      refine ⟨fun u hu => ?_, fun x ⟨q, hq, z, h1, h2⟩ => ?_⟩
      · rw [List.length_append, List.length_singleton]
        rcases List.mem_append.mp hu with hu | hu
        · have := ih1 u hu
          exact ⟨by omega, up this.2⟩
        · rw [List.mem_singleton.mp hu]
          exact ⟨by show ((sumsOf row f).length : Int) < _; omega, p, by simp, y, hp, rfl⟩
      · rcases List.mem_append.mp hq with hq | hq
        · obtain ⟨u, hu, e⟩ := ih2 x ⟨q, hq, z, h1, h2⟩
          exact ⟨u, List.mem_append_left _ hu, e⟩
        · rw [List.mem_singleton.mp hq] at h1 h2
          rw [hp] at h1
          cases h1
          exact ⟨_, List.mem_append_right _ (List.mem_singleton.mpr rfl), h2.symm⟩
theorem sumsOf_least (f : Nat → Option Int) : ∀ row : Row, ∀ t ∈ sumsOf row f, (∀ u ∈ sumsOf row f, leT t u) → ∃ p, firstP row f t.1 = some p ∧ t.2.2 = (p.2 : Int) :=
  fun row => by
   induction row using snoc_ind with
   | h0 => exact fun t ht => by cases ht
   | h1 row p ih =>
    intro t ht hl
    rw [sumsOf_snoc] at ht hl
    unfold firstP
    rw [List.find?_append]
    cases hp : f p.2 with
    | none =>
      rw [hp] at ht hl
      obtain ⟨q, h1, h2⟩ := ih t ht hl
      refine ⟨q, ?_, h2⟩
      unfold firstP at h1
      rw [h1]
      rfl
    | some y =>
      rw [hp] at ht hl
      dsimp only at ht hl
      rcases List.mem_append.mp ht with ht | ht
      · obtain ⟨q, h1, h2⟩ := ih t ht fun u hu => hl u (List.mem_append_left _ hu)
        refine ⟨q, ?_, h2⟩
        unfold firstP at h1
        rw [h1]
        rfl
      · have e := List.mem_singleton.mp ht
        subst e
        refine ⟨p, ?_, rfl⟩
        have hno : List.find? (fun p_1 : Int × Nat => decide ((f p_1.2).map (p_1.1 + ·) = some (p.1 + y))) row = none := by
          refine List.find?_eq_none.mpr fun q hq hq2 => ?_
          obtain ⟨z, h4, h5⟩ := Option.map_eq_some_iff.mp (of_decide_eq_true hq2)
          obtain ⟨u, hu, e⟩ := (sumsOf_mem f row).2 (q.1 + z) ⟨q, hq, z, h4, rfl⟩
          have h6 := hl u (List.mem_append_left _ hu)
          have h7 := ((sumsOf_mem f row).1 u hu).1
          unfold leT at h6
          dsimp only at h6
          omega
        show (Option.or (List.find? (fun p_1 : Int × Nat => decide ((f p_1.2).map (p_1.1 + ·) = some (p.1 + y))) row) _) = _
        rw [hno, List.find?_cons, decide_eq_true (show (f p.2).map (p.1 + ·) = some (p.1 + y) by rw [hp]; rfl)]
        rfl
/-- the least of the gathered sums leads where the first that comes to what is due leads -/
theorem sumsOf_nxt {row : Row} {f : Nat → Option Int} {due : Int} (h : Lst (stepS row f) (some due)) : sumsOf row f ≠ [] ∧ ∀ t ∈ sumsOf row f, (∀ u ∈ sumsOf row f, leT t u) → t.2.2 = (nxt row f due : Int) := by
  obtain ⟨u, hu, e⟩ := (sumsOf_mem f row).2 due h.1
  refine ⟨fun q => (by rw [q] at hu; cases hu), fun t ht hl => ?_⟩
  have e1 : t.1 = due := by
    have h1 := h.2 _ ((sumsOf_mem f row).1 t ht).2
    have h2 := hl u hu
    unfold leT at h2
    omega
  obtain ⟨p, h1, h2⟩ := sumsOf_least f row t ht hl
  rw [e1] at h1
  rw [h2]
  unfold nxt
  rw [h1]
theorem sumsOf_len (f : Nat → Option Int) : ∀ row : Row, (sumsOf row f).length ≤ row.length :=
  fun row => by
   induction row using snoc_ind with
   | h0 => exact Nat.le_refl _
   | h1 row p ih =>
    rw [sumsOf_snoc, List.length_append]
    cases f p.2 with
    | none =>
      dsimp only
      omega
    | some y =>
      dsimp only
      rw [List.length_append]
      simp
      exact ih
/-- the least of the costs from a row to b -/
def edgeOf (row : Row) (b : Nat) : Option Int := minI ((row.filter fun p => decide (p.2 = b)).map (·.1))
theorem edge_step {row : Row} {f : Nat → Option Int} {due y : Int} {p : Int × Nat} (h : Lst (stepS row f) (some due)) (hp : p ∈ row) (hy : f p.2 = some y) (e : p.1 + y = due) : edgeOf row p.2 = some (due - y) := by
  refine (lst_minI _).eq (T := fun x => x = due - y) (o' := some (due - y)) ⟨rfl, fun x hx => Int.le_of_eq hx.symm⟩ (fun x hx => ⟨due - y, rfl, ?_⟩) (fun x hx => ⟨p.1, ?_, by omega⟩)
  · obtain ⟨q, hq, rfl⟩ := List.mem_map.mp hx
    obtain ⟨h1, h2⟩ := List.mem_filter.mp hq
    have e2 : q.2 = p.2 := of_decide_eq_true h2
    have := h.2 (q.1 + y) ⟨q, h1, y, by rw [e2]; exact hy, rfl⟩
    omega
  · exact List.mem_map.mpr ⟨p, List.mem_filter.mpr ⟨hp, decide_eq_true rfl⟩, rfl⟩
/-- one step of a way -/
structure StepOk (rows : List Row) (f : Nat → Option Int) (k : Nat) (due : Int) (nk : Nat) (row : Row) (y : Int) : Prop where
  row_ : rows[k]? = some row
  lst : Lst (stepS row f) (some due)
  nx : nxt row f due = nk
  lt : k < nk ∧ nk < rows.length
  fy : f nk = some y
  edge : edgeOf row nk = some (due - y)
  step : ∃ c, (c, nk) ∈ row
theorem StepOk.of {rows : List Row} (w : WF rows) {f : Nat → Option Int} {k : Nat} {due : Int} {row : Row} (hr : rows[k]? = some row) (h : Lst (stepS row f) (some due)) : ∃ y, StepOk rows f k due (nxt row f due) row y := by
  obtain ⟨p, y, h1, h2, h3, h4, h5⟩ := firstP_some h
  have hw := w.2 k row hr p h2
  exact ⟨y, hr, h, rfl, by rw [h5]; exact hw.2, by rw [h5]; exact h3, by rw [h5]; exact edge_step h h2 h3 h4, p.1, by rw [h5]; exact h2⟩
/-! exact ways -/
def exactAt (rows : List Row) (m : Int) : Nat → Nat
  | 0 => 0
  | i + 1 => nxt ((rows[exactAt rows m i]?).getD []) (fun a => getD (lens rows a) (m - i - 1)) ((getD (lens rows (exactAt rows m i)) (m - i)).getD 0)
theorem lens_end {rows : List Row} {k : Nat} (e : k + 1 = rows.length) {m x : Int} (h : getD (lens rows k) m = some x) : m = 0 ∧ x = 0 := by
  rw [lens_last e, getD_cons, getD_nil] at h
  split at h
  · next q =>
    have q : (0 : Int) = m := q
    have := Option.some.inj h
    exact ⟨q.symm, this.symm⟩
  · cases h
theorem lens_zero {rows : List Row} (w : WF rows) {k : Nat} (hk : k < rows.length) {x : Int} (h : getD (lens rows k) 0 = some x) : k + 1 = rows.length := by
  by_cases e : k + 1 = rows.length
  · exact e
  · obtain ⟨row, hr⟩ := w.row hk
    have h1 := lens_lst w hr e 0
    rw [h] at h1
    obtain ⟨p, hp, y, h2, _⟩ := h1.1
    have hw := w.2 k row hr p hp
    have := (lens_nd w hw.2.2).2 _ (List.mem_map.mpr ⟨_, getD_mem h2, rfl⟩)
    have : (0 : Int) ≤ 0 - 1 := this.1
    omega
theorem exact_step {rows : List Row} (w : WF rows) {k : Nat} (hk : k < rows.length) {l due : Int} (hl : 0 < l) (h : getD (lens rows k) l = some due) : ∃ row y, rows[k]? = some row ∧ StepOk rows (fun a => getD (lens rows a) (l - 1)) k due (nxt ((rows[k]?).getD []) (fun a => getD (lens rows a) (l - 1)) due) row y := by
  obtain ⟨row, hr⟩ := w.row hk
  have e : k + 1 ≠ rows.length := fun e => by
    have := (lens_end e h).1
    omega
  have h1 := lens_lst w hr e l
  rw [h] at h1
  obtain ⟨y, hs⟩ := StepOk.of w hr h1
  exact ⟨row, y, hr, by rw [hr]; exact hs⟩
theorem exact_at {rows : List Row} (w : WF rows) {m d0 : Int} (h0 : getD (lens rows 0) m = some d0) : ∀ i : Nat, (i : Int) ≤ m → exactAt rows m i < rows.length ∧ Reach rows (exactAt rows m i) ∧ ∃ due, getD (lens rows (exactAt rows m i)) (m - i) = some due
  | 0, _ => ⟨w.1, .first, d0, by show getD (lens rows 0) (m - ((0 : Nat) : Int)) = _; rw [show m - ((0 : Nat) : Int) = m by omega]; exact h0⟩
  | i + 1, hi => by
    obtain ⟨h1, h2, due, h3⟩ := exact_at w h0 i (by omega)
    obtain ⟨row, y, hr, hs⟩ := exact_step w h1 (by omega) h3
    have e : exactAt rows m (i + 1) = nxt ((rows[exactAt rows m i]?).getD []) (fun a => getD (lens rows a) (m - i - 1)) due := by
      show nxt _ _ ((getD (lens rows (exactAt rows m i)) (m - i)).getD 0) = _
      rw [h3]
      rfl
    rw [← e] at hs
    obtain ⟨c, hc⟩ := hs.step
    refine ⟨hs.lt.2, .step h2 hr hc, y, ?_⟩
    rw [show m - ((i + 1 : Nat) : Int) = m - i - 1 by omega]
    exact hs.fy
theorem exact_next {rows : List Row} (w : WF rows) {m d0 : Int} (h0 : getD (lens rows 0) m = some d0) {i : Nat} (hi : (i : Int) < m) : ∃ due row y, getD (lens rows (exactAt rows m i)) (m - i) = some due ∧ StepOk rows (fun a => getD (lens rows a) (m - i - 1)) (exactAt rows m i) due (exactAt rows m (i + 1)) row y := by
  obtain ⟨h1, h2, due, h3⟩ := exact_at w h0 i (by omega)
  obtain ⟨row, y, hr, hs⟩ := exact_step w h1 (by omega) h3
  have e : exactAt rows m (i + 1) = nxt ((rows[exactAt rows m i]?).getD []) (fun a => getD (lens rows a) (m - i - 1)) due := by
    show nxt _ _ ((getD (lens rows (exactAt rows m i)) (m - i)).getD 0) = _
    rw [h3]
    rfl
  rw [← e] at hs
  exact ⟨due, row, y, h3, hs⟩
def exWay (rows : List Row) (m : Int) : List Nat := (List.range (m.toNat + 1)).map (exactAt rows m)
def exOpt (rows : List Row) (m : Int) : Option (List Nat) := if (getD (lens rows 0) m).isSome then some (exWay rows m) else none
/-! short ways -/
def shortAt (rows : List Row) (most : Int) : Nat → Nat
  | 0 => 0
  | i + 1 => nxt ((rows[shortAt rows most i]?).getD []) (fun a => within (lens rows a) (most - i - 1)) ((within (lens rows (shortAt rows most i)) (most - i)).getD 0)
theorem short_step {rows : List Row} (w : WF rows) {k : Nat} (hk : k < rows.length) (e : k + 1 ≠ rows.length) {l due : Int} (h : within (lens rows k) l = some due) : ∃ row y, rows[k]? = some row ∧ StepOk rows (fun a => within (lens rows a) (l - 1)) k due (nxt ((rows[k]?).getD []) (fun a => within (lens rows a) (l - 1)) due) row y := by
  obtain ⟨row, hr⟩ := w.row hk
  have h1 := short_lst w hr e l
  rw [h] at h1
  obtain ⟨y, hs⟩ := StepOk.of w hr h1
  exact ⟨row, y, hr, by rw [hr]; exact hs⟩
theorem short_next' {rows : List Row} (w : WF rows) {most : Int} {i : Nat} (h1 : shortAt rows most i < rows.length) (e : shortAt rows most i + 1 ≠ rows.length) {due : Int} (h3 : within (lens rows (shortAt rows most i)) (most - i) = some due) : ∃ row y, rows[shortAt rows most i]? = some row ∧ StepOk rows (fun a => within (lens rows a) (most - i - 1)) (shortAt rows most i) due (shortAt rows most (i + 1)) row y := by
  obtain ⟨row, y, hr, hs⟩ := short_step w h1 e h3
  have e : shortAt rows most (i + 1) = nxt ((rows[shortAt rows most i]?).getD []) (fun a => within (lens rows a) (most - i - 1)) due := by
    show nxt _ _ ((within (lens rows (shortAt rows most i)) (most - i)).getD 0) = _
    rw [h3]
    rfl
  rw [← e] at hs
  exact ⟨row, y, hr, hs⟩
theorem short_at {rows : List Row} (w : WF rows) {most d0 : Int} (h0 : within (lens rows 0) most = some d0) : ∀ i : Nat, (∀ j, j < i → shortAt rows most j + 1 ≠ rows.length) → shortAt rows most i < rows.length ∧ i ≤ shortAt rows most i ∧ Reach rows (shortAt rows most i) ∧ ∃ due, within (lens rows (shortAt rows most i)) (most - i) = some due
  | 0, _ => ⟨w.1, Nat.le_refl _, .first, d0, by show within (lens rows 0) (most - ((0 : Nat) : Int)) = _; rw [show most - ((0 : Nat) : Int) = most by omega]; exact h0⟩
  | i + 1, hi => by
    obtain ⟨h1, h2, h4, due, h3⟩ := short_at w h0 i fun j hj => hi j (by omega)
    obtain ⟨row, y, hr, hs⟩ := short_next' w h1 (hi i (by omega)) h3
    obtain ⟨c, hc⟩ := hs.step
    refine ⟨hs.lt.2, by have := hs.lt.1; omega, .step h4 hr hc, y, ?_⟩
    rw [show most - ((i + 1 : Nat) : Int) = most - i - 1 by omega]
    exact hs.fy
theorem short_next {rows : List Row} (w : WF rows) {most d0 : Int} (h0 : within (lens rows 0) most = some d0) {i : Nat} (hi : ∀ j, j ≤ i → shortAt rows most j + 1 ≠ rows.length) : ∃ due row y, within (lens rows (shortAt rows most i)) (most - i) = some due ∧ StepOk rows (fun a => within (lens rows a) (most - i - 1)) (shortAt rows most i) due (shortAt rows most (i + 1)) row y := by
  obtain ⟨h1, h2, h4, due, h3⟩ := short_at w h0 i fun j hj => hi j (by omega)
  obtain ⟨row, y, hr, hs⟩ := short_next' w h1 (hi i (by omega)) h3
  exact ⟨due, row, y, h3, hs⟩
/-- a way ends at its N-th state -/
def StopAt (rows : List Row) (most : Int) (N : Nat) : Prop := shortAt rows most N + 1 = rows.length ∧ ∀ j, j < N → shortAt rows most j + 1 ≠ rows.length
theorem StopAt.one {rows : List Row} {most : Int} {N M : Nat} (h : StopAt rows most N) (h' : StopAt rows most M) : N = M := by
  rcases Nat.lt_trichotomy N M with q | q | q
  · exact (h'.2 N q h.1).elim
  · exact q
  · exact (h.2 M q h'.1).elim
theorem StopAt.some_ {rows : List Row} (w : WF rows) {most d0 : Int} (h0 : within (lens rows 0) most = some d0) : ∃ N, N < rows.length ∧ StopAt rows most N := by
  have : ∀ n, (∀ j, j < n → shortAt rows most j + 1 ≠ rows.length) ∨ ∃ N, N < n ∧ StopAt rows most N := by
    intro n
    induction n with
    | zero => exact .inl fun j hj => absurd hj (Nat.not_lt_zero _)
    | succ n ih =>
      rcases ih with h | ⟨N, h1, h2⟩
      · by_cases e : shortAt rows most n + 1 = rows.length
        · exact .inr ⟨n, Nat.lt_succ_self _, e, h⟩
        · exact .inl fun j hj => by
            rcases Nat.lt_succ_iff_lt_or_eq.mp hj with h1 | rfl
            · exact h j h1
            · exact e
      · exact .inr ⟨N, Nat.lt_succ_of_lt h1, h2⟩
  rcases this rows.length with h | h
  · have := short_at w h0 rows.length h
    omega
  · exact h
def ShortWay (rows : List Row) (most : Int) (ws : List Nat) : Prop := ∃ N, N < rows.length ∧ StopAt rows most N ∧ ws = (List.range (N + 1)).map (shortAt rows most)
def ShOpt (rows : List Row) (most : Int) (o : Option (List Nat)) : Prop := (within (lens rows 0) most = none ∧ o = none) ∨ ∃ d0 ws, within (lens rows 0) most = some d0 ∧ ShortWay rows most ws ∧ o = some ws
theorem ShOpt.one {rows : List Row} {most : Int} {o o' : Option (List Nat)} (h : ShOpt rows most o) (h' : ShOpt rows most o') : o = o' := by
  rcases h with ⟨h1, rfl⟩ | ⟨d0, ws, h1, ⟨N, _, h2, rfl⟩, rfl⟩
  · rcases h' with ⟨_, rfl⟩ | ⟨d0, ws, h1', _⟩
    · rfl
    · rw [h1] at h1'
      cases h1'
  · rcases h' with ⟨h1', rfl⟩ | ⟨d0, ws, h1', ⟨M, _, h2', rfl⟩, rfl⟩
    · rw [h1] at h1'
      cases h1'
    · rw [h2.one h2']
/-! the cheapest way -/
theorem short_tot {rows : List Row} (w : WF rows) {most : Int} {i : Nat} {k : Nat} (hk : k < rows.length) (h : (rows.length : Int) + i ≤ most) : within (lens rows k) (most - i) = tot rows k := within_tot w hk (by omega)
/-- a short way within a great bound is the exact way of its length -/
theorem short_exact {rows : List Row} (w : WF rows) {most d0 : Int} (h0 : within (lens rows 0) most = some d0) {N : Nat} (hN : N < rows.length) (hS : StopAt rows most N) (hm : 2 * (rows.length : Int) ≤ most) :
    getD (lens rows 0) (N : Int) = some d0 ∧ ∀ i, i ≤ N → exactAt rows (N : Int) i = shortAt rows most i := by
  have main : ∀ j, j ≤ N → ∃ due, tot rows (shortAt rows most (N - j)) = some due ∧ getD (lens rows (shortAt rows most (N - j))) (j : Int) = some due := by
    intro j
    induction j with
    | zero =>
      intro _
      have e : shortAt rows most (N - 0) + 1 = rows.length := hS.1
      refine ⟨0, ?_, ?_⟩
      · unfold tot
        rw [lens_last e]
        unfold within
        have : decide ((0 : Int) ≤ (rows.length : Int)) = true := decide_eq_true (by omega)
        rw [List.filter_cons, if_pos this]
        rfl
      · rw [lens_last e]
        rfl
    | succ j ih =>
      intro hj
      obtain ⟨y0, hy0, hy1⟩ := ih (by omega)
      have hi : ∀ q, q ≤ N - (j + 1) → shortAt rows most q + 1 ≠ rows.length := fun q hq => hS.2 q (by omega)
      obtain ⟨due, row, y, h1, hs⟩ := short_next w h0 hi
      have hat := short_at w h0 (N - (j + 1)) fun q hq => hi q (by omega)
      have e1 : N - (j + 1) + 1 = N - j := by omega
      rw [e1] at hs
      have hfy := hs.fy
      rw [short_tot w hat.1 (by omega)] at h1
      refine ⟨due, h1, ?_⟩
      have hnk := hs.lt.2
      have hfy : within (lens rows (shortAt rows most (N - j))) (most - ((N - (j + 1) : Nat) : Int) - 1) = some y := hs.fy
      rw [within_tot w hnk (by omega), hy0] at hfy
      have eyy := Option.some.inj hfy
      subst eyy
      have hl := lens_lst w hs.row_ (hi _ (Nat.le_refl _)) ((j + 1 : Nat) : Int)
      have ej : ((j + 1 : Nat) : Int) - 1 = (j : Int) := by omega
      rw [ej] at hl
      -- some step comes to due
      have hd : ∃ p ∈ row, p.2 = shortAt rows most (N - j) ∧ p.1 + y0 = due := by
        obtain ⟨p, z, g1, g2, g3, g4, g5⟩ := firstP_some hs.lst
        have g6 : p.2 = shortAt rows most (N - j) := g5.symm.trans hs.nx
        have g7 := hs.fy
        rw [← g6] at g7
        have g8 := g3.symm.trans g7
        have := Option.some.inj g8
        exact ⟨p, g2, g6, by omega⟩
      obtain ⟨p, hp, hp2, hpd⟩ := hd
      have hmem : stepS row (fun a => getD (lens rows a) (j : Int)) due := ⟨p, hp, y0, by dsimp only; rw [hp2]; exact hy1, hpd.symm⟩
      cases hz : getD (lens rows (shortAt rows most (N - (j + 1)))) ((j + 1 : Nat) : Int) with
      | none =>
        rw [hz] at hl
        exact (hl due hmem).elim
      | some z =>
        rw [hz] at hl
        have h2 := hl.2 due hmem
        have h3 := within_lst (lens_nd w hat.1).1 (rows.length : Int)
        have h4 : within (lens rows (shortAt rows most (N - (j + 1)))) (rows.length : Int) = some due := h1
        rw [h4] at h3
        have h5 := h3.2 z ⟨((j + 1 : Nat) : Int), by omega, hz⟩
        exact congrArg some (by omega)
  have eN : N - N = 0 := by omega
  obtain ⟨due, h1, h2⟩ := main N (Nat.le_refl _)
  rw [eN] at h1 h2
  have e0 : shortAt rows most 0 = 0 := rfl
  rw [e0] at h1 h2
  have e1 : within (lens rows 0) most = tot rows 0 := within_tot w w.1 (by omega)
  rw [e1, h1] at h0
  have := Option.some.inj h0
  subst this
  refine ⟨h2, fun i => ?_⟩
  have h0 : within (lens rows 0) most = some due := e1.trans h1
  induction i with
  | zero => exact fun _ => rfl
  | succ i ih =>
    intro hi
    have ei := ih (by omega)
    obtain ⟨d1, a1, a2⟩ := main (N - i) (by omega)
    rw [show N - (N - i) = i by omega, show ((N - i : Nat) : Int) = (N : Int) - i by omega] at a2
    rw [show N - (N - i) = i by omega] at a1
    have hne : ∀ q, q ≤ i → shortAt rows most q + 1 ≠ rows.length := fun q hq => hS.2 q (by omega)
    obtain ⟨d2, row, y, b1, hs⟩ := short_next w h0 hne
    have hat := short_at w h0 i fun q hq => hne q (by omega)
    rw [short_tot w hat.1 (by omega), a1] at b1
    have := Option.some.inj b1
    subst this
    show nxt ((rows[exactAt rows (N : Int) i]?).getD []) (fun a => getD (lens rows a) ((N : Int) - i - 1)) ((getD (lens rows (exactAt rows (N : Int) i)) ((N : Int) - i)).getD 0) = _
    rw [ei, a2, hs.row_, Option.getD_some, Option.getD_some]
    obtain ⟨p, z, g1, g2, g3, g4, g5⟩ := firstP_some hs.lst
    have g6 : p.2 = shortAt rows most (i + 1) := g5.symm.trans hs.nx
    obtain ⟨d3, c1, c2⟩ := main (N - (i + 1)) (by omega)
    rw [show N - (N - (i + 1)) = i + 1 by omega, show ((N - (i + 1) : Nat) : Int) = (N : Int) - i - 1 by omega] at c2
    rw [show N - (N - (i + 1)) = i + 1 by omega] at c1
    have hpw := w.2 _ _ hs.row_ p g2
    have g7 : within (lens rows p.2) (most - i - 1) = some z := g3
    rw [within_tot w hpw.2.2 (by omega), g6, c1] at g7
    have ez := Option.some.inj g7
    subst ez
    have hsame := firstP_same (g := fun a => getD (lens rows a) ((N : Int) - i - 1)) g1 (by show Option.map (p.1 + ·) (getD (lens rows p.2) ((N : Int) - i - 1)) = _; rw [g6, c2]; exact congrArg some g4) (fun q hq hq2 => by
      obtain ⟨x, x1, x2⟩ := Option.map_eq_some_iff.mp hq2
      have hqw := w.2 _ _ hs.row_ q hq
      have x3 := within_lst (lens_nd w hqw.2.2).1 (most - i - 1)
      cases hz : within (lens rows q.2) (most - i - 1) with
      | none =>
        rw [hz] at x3
        exact (x3 x ⟨(N : Int) - i - 1, by omega, x1⟩).elim
      | some u =>
        rw [hz] at x3
        have x4 := x3.2 x ⟨(N : Int) - i - 1, by omega, x1⟩
        have x5 := hs.lst.2 (q.1 + u) ⟨q, hq, u, hz, rfl⟩
        have x2 : q.1 + x = d1 := x2
        show some (q.1 + u) = some d1
        exact congrArg some (by omega))
    unfold nxt
    rw [hsame]
    exact g6
end Tf
/-! comprehensions over a dict's keys, dict comprehensions, get with a default, min -/
namespace Tf
open PySem PySem.Spec PyProof.Rows L2
section
variable {K : PySem.W.Frag} {σ : L2.St} {H F : Hp} {m : Mem} {g : TG} {tt : TT} {te tk tv td tl ty : TE} {vs : List Nat} {v : V} {α β : Type} {R : Rp α} {S : Rp β} {xs : List α} {Q : VK} {d : List (Int × Int)}
/-! ### a lock about an expression -/
def DLE (a : Addr) (u : HO) (od : Obj) (Q : VK) : VK := fun v H' => H' a = some (.frz od u) ∧ Q v (upd H' a u)
theorem x_lockE {a : Addr} {kvs : List (Key × V)} (O : Own H F m) (h : F a = some (.dK kvs))
    (k : ∀ od H1 F1, Own H1 F1 m → Le F F1 → F1 a = some (.frz od (.dK kvs)) → (∀ F', Same F1 F' → Same F (upd F' a (.dK kvs))) → te σ H1 (DLE a (.dK kvs) od Q)) : tLockE te σ H Q :=
  ⟨a, .dK kvs, O.frz h, True.intro, fun od => k od _ _ (O.relay h) (le_lock h) upd_same fun _ s => unlock_same h s⟩
theorem x_unlockE {F0 F1 F' : Hp} {a : Addr} {kvs : List (Key × V)} {od : Obj} (O : Own H F' m) (h1 : F1 a = some (.frz od (.dK kvs))) (hs : ∀ F', Same F1 F' → Same F0 (upd F' a (.dK kvs))) (s : Same F1 F')
    (k : ∀ H2 F2, Same F0 F2 → Le F' F2 → Own H2 F2 m → Q v H2) : DLE a (.dK kvs) od Q v H := by
  have h : F' a = some (.frz od (.dK kvs)) := s _ _ h1
  exact ⟨O.frz h, k _ _ (hs _ s) (le_unlock h) (O.relay h)⟩
/-! ### over a dict's keys -/
def CK (g : TG) (tt : TT) (te : TE) (vs : List Nat) (σ : L2.St) (Q : VK) : VK := fun x H1 => ∃ d o, x = .ref d ∧ ((∃ kvs, H1 d = some (.frz o (.dK kvs)) ∧ LcW (Itk d o kvs) g tt te vs σ Q H1) ∨ ∃ kvs, H1 d = some (.frz o (.dT kvs)) ∧ LcW (Itkt d o kvs) g tt te vs σ Q H1)
theorem x_lcK (k : tl σ H (CK g tt te vs σ Q)) : tLc (iKeys tl) g tt te vs σ H Q := k
theorem x_docK [MonoS S] {a : Addr} {kvs : List (Key × V)} {ob : Obj} (O : Own H F m) (h : F a = some (.frz ob (.dK kvs))) (hk : kvR rInt F d kvs) (P : Nat → Hp → Mem → List β → Prop) (h0 : P 0 F m [])
    (hs : ∀ D acc i p H' F' m' ys, d[i]? = some p → rDict rInt F' d (.ref a) → Same F F' → Own H' F' ((D, .lst acc) :: m') → All2 (S F') ys acc → ys.length ≤ i → P i F' m' ys →
      g (.int p.1) (wipe σ vs) H' fun σ2 H2 => wipe σ2 vs = wipe σ vs ∧ tt σ2 H2 fun b H3 => if b = true then te σ2 H3 fun y H4 => ∃ acc, H4 D = some (.lst acc) ∧ acc.length < sizeLine ∧ LcP S P F D (i + 1) (upd H4 D (.lst (acc ++ [y]))) else LcP S P F D (i + 1) H3)
    (hd : ∀ v' H' F' m' ys, Same F F' → Own H' F' m' → rList S F' ys v' → P d.length F' m' ys → Q v' H') (hP : ∀ F1 F2 m1 ys i, Same F1 F2 → P i F1 m1 ys → P i F2 m1 ys := by exact fun _ _ _ _ _ _ h => h) : CK g tt te vs σ Q (.ref a) H := by
  refine ⟨a, ob, rfl, .inl ⟨kvs, O.frz h, fun D hD => ?_⟩⟩
  refine lc_it walk_keys (LcP S P F D) ⟨F, m, [], [], Same.refl F, O.own hD, .nil, Nat.zero_le _, h0⟩ (fun i H' _ ⟨F', m', _, _, s, O', _⟩ => O'.frz (s _ _ h)) (fun i x H' H2 hi ⟨F', m', acc, ys, s, O', hy, hl, p⟩ y => ?_) fun H' ⟨F', m', acc, ys, s, O', hy, hl, p⟩ => ?_
  · obtain ⟨rfl, k, w, e, rfl⟩ := y
    obtain ⟨q, hq, e1, _⟩ := All2.get' hk e
    have e1 : k = Sum.inl q.1 := e1
    subst e1
    exact hs D acc i q H2 F' m' ys hq ⟨a, kvs, rfl, .inr ⟨ob, s _ _ h⟩, hk.mono fun _ _ h => h⟩ s O' hy hl p
  · have s2 := O'.freeze_same
    exact hd (.ref D) H' (upd F' D (.lst acc)) m' ys (s.trans s2) O'.freeze ⟨D, acc, rfl, upd_same, all2_up s2 hy⟩ (hP _ _ _ _ _ s2 (by rw [← hk.len]; exact p))
/-! ### dict comprehensions over a list -/
def DcP (S : Rp β) (P : Nat → Hp → Mem → List (Int × β) → Prop) (F : Hp) (D : Addr) (i : Nat) (H : Hp) : Prop :=
  ∃ F' m' kvs ys, Same F F' ∧ Own H F' ((D, .dK kvs) :: m') ∧ kvR S F' ys kvs ∧ ys.length ≤ i ∧ P i F' m' ys
def DcW (J : It) (g : TG) (tt : TT) (tk tv : TE) (vs : List Nat) (σ : L2.St) (Q : VK) (H1 : Hp) : Prop := ∀ D, H1 D = none → ∃ W : Nat → Nat → Hp → Prop, (∃ m, W 0 m (upd H1 D (.dK []))) ∧ ∀ i m H, W i m H →
  (J.stop i H ∧ Q (.ref D) H) ∨ (J.go i H ∧ ∃ Nx : Hp → Prop, (∀ H', Nx H' → ∃ m', m' < m ∧ W (i + 1) m' H') ∧ ∀ x H', J.yld i H x H' → g x (wipe σ vs) H' fun σ2 H2 => wipe σ2 vs = wipe σ vs ∧ tt σ2 H2 fun b H3 =>
    if b = true then tk σ2 H3 fun y H4 => tv σ2 H4 fun z H5 => ∃ kvs k, y = kV k ∧ H5 D = some (.dK kvs) ∧ kvs.length < sizeLine ∧ Nx (upd H5 D (.dK (putK kvs k z))) else Nx H3)
def DCL (K : PySem.W.Frag) (g : TG) (tt : TT) (tk tv : TE) (vs : List Nat) (σ : L2.St) (Q : VK) : VK := fun v H1 => ∃ a, v = .ref a ∧ (∃ xs, SqL K H1 a xs) ∧ DcW (Itl K a) g tt tk tv vs σ Q H1
theorem x_dcL (k : tl σ H (DCL K g tt tk tv vs σ Q)) : tDc (iList K tl) g tt tk tv vs σ H Q := k
theorem x_putC {P : Nat → Hp → Mem → List (Int × β) → Prop} {F0 F4 H4 : Hp} {D : Addr} {kvs : List (Key × V)} {m4 : Mem} {ys : List (Int × β)} {x : Int} {z : β} {y : V} {i : Nat} (O : Own H4 F4 ((D, .dK kvs) :: m4)) (s : Same F0 F4) (hz : S F4 z y) (hk : kvR S F4 ys kvs) (hl : ys.length ≤ i) (hi : i < 16777216)
    (p : P (i + 1) F4 m4 (putD ys x z)) : ∃ kvs k, V.int x = kV k ∧ H4 D = some (.dK kvs) ∧ kvs.length < sizeLine ∧ DcP S P F0 D (i + 1) (upd H4 D (.dK (putK kvs k y))) :=
  ⟨kvs, Sum.inl x, rfl, O.at0, by rw [hk.len, sizeLine_eq]; omega, F4, m4, _, putD ys x z, s, O.set _, hk.put x hz, by have := putD_len (d := ys) (k := x) (x := z); omega, p⟩
theorem x_dodL [MonoS R] [MonoS S] (O : Own H F m) (h : rList R F xs v) (P : Nat → Hp → Mem → List (Int × β) → Prop) (h0 : P 0 F m [])
    (hs : ∀ D kvs i x w H' F' m' ys, xs[i]? = some x → R F' x w → Same F F' → Own H' F' ((D, .dK kvs) :: m') → kvR S F' ys kvs → ys.length ≤ i → P i F' m' ys →
      g w (wipe σ vs) H' fun σ2 H2 => wipe σ2 vs = wipe σ vs ∧ tt σ2 H2 fun b H3 => if b = true then tk σ2 H3 fun y H4 => tv σ2 H4 fun z H5 => ∃ kvs k, y = kV k ∧ H5 D = some (.dK kvs) ∧ kvs.length < sizeLine ∧ DcP S P F D (i + 1) (upd H5 D (.dK (putK kvs k z))) else DcP S P F D (i + 1) H3)
    (hd : ∀ v' H' F' m' ys, Same F F' → Own H' F' m' → rDictX S F' ys v' → P xs.length F' m' ys → Q v' H') (hP : ∀ F1 F2 m1 ys i, Same F1 F2 → P i F1 m1 ys → P i F2 m1 ys := by exact fun _ _ _ _ _ _ h => h) : DCL K g tt tk tv vs σ Q v H := by
  obtain ⟨a, us, rfl, ha, r⟩ := h
  refine ⟨a, rfl, ⟨us, .inl (.inl (O.frz ha))⟩, fun D hD => ?_⟩
  refine ⟨fun i n H' => n = us.length - i ∧ i ≤ us.length ∧ DcP S P F D i H', ⟨us.length, by simp, Nat.zero_le _, F, m, [], [], Same.refl F, O.own hD, .nil, Nat.zero_le _, h0⟩, ?_⟩
  rintro i n H' ⟨rfl, hi, hp⟩
  obtain ⟨F', m', kvs, ys, s, O', hk, hl, p⟩ := id hp
  have hsq : SqL K H' a us := .inl (.inl (O'.frz (s _ _ ha)))
  by_cases hlt : i < us.length
  · refine .inr ⟨⟨us, us[i], hsq, by simp [hlt]⟩, DcP S P F D (i + 1), fun H2 p2 => ⟨us.length - (i + 1), by omega, rfl, hlt, p2⟩, fun x H2 y => ?_⟩
    obtain ⟨e, y⟩ := y
    subst e
    obtain ⟨z, hz, hr⟩ := r.get' (y us hsq)
    exact hs D kvs i z x _ F' m' ys hz (up s hr) s O' hk hl p
  · have e : i = us.length := by omega
    subst e
    obtain ⟨O2, s2, h2⟩ := freezeD O' hk
    exact .inl ⟨⟨us, hsq, Nat.le_refl _⟩, hd (.ref D) H' _ m' ys (s.trans s2) O2 h2 (hP _ _ _ _ _ s2 (by rw [r.length]; exact p))⟩
/-! ### get with a default, min -/
theorem rOpt_V {F : Hp} {o : Option Int} : rOpt rInt F o (optV o) := by
  cases o <;> exact rfl
theorem optV_of {F : Hp} {o : Option Int} {v : V} (h : rOpt rInt F o v) : v = optV o := by
  cases o <;> exact h
theorem x_dget2 (k : td σ H fun x H1 => ∃ a, x = .ref a ∧ IsD H1 a ∧ ty σ H1 fun y H2 => te σ H2 fun z H3 => ∃ o, DGet H3 a y o ∧ Q (o.getD z) H3) : tDGet2 td ty te σ H Q := k
theorem isD_of {α : Type} {R : Rp α} {d : List (Int × α)} {a : Addr} (O : Own H F m) (h : rDict R F d (.ref a)) : IsD H a := by
  obtain ⟨b, kvs, e, hb, _⟩ := h
  cases e
  exact .inl ⟨kvs, rd_own O hb⟩
theorem x_getN {d : List (Int × Int)} {a : Addr} {z : Int} (O : Own H F m) (h : rDict rInt F d (.ref a)) (k : Q (optV (getD d z)) H) : ∃ o, DGet H a (.int z) o ∧ Q (o.getD .non) H := by
  obtain ⟨b, kvs, e, hb, hk⟩ := h
  cases e
  refine ⟨_, .inl ⟨kvs, .inl z, rd_own O hb, rfl, rfl⟩, ?_⟩
  rcases hk.get z with ⟨e1, e2⟩ | ⟨y, w, e1, e2, hr⟩
  · rw [e2]
    rw [e1] at k
    exact k
  · have hr : w = .int y := hr
    rw [e2, hr]
    rw [e1] at k
    exact k
theorem x_minDI {ns : List Int} (O : Own H F m) (h : rList rInt F ns v) (k : Q (optV (minI ns)) H) : rMinDI K [v] [.non] H Q := by
  obtain ⟨a, us, rfl, ha, r⟩ := h
  have e := ints_of r
  subst e
  exact ⟨a, ns, rfl, rfl, .inl (.inl (O.frz ha)), k⟩
theorem x_minL {ns : List Int} {x : Int} (O : Own H F m) (h : rList rInt F ns v) (e : minI ns = some x) (k : Q (.int x) H) : rMin K [v] H Q := by
  obtain ⟨a, us, rfl, ha, r⟩ := h
  have e1 := ints_of r
  subst e1
  have hl := lst_minI ns
  rw [e] at hl
  refine ⟨a, ns, rfl, .inl (.inl (O.frz ha)), List.length_pos_iff.mpr fun q => ?_, fun y h1 h2 => ?_⟩
  · rw [q] at e
    cases e
  · have := hl.2 y h1
    have := h2 x hl.1
    have : y = x := by omega
    exact this ▸ k
theorem x_maxL {ns : List Int} (O : Own H F m) (h : rList rInt F ns v) (hn : ns ≠ []) (k : ∀ x, x ∈ ns → (∀ y ∈ ns, y ≤ x) → Q (.int x) H) : rMax K [v] H Q := by
  obtain ⟨a, us, rfl, ha, r⟩ := h
  have e1 := ints_of r
  subst e1
  exact ⟨a, ns, rfl, .inl (.inl (O.frz ha)), List.length_pos_iff.mpr hn, k⟩
/-- a triple of ints -/
abbrev rT3 : Rp (Int × Int × Int) := rTri rInt rInt rInt
theorem all2_T3 {H F : Hp} (O : Own H F m) : ∀ {ts : List (Int × Int × Int)} {us : List V}, All2 (rT3 F) ts us → All2 (fun t x => TpI K H x (itT t)) ts us
  | _, _, .nil => .nil
  | _, _, .cons ⟨b, u1, u2, u3, e, hb, h1, h2, h3⟩ r => .cons ⟨b, e, by
      cases h1
      cases h2
      cases h3
      exact .inl (.inl (O.frz hb))⟩ (all2_T3 O r)
theorem x_minT3 {ts : List (Int × Int × Int)} {a : Addr} {us : List V} (O : Own H F ((a, .lst us) :: m)) (h : All2 (rT3 F) ts us) (hn : ts ≠ []) (k : ∀ t w, t ∈ ts → (∀ u ∈ ts, leT t u) → rT3 F t w → Q w H) : rMinT K [.ref a] H Q :=
  ⟨a, us, ts, rfl, .inl (.inl O.at0), all2_T3 O h, hn, fun i x t hx ht hl => by
    obtain ⟨w, hw, hr⟩ := h.get ht
    rw [hx] at hw
    cases hw
    exact k t x (List.mem_of_getElem? ht) hl hr⟩
end
section
variable {X : Cx}
theorem pe_fldK {K : PySem.W.Frag} {e : Expr} {f : Str} {q : Pos} {ta : TE} (he : PE X e ta) (hb : attributeBase e f X.env (eval e X.env) = eval e X.env) (hK : X.K = K) : PE X (.Attribute e f q) (tFld K ta f) := hK ▸ pe_fld he hb
/-- a name of its own takes a dict comprehension -/
theorem swD {kx vx : Expr} {cs : List Comprehension} {sp : Scope} {q p : Pos} {z : Str} {n : Nat} {ev : Env} (h1 : ev.scope.kind = .function) (h2 : ev.scope.names.lookup z = some .local) (h3 : (p.line == q.line) = true) (h4 : (sp.names.any fun (n, k) => n == z && (k == .local || k == .cell)) = false) :
    swapsWith (.DictComp kx vx cs sp q) (some (.Name z p)) n ev = pure true := by
  have k1 : ev.kindOf z = some .local := h2
  have k2 : ev.blockKind = .function := by
    unfold Env.blockKind
    rw [h1]
    rfl
  unfold swapsWith
  simp only [k2, k1, h4, Expr.pos, h3] <;> rfl
theorem ps_setDc {i : Nat} {z : Str} {p q r : Pos} {kx vx tg ix : Expr} {fs : List Expr} {sp : Scope} {own : List (Str × Nat)} {wi : TI} {g : TG} {tt : TT} {tk tv : TE} (hc : X.calm = true) (hN : X.N.Nodup) (hz : X.N[i]? = some z) (hl : X.env.scope.names.lookup z = some .local) (hsw : swapsWith (.DictComp kx vx [⟨tg, ix, fs, 0⟩] sp q) (some (.Name z p)) r.line X.env = pure true) (hi : PI X tg ix wi) (ok : BlkOk X.N X.env.scope sp own) (hg : ∀ (s : Shared) (H : Hp) (C : Addr) (cl : List (Str × Addr)) (fp : List Addr), PG (X.blk s H sp (compEnvC sp cl C X.env) fp) tg g) (ht : ∀ (s : Shared) (H : Hp) (C : Addr) (cl : List (Str × Addr)) (fp : List Addr), PTs (X.blk s H sp (compEnvC sp cl C X.env) fp) fs tt) (hk : ∀ (s : Shared) (H : Hp) (C : Addr) (cl : List (Str × Addr)) (fp : List Addr), PE (X.blk s H sp (compEnvC sp cl C X.env) fp) kx tk) (he : ∀ (s : Shared) (H : Hp) (C : Addr) (cl : List (Str × Addr)) (fp : List Addr), PE (X.blk s H sp (compEnvC sp cl C X.env) fp) vx tv) (hs : ∀ x, foldedSetIterable ix X.env x = pure x := by intro _; rfl) : PS X (.Assign [.Name z p] (.DictComp kx vx [⟨tg, ix, fs, 0⟩] sp q) r) (tAsg (tDc wi g tt tk tv (own.map (·.2))) (gName i)) := by
  refine ⟨fun pins s σ H D I h => ?_⟩
  rw [exec_Assign_Name_used _ _ _ _ hsw]
  refine wpAny_bind (wpAny_standAt (wpAny_bind ?_))
  show wpAny _ X.A (do let _ ← comprehension (.DictComp kx vx [⟨tg, ix, fs, 0⟩] sp q) sp X.env (firstIterPos [⟨tg, ix, fs, 0⟩] q) newDict false (eval ix X.env) (some (assign (.Name z p) X.env))) _ _ s
  have h : tDc wi g tt tk tv (own.map (·.2)) σ H (fun y H1 => gName i y σ H1 D.nx) := h
  refine wpAny_bind (thn (dc_core (Qf := fun _ s2 => SP X pins D .next s2) hc hN I hi ok hg ht hk he hs h fun L C s2 m H2 I2 qq hn f => ?_) fun _ s2 hq => wpAny_pure (wpAny_pure hq))
  show wpAny _ _ (assign (.Name z p) X.env (.ref L)) _ _ _
  refine wpAny_assign_Name (store_ok2 (v := V.ref L) I2 hN hz (.inl hl) rfl (fun s3 I3 ⟨a, sb, ha⟩ => ?_) (.inr hl))
  obtain ⟨g0, g1, g2, g3, g4, g5⟩ := f
  have hCa : C ≠ a := by
    rcases ha with e | e
    · rw [e]
      exact g1
    · exact fun e2 => g4 z a e e2.symm
  refine ⟨m, hn.sameBut sb hCa, fun h3 sb3 => ?_⟩
  exact ⟨_, H2, I3.turned (t' := s3.toks) (fun b o hb e => (sb3.2 b hb).trans e) g0 g1 g3 g4 g5, qq⟩
end
end Tf
/-! spectrum papers and the verdict on them: plain Lean -/
namespace Tf
abbrev Pap := List (Int × List (Int × Int))
def pairsOk : Int → List (Int × Int) → Bool
  | _, [] => true
  | last, p :: ps => decide (last < p.1) && decide (0 ≤ p.2) && pairsOk p.1 ps
def statesOk (n : Nat) : Int → Pap → Bool
  | _, [] => true
  | last, r :: rs => decide (last < r.1) && decide (r.1 < (n : Int)) && statesOk n r.1 rs
def look (paper : Pap) (a : Nat) : List (Int × Int) := (getD paper (a : Int)).getD []
def dictEqB (d e : List (Int × Int)) : Bool := decide (d.length = e.length) && d.all fun p => decide (getD e p.1 = some p.2)
def rowAt (rows : List Row) (k : Int) : Row := (rows[k.toNat]?).getD []
def dueOf (rows : List Row) (paper : Pap) (k : Int) : List (Int × Int) := if k + 1 = (rows.length : Int) then [(0, 0)] else leastOf (rowAt rows k) (look paper)
def stepsIn (rows : List Row) (paper : Pap) (k : Int) : Bool := (rowAt rows k).all fun p => (getD paper (p.2 : Int)).isSome
def holdsB (rows : List Row) (paper : Pap) (r : Int × List (Int × Int)) : Bool := stepsIn rows paper r.1 && dictEqB r.2 (dueOf rows paper r.1)
def verdict (rows : List Row) (paper : Pap) : Bool := statesOk rows.length (-1) paper && paper.all (fun r => pairsOk (-1) r.2) && (getD paper 0).isSome && paper.all (holdsB rows paper)
/-! dicts that tell the same -/
def SameD (d e : List (Int × Int)) : Prop := ∀ j, getD d j = getD e j
theorem nd_sub : ∀ (l l' : List Int), l.Nodup → (∀ x ∈ l, x ∈ l') → l.length ≤ l'.length
  | [], _, _, _ => Nat.zero_le _
  | x :: l, l', hn, h => by
    obtain ⟨h1, h2⟩ := List.nodup_cons.mp hn
    have hx := h x List.mem_cons_self
    have := nd_sub l (l'.erase x) h2 fun y hy => by
      have : y ≠ x := fun e => h1 (e ▸ hy)
      exact (List.mem_erase_of_ne this).mpr (h y (List.mem_cons_of_mem _ hy))
    rw [List.length_erase_of_mem hx] at this
    have := List.length_pos_of_mem hx
    rw [List.length_cons]
    omega
theorem SameD.keys {d e : List (Int × Int)} (h : SameD d e) (x : Int) : x ∈ d.map (·.1) ↔ x ∈ e.map (·.1) := by
  have h1 := getD_none (d := d) (k := x)
  have h2 := getD_none (d := e) (k := x)
  rw [h x] at h1
  exact Decidable.not_iff_not.mp (h1.symm.trans h2)
theorem dictEq_same {d e : List (Int × Int)} (hd : (d.map (·.1)).Nodup) (he : (e.map (·.1)).Nodup) : dictEqB d e = true ↔ SameD d e := by
  unfold dictEqB
  rw [Bool.and_eq_true, decide_eq_true_eq, List.all_eq_true]
  refine ⟨fun ⟨hl, ha⟩ j => ?_, fun h => ⟨?_, fun p hp => ?_⟩⟩
  · cases hg : getD d j with
    | some x =>
      have := of_decide_eq_true (ha _ (getD_mem hg))
      exact this.symm
    | none =>
      refine (getD_none.mpr fun hj => ?_).symm
      have hsub := nd_sub (j :: d.map (·.1)) (e.map (·.1)) (List.nodup_cons.mpr ⟨getD_none.mp hg, hd⟩) fun x hx => by
        rcases List.mem_cons.mp hx with rfl | hx
        · exact hj
        · obtain ⟨p, hp, rfl⟩ := List.mem_map.mp hx
          exact List.mem_map.mpr ⟨_, getD_mem (of_decide_eq_true (ha p hp)), rfl⟩
      rw [List.length_cons, List.length_map, List.length_map] at hsub
      omega
  · have h1 := nd_sub _ _ hd fun x hx => (h.keys x).mp hx
    have h2 := nd_sub _ _ he fun x hx => (h.keys x).mpr hx
    rw [List.length_map, List.length_map] at h1 h2
    omega
  · rw [← h p.1]
    exact decide_eq_true (getD_of hd hp)
/-- what the law asks -/
theorem law_same {d e : List (Int × Int)} (hd : (d.map (·.1)).Nodup) (he : (e.map (·.1)).Nodup) : (sortI (e.map (·.1)) = sortI (d.map (·.1)) ∧ ∀ p ∈ e, getD d p.1 = some p.2) ↔ SameD d e := by
  refine ⟨fun ⟨hs, ha⟩ j => ?_, fun h => ⟨?_, fun p hp => ?_⟩⟩
  · have hp : (e.map (·.1)).Perm (d.map (·.1)) := (sortI_perm _).symm.trans ((hs ▸ List.Perm.refl _ : (sortI (e.map (·.1))).Perm (sortI (d.map (·.1)))).trans (sortI_perm _))
    cases hg : getD e j with
    | some x => exact ha _ (getD_mem hg)
    | none => exact getD_none.mpr fun hj => getD_none.mp hg (hp.mem_iff.mpr hj)
  · exact sorted_one ((sortI_perm _).trans ((perm_of he hd fun x => (h.keys x).symm).trans (sortI_perm _).symm)) (sortI_sorted _) (sortI_sorted _)
  · rw [h p.1]
    exact getD_of he hp
theorem leastStep_nd {c : Int} {ls acc : List (Int × Int)} {k : Int} (h : (acc.map (·.1)).Nodup) : ((leastStep c ls acc k).map (·.1)).Nodup := by
  unfold leastStep
  dsimp only
  split
  · exact putD_nodup h
  · split
    · exact putD_nodup h
    · exact h
theorem leastAll_nd {c : Int} {ls : List (Int × Int)} : ∀ (ks : List Int) {acc : List (Int × Int)}, (acc.map (·.1)).Nodup → ((ks.foldl (leastStep c ls) acc).map (·.1)).Nodup
  | [], _, h => h
  | k :: ks, _, h => leastAll_nd ks (leastStep_nd h)
theorem leastOf_nd {look : Nat → List (Int × Int)} (row : Row) : ((leastOf row look).map (·.1)).Nodup := by
  unfold leastOf
  have : ∀ (row : Row) (acc : List (Int × Int)), (acc.map (·.1)).Nodup → ((row.foldl (fun acc p => leastAll p.1 (look p.2) acc) acc).map (·.1)).Nodup := by
    intro row
    induction row with
    | nil => exact fun _ h => h
    | cons p row ih => exact fun acc h => ih _ (leastAll_nd _ h)
  exact this row [] List.nodup_nil
theorem leastOf_lst {look : Nat → List (Int × Int)} (row : Row) (j : Int) : Lst (stepS row fun a => getD (look a) (j - 1)) (getD (leastOf row look) j) := by
  refine (of_lst row (acc := []) (S := fun _ => False) (look := look) (j := j) ?_).congr fun x => ⟨fun h => h.elim (fun h => h.elim) id, .inr⟩
  rw [getD_nil]
  exact fun x h => h
theorem dueOf_nd {rows : List Row} {paper : Pap} {k : Int} : ((dueOf rows paper k).map (·.1)).Nodup := by
  unfold dueOf
  split
  · simp
  · exact leastOf_nd _
/-! ascending pairs, ascending states -/
theorem pairsOk_lt : ∀ {ps : List (Int × Int)} {last : Int}, pairsOk last ps = true → (∀ p ∈ ps, last < p.1) ∧ (ps.map (·.1)).Nodup
  | [], _, _ => ⟨fun _ h => (nomatch h), List.nodup_nil⟩
  | p :: ps, last, h => by
    unfold pairsOk at h
    rw [Bool.and_eq_true, Bool.and_eq_true, decide_eq_true_eq, decide_eq_true_eq] at h
    obtain ⟨⟨h1, h2⟩, h3⟩ := h
    obtain ⟨i1, i2⟩ := pairsOk_lt h3
    refine ⟨fun q hq => ?_, List.nodup_cons.mpr ⟨fun hm => ?_, i2⟩⟩
    · rcases List.mem_cons.mp hq with rfl | hq
      · exact h1
      · have := i1 q hq
        omega
    · obtain ⟨q, hq, e⟩ := List.mem_map.mp hm
      have e : q.1 = p.1 := e
      have := i1 q hq
      omega
theorem statesOk_lt {n : Nat} : ∀ {ps : Pap} {last : Int}, statesOk n last ps = true → (∀ p ∈ ps, last < p.1 ∧ p.1 < (n : Int)) ∧ (ps.map (·.1)).Nodup
  | [], _, _ => ⟨fun _ h => (nomatch h), List.nodup_nil⟩
  | p :: ps, last, h => by
    unfold statesOk at h
    rw [Bool.and_eq_true, Bool.and_eq_true, decide_eq_true_eq, decide_eq_true_eq] at h
    obtain ⟨⟨h1, h2⟩, h3⟩ := h
    obtain ⟨i1, i2⟩ := statesOk_lt h3
    refine ⟨fun q hq => ?_, List.nodup_cons.mpr ⟨fun hm => ?_, i2⟩⟩
    · rcases List.mem_cons.mp hq with rfl | hq
      · exact ⟨h1, h2⟩
      · have := i1 q hq
        omega
    · obtain ⟨q, hq, e⟩ := List.mem_map.mp hm
      have e : q.1 = p.1 := e
      have := i1 q hq
      omega
theorem pairsOk_of : ∀ (ps : List (Int × Int)) (last : Int), (ps.map (·.1)).Pairwise (· < ·) → (∀ p ∈ ps, last < p.1 ∧ 0 ≤ p.2) → pairsOk last ps = true
  | [], _, _, _ => rfl
  | p :: ps, last, h, hb => by
    unfold pairsOk
    rw [List.map_cons, List.pairwise_cons] at h
    have h1 := hb p List.mem_cons_self
    rw [Bool.and_eq_true, Bool.and_eq_true, decide_eq_true_eq, decide_eq_true_eq]
    exact ⟨h1, pairsOk_of ps p.1 h.2 fun q hq => ⟨h.1 _ (List.mem_map_of_mem hq), (hb q (List.mem_cons_of_mem _ hq)).2⟩⟩
theorem statesOk_of {n : Nat} : ∀ (ps : Pap) (last : Int), (ps.map (·.1)).Pairwise (· < ·) → (∀ p ∈ ps, last < p.1 ∧ p.1 < (n : Int)) → statesOk n last ps = true
  | [], _, _, _ => rfl
  | p :: ps, last, h, hb => by
    unfold statesOk
    rw [List.map_cons, List.pairwise_cons] at h
    have h1 := hb p List.mem_cons_self
    rw [Bool.and_eq_true, Bool.and_eq_true, decide_eq_true_eq, decide_eq_true_eq]
    exact ⟨h1, statesOk_of ps p.1 h.2 fun q hq => ⟨h.1 _ (List.mem_map_of_mem hq), (hb q (List.mem_cons_of_mem _ hq)).2⟩⟩
/-! told -/
theorem strict_of {l : List Int} (h1 : l.Pairwise (· ≤ ·)) (h2 : l.Nodup) : l.Pairwise (· < ·) :=
  (List.pairwise_and_iff.mpr ⟨h1, h2⟩).imp fun ⟨h, e⟩ => by
    have e : _ ≠ _ := e
    omega
theorem told_keys {d : List (Int × Int)} : (told d).map (·.1) = sortI (d.map (·.1)) := by
  unfold told
  rw [List.map_map]
  exact List.map_id _
theorem told_get {d : List (Int × Int)} (hd : (d.map (·.1)).Nodup) (j : Int) : getD (told d) j = getD d j := by
  have hk : (told d).map (·.1) = sortI (d.map (·.1)) := told_keys
  have hn : ((told d).map (·.1)).Nodup := by
    rw [hk]
    exact (sortI_perm _).nodup_iff.mpr hd
  cases hg : getD d j with
  | none => exact getD_none.mpr fun h => getD_none.mp hg ((sortI_perm _).mem_iff.mp (hk ▸ h))
  | some x =>
    refine getD_of hn ?_
    unfold told
    refine List.mem_map.mpr ⟨j, (sortI_perm _).mem_iff.mpr (List.mem_map.mpr ⟨_, getD_mem hg, rfl⟩), ?_⟩
    rw [hg]
    rfl
theorem lens_pos {rows : List Row} (w : WF rows) : ∀ (n k : Nat), k + n = rows.length → ∀ m x, getD (lens rows k) m = some x → 0 ≤ x := by
  intro n
  induction n using Nat.strongRecOn with
  | _ n ih =>
    intro k hk m x hx
    by_cases hlt : k < rows.length
    · by_cases e : k + 1 = rows.length
      · rw [(lens_end e hx).2]
        exact Int.le_refl _
      · obtain ⟨row, hr⟩ := w.row hlt
        have h1 := lens_lst w hr e m
        rw [hx] at h1
        obtain ⟨p, hp, y, h2, h3⟩ := h1.1
        have hw := w.2 k row hr p hp
        have := ih (rows.length - p.2) (by omega) p.2 (by omega) _ _ h2
        omega
    · have e : rows.length - k = 0 := by omega
      unfold lens at hx
      rw [e] at hx
      unfold lensF at hx
      cases hx
theorem told_ok {rows : List Row} (w : WF rows) {k : Nat} (hk : k < rows.length) : pairsOk (-1) (told (lens rows k)) = true := by
  have hK := lens_nd w hk
  refine pairsOk_of _ _ ?_ fun p hp => ?_
  · rw [told_keys]
    exact strict_of (sortI_sorted _) ((sortI_perm _).nodup_iff.mpr hK.1)
  · have hp1 : p.1 ∈ (lens rows k).map (·.1) := (sortI_perm _).mem_iff.mp (told_keys ▸ List.mem_map_of_mem hp)
    have hn : ((told (lens rows k)).map (·.1)).Nodup := by
      rw [told_keys]
      exact (sortI_perm _).nodup_iff.mpr hK.1
    have h2 := getD_of hn hp
    rw [told_get hK.1] at h2
    have := (hK.2 _ hp1).1
    have := lens_pos w (rows.length - k) k (by omega) _ _ h2
    omega
/-- a right paper: of a set of states that holds the first one and each next one -/
def RightP (rows : List Row) (p : Pap) : Prop := ∃ ks : List Int, ks.Pairwise (· < ·) ∧ (∀ x ∈ ks, 0 ≤ x ∧ x < (rows.length : Int)) ∧ (0 : Int) ∈ ks ∧ (∀ (k : Nat) (row : Row), (k : Int) ∈ ks → rows[k]? = some row → ∀ q ∈ row, (q.2 : Int) ∈ ks) ∧ p = ks.map fun k => (k, told (lens rows k.toNat))
theorem right_get {rows : List Row} {ks : List Int} (hn : ks.Nodup) {x : Int} (hx : x ∈ ks) : getD (ks.map fun k => (k, told (lens rows k.toNat))) x = some (told (lens rows x.toNat)) :=
  getD_of (by rw [List.map_map]; exact (List.map_id ks).symm ▸ hn) (List.mem_map.mpr ⟨x, hx, rfl⟩)
theorem verdict_right {rows : List Row} (w : WF rows) {p : Pap} (h : RightP rows p) : verdict rows p = true := by
  obtain ⟨ks, h1, h2, h3, h4, rfl⟩ := h
  have hn : ks.Nodup := h1.imp fun h e => by omega
  unfold verdict
  rw [Bool.and_eq_true, Bool.and_eq_true, Bool.and_eq_true]
  refine ⟨⟨⟨?_, ?_⟩, ?_⟩, ?_⟩
  · refine statesOk_of _ _ (by rw [List.map_map]; exact (List.map_id ks).symm ▸ h1) fun q hq => ?_
    obtain ⟨k, hk, rfl⟩ := List.mem_map.mp hq
    have := h2 k hk
    exact ⟨by show -1 < k; omega, this.2⟩
  · refine List.all_eq_true.mpr fun q hq => ?_
    obtain ⟨k, hk, rfl⟩ := List.mem_map.mp hq
    have := h2 k hk
    exact told_ok w (by omega)
  · rw [right_get hn h3]
    rfl
  · refine List.all_eq_true.mpr fun q hq => ?_
    obtain ⟨k, hk, rfl⟩ := List.mem_map.mp hq
    have hb := h2 k hk
    obtain ⟨j, rfl⟩ : ∃ j : Nat, k = (j : Int) := ⟨k.toNat, by omega⟩
    have hj : j < rows.length := by omega
    obtain ⟨row, hr⟩ := w.row hj
    have erow : rowAt rows (j : Int) = row := by
      unfold rowAt
      rw [Int.toNat_natCast, hr]
      rfl
    have hK := lens_nd w hj
    unfold holdsB
    rw [Bool.and_eq_true]
    refine ⟨?_, ?_⟩
    · unfold stepsIn
      rw [erow]
      refine List.all_eq_true.mpr fun q hq => ?_
      rw [right_get hn (h4 j row hk hr q hq)]
      rfl
    · have hn2 : ((told (lens rows j)).map (·.1)).Nodup := by
        rw [told_keys]
        exact (sortI_perm _).nodup_iff.mpr hK.1
      show dictEqB (told (lens rows (j : Int).toNat)) _ = true
      rw [Int.toNat_natCast]
      refine (dictEq_same hn2 dueOf_nd).mpr fun m => ?_
      rw [told_get hK.1]
      unfold dueOf
      by_cases e : j + 1 = rows.length
      · rw [if_pos (by omega), lens_last e]
      · rw [if_neg (by omega), erow]
        refine (lens_lst w hr e m).eq (leastOf_lst row m) (fun x hx => ⟨x, ?_, Int.le_refl _⟩) (fun x hx => ⟨x, ?_, Int.le_refl _⟩)
        · refine (stepS_congr (fun q hq => ?_) x).mp hx
          have hw := w.2 j row hr q hq
          unfold look
          rw [right_get hn (h4 j row hk hr q hq), Option.getD_some, Int.toNat_natCast, told_get (lens_nd w hw.2.2).1]
        · refine (stepS_congr (fun q hq => ?_) x).mpr hx
          have hw := w.2 j row hr q hq
          unfold look
          rw [right_get hn (h4 j row hk hr q hq), Option.getD_some, Int.toNat_natCast, told_get (lens_nd w hw.2.2).1]
theorem PaperOk.right {rows : List Row} (w : WF rows) {p : Pap} (h : PaperOk rows p) : RightP rows p := by
  obtain ⟨ks, a1, a2, a3, a4, rfl⟩ := h
  refine ⟨ks, strict_of a2 a1, fun x hx => ?_, (a4 0).mpr .first, fun k row hk hr q hq => (a4 _).mpr (.step ((a4 k).mp hk) hr hq), rfl⟩
  have h0 := a3 x hx
  obtain ⟨n, rfl⟩ : ∃ n : Nat, x = (n : Int) := ⟨x.toNat, by omega⟩
  have := ((a4 n).mp hx).lt w
  omega
end Tf
/-! == of two dicts of ints, != of two lists of ints -/
namespace Tf
open PySem PySem.Spec PyProof.Rows L2
abbrev kvI (p : Int × Int) : Key × V := (Sum.inl p.1, V.int p.2)
theorem kvI_of {F : Hp} : ∀ {d : List (Int × Int)} {ks : List (Key × V)}, kvR rInt F d ks → ks = d.map kvI
  | _, _, .nil => rfl
  | p :: d, q :: ks, .cons ⟨h1, h2⟩ r => by
    have h1 : q.1 = Sum.inl p.1 := h1
    have h2 : q.2 = V.int p.2 := h2
    rw [List.map_cons, ← kvI_of r]
    show q :: ks = (Sum.inl p.1, V.int p.2) :: ks
    rw [← h1, ← h2]
theorem kvI_val {F : Hp} : ∀ {d : List (Int × Int)}, kvR rInt F d (d.map kvI)
  | [] => .nil
  | _ :: _ => .cons ⟨rfl, rfl⟩ kvI_val
theorem valV_I (e : List (Int × Int)) (k : Int) : valV (e.map kvI) (Sum.inl k) = (getD e k).map V.int := by
  rcases (kvI_val (F := fun _ => none) (d := e)).get k with ⟨e1, e2⟩ | ⟨y, w, e1, e2, hr⟩
  · rw [e1, e2]
    rfl
  · have hr : w = .int y := hr
    rw [e1, e2, hr]
    rfl
theorem hits_I {A : Around} {s : Shared} {e : List (Int × Int)} {vb : List (Key × Value)} (rb : KV (e.map kvI) vb) : ∀ (d : List (Int × Int)) (va : List (Key × Value)), KV (d.map kvI) va → PySem.W.KeqHits A s vb va (d.all fun p => decide (getD e p.1 = some p.2)) := by
  intro d
  induction d with
  | nil =>
    intro va h
    cases h
    exact .nil
  | cons p d ih =>
    intro va h
    cases h with
    | @cons _ q _ qs h t =>
      obtain ⟨h1, h2⟩ := h
      obtain ⟨k, v⟩ := q
      have h1 : Sum.inl p.1 = k := h1
      subst h1
      obtain ⟨tk, rfl⟩ := (show ∃ t, v = Value.int p.2 t from h2)
      have rr := rb.val (Sum.inl p.1)
      rw [valV_I] at rr
      rw [List.all_cons]
      cases hg : getD e p.1 with
      | none =>
        rw [hg] at rr
        have hn : valueAt vb (Sum.inl p.1) = none := by
          cases hv : valueAt vb (Sum.inl p.1) with
          | none => rfl
          | some y =>
            rw [hv] at rr
            cases rr
        exact .miss hn
      | some y =>
        rw [hg] at rr
        obtain ⟨z, hz, rz⟩ := rr.some_of
        obtain ⟨t2, rfl⟩ := (show ∃ t, z = Value.int y t from rz)
        have e3 : decide (some y = some p.2) = (p.2 == y) := by
          by_cases h : p.2 = y
          · subst h
            simp
          · have : ¬ y = p.2 := fun q => h q.symm
            simp [h, this]
        rw [e3]
        exact .hit hz (SeqAt.EqAt.int_int _ _ _ _) (ih qs t)
def rEqDI : R2 := fun x y H Q => ∃ a b d e, x = .ref a ∧ y = .ref b ∧ H a = some (.dK (d.map kvI)) ∧ H b = some (.dK (e.map kvI)) ∧ Q (.bl (dictEqB d e)) H
theorem op_eqDI {X : Cx} (hu : X.A.units < cLine) : OpR X (compareOp .Eq) rEqDI := by
  intro pins s σ H x y v u Q I rx ry h
  obtain ⟨a, b, d, e, rfl, rfl, ea, eb, q⟩ := h
  obtain rfl : v = Value.ref a := rx
  obtain rfl : u = Value.ref b := ry
  obtain ⟨_, ya, va, ra, da⟩ := (show ObjOk X.prog X.w H s.heap a (.dK (d.map kvI)) from I.hok a _ ea)
  obtain ⟨_, yb, vb, rb, db⟩ := (show ObjOk X.prog X.w H s.heap b (.dK (e.map kvI)) from I.hok b _ eb)
  have la : va.length = d.length := by rw [← ra.length, List.length_map]
  have lb : vb.length = e.length := by rw [← rb.length, List.length_map]
  refine PySem.W.keq_eq (knd := mixKind X.prog X.w) ya yb da db hu (fun _ => hits_I rb d va ra) ⟨.bl _, H, I, ?_, q⟩
  show Value.bool _ = Value.bool _
  rw [la, lb]
  rfl
theorem x_eqDI {H F : Hp} {m : Mem} {Q : VK} {d e : List (Int × Int)} {v w : V} (O : Own H F m) (h : rDictX rInt F d v) (h2 : rDictX rInt F e w) (k : Q (.bl (dictEqB d e)) H) : rEqDI v w H Q := by
  obtain ⟨a, ks, rfl, ha, hk⟩ := h
  obtain ⟨b, ls, rfl, hb, hl⟩ := h2
  rw [kvI_of hk] at ha
  rw [kvI_of hl] at hb
  exact ⟨a, b, d, e, rfl, rfl, O.frz ha, O.frz hb, k⟩
end Tf
/-! lists of our own that are bent: insert, pop, store at a place -/
namespace Tf
open PySem PySem.Spec PyProof.Rows L2
def rInsert : V → List V → Hp → VK → Prop := fun x vs H Q => ∃ (l : Addr) (xs : List V) (i : Int) (y : V), x = .ref l ∧ vs = [.int i, y] ∧ H l = some (.lst xs) ∧ xs.length < sizeLine ∧ 0 ≤ i ∧ i < 2 ^ 63 ∧
    Q .non (upd H l (.lst (xs.take i.toNat ++ [y] ++ xs.drop i.toNat)))
theorem mt_ins {X : Cx} : MtR X "list.insert" rInsert := mt_insert
section
variable {K : PySem.W.Frag} {H F : Hp} {m : Mem} {a b p : Addr} {o : HO} {vs us : List V} {v w : V} {z : Int} {j : Nat} {Q : VK} {R : Hp → Prop}
theorem x_insert (O : Own H F ((a, .lst vs) :: m)) (hz : z = (j : Int)) (hj : j < 16777216) (hl : vs.length < 16777216) (k : ∀ H', Own H' F ((a, .lst (vs.take j ++ [v] ++ vs.drop j)) :: m) → Q .non H') : rInsert (.ref a) [.int z, v] H Q := by
  subst hz
  refine ⟨a, vs, j, v, rfl, rfl, O.at0, by rw [sizeLine_eq]; exact hl, by omega, by omega, ?_⟩
  rw [Int.toNat_natCast]
  exact k _ (O.set _)
theorem x_popAt (O : Own H F ((a, .lst vs) :: m)) (hz : z = (j : Int)) (hx : vs[j]? = some w) (hl : vs.length < 16777216) (k : ∀ H', Own H' F ((a, .lst (vs.eraseIdx j)) :: m) → Q w H') : rPopAt (.ref a) [.int z] H Q := by
  subst hz
  have hj := (List.getElem?_eq_some_iff.mp hx).1
  refine ⟨a, vs, j, j, w, rfl, rfl, O.at0, by omega, by omega, ?_, hx, k _ (O.set _)⟩
  unfold seqIndex?
  have h1 : ¬ (j : Int) < 0 := by omega
  simp [h1, hj]
theorem ixN_at (hz : z = (j : Int)) {n : Nat} (h : j < n) : ixN n z = some j := by
  subst hz
  unfold ixN
  rw [if_pos (by omega), if_pos (by omega)]
  simp
theorem ixN_end {n : Nat} (h : 0 < n) : ixN n (-1) = some (n - 1) := by
  unfold ixN
  rw [if_neg (by omega), if_pos (by omega)]
  congr 1
  omega
theorem x_setN (O : Own H F ((a, .lst vs) :: m)) (hj : ixN vs.length z = some j) (k : ∀ H', Own H' F ((a, .lst (vs.set j v)) :: m) → R H') : rSetL (.ref a) (.int z) v H R :=
  ⟨a, vs, z, j, rfl, rfl, O.at0, hj, k _ (O.set _)⟩
/-- a list that stands among our cells is read -/
theorem x_ixM (O : Own H F m) (h : (a, HO.lst vs) ∈ m) (e : z = (j : Int)) (hx : vs[j]? = some w) (k : Q w H) : rIxL K (.ref a) (.int z) H Q :=
  ⟨a, vs, z, w, rfl, rfl, .inl (.inl (O.get h)), atI_of e hx, k⟩
theorem atI_end {us : List V} {w : V} (h : us[us.length - 1]? = some w) : atI us (-1) = some w := by
  have hl := (List.getElem?_eq_some_iff.mp h).1
  unfold atI
  rw [ixN_end (by omega)]
  exact h
theorem x_endM (O : Own H F m) (h : (a, HO.lst vs) ∈ m) (hx : vs[vs.length - 1]? = some w) (k : Q w H) : rIxL K (.ref a) (.int (-1)) H Q :=
  ⟨a, vs, -1, w, rfl, rfl, .inl (.inl (O.get h)), atI_end hx, k⟩
theorem x_ixF (O : Own H F m) (h : F a = some (.lst vs)) (e : z = (j : Int)) (hx : vs[j]? = some w) (k : Q w H) : rIxL K (.ref a) (.int z) H Q :=
  ⟨a, vs, z, w, rfl, rfl, .inl (.inl (O.frz h)), atI_of e hx, k⟩
theorem x_rawL (O : Own H F m) (hl : vs.length ≤ 16777216) (k : ∀ p H' F', Same F F' → F' p = some (.lst vs) → Own H' F' m → Q (.ref p) H') : NewL vs Q H :=
  ⟨by rw [sizeLine_eq]; exact hl, fun p hp => k p _ _ (same_new (O.fresh hp)) upd_same (O.new hp)⟩
theorem x_listM (O : Own H F m) (h : (a, HO.lst vs) ∈ m) (k : ∀ l H', H l = none → Own H' F ((l, .lst vs) :: m) → Q (.ref l) H') : rListOf K [.ref a] H Q :=
  ⟨a, vs, rfl, .inl (.inl (.inl (O.get h))), fun l hl => k l _ hl (O.own hl)⟩
theorem x_listFO {α : Type} {R : Rp α} {xs : List α} [MonoS R] (O : Own H F m) (h : rList R F xs v) (k : ∀ l vs H', H l = none → Own H' F ((l, .lst vs) :: m) → All2 (R F) xs vs → Q (.ref l) H') : rListOf K [v] H Q := by
  obtain ⟨a, vs, rfl, ha, r⟩ := h
  exact ⟨a, vs, rfl, .inl (.inl (.inl (O.frz ha))), fun l hl => k l vs _ hl (O.own hl) r⟩
theorem x_lenM (O : Own H F m) (h : (a, HO.lst vs) ∈ m) (k : Q (.int vs.length) H) : rLen K [.ref a] H Q := ⟨a, vs, rfl, .inl (.inl (.inl (O.get h))), k⟩
theorem tq_listM {Q : Bool → Hp → Prop} (O : Own H F m) (h : (a, HO.lst vs) ∈ m) (k : Q (!vs.isEmpty) H) : TQ K Q (.ref a) H := tq_list (O.get h) k
end
theorem Own.less {H F : Hp} {m m' : Mem} (O : Own H F m) (h : m'.Sublist m) : Own H F m' := ⟨O.sub, fun x hx => O.mem x (h.mem hx), (h.map _).nodup O.nd⟩
theorem Own.bring {H F : Hp} {m : Mem} {c : Addr × HO} (O : Own H F m) (h : c ∈ m) : ∃ rest, Own H F (c :: rest) ∧ (c :: rest).Perm m := by
  obtain ⟨l1, l2, rfl⟩ := List.append_of_mem h
  exact ⟨l1 ++ l2, O.perm List.perm_middle, List.perm_middle.symm⟩
/-! a paper that is bent: its list, its pair lists are ours -/
abbrev BZ := V × (Addr × HO)
def RB (F : Hp) (r : Int × List (Int × Int)) (z : BZ) : Prop := ∃ a q ws, z = (.ref a, (q, .lst ws)) ∧ F a = some (.lst [.int r.1, .ref q]) ∧ All2 (rPair rInt rInt F) r.2 ws
theorem RB.up {F F' : Hp} (s : Same F F') {r z} (h : RB F r z) : RB F' r z := let ⟨a, q, ws, e, h1, h2⟩ := h; ⟨a, q, ws, e, s _ _ h1, all2_up s h2⟩
abbrev RBs (F : Hp) : Pap → List BZ → Prop := All2 (RB F)
theorem RBs.up {F F' : Hp} (s : Same F F') {p : Pap} {zs : List BZ} (h : RBs F p zs) : RBs F' p zs := h.mono fun _ _ => RB.up s
abbrev bentM (p : Addr) (o : HO) (b : Addr) (zs : List BZ) (m : Mem) : Mem := (p, o) :: (b, .lst (zs.map (·.1))) :: (zs.map (·.2) ++ m)
structure BSize (n : Nat) (pap : Pap) : Prop where
  len : pap.length ≤ n
  lens : ∀ r ∈ pap, r.2.length ≤ n
def spBend : Sp := fun vs H Q _ => ∃ (p : Addr) (o : HO) (b : Addr) (kind : Int) (at_ : Nat) (zs : List BZ) (pap : Pap) (n : Nat) (F : Hp) (m : Mem), vs = [.ref p, .ref b, .int kind, .int (at_ : Int)] ∧ Own H F (bentM p o b zs m) ∧ PoolOk F o ∧ RBs F pap zs ∧ BSize n pap ∧ 4 ≤ n ∧ n ≤ 4000 ∧ at_ < zs.length ∧
  ∀ H' F' o' zs' pap', Same F F' → Own H' F' (bentM p o' b zs' m) → PoolOk F' o' → RBs F' pap' zs' → BSize (n + 1) pap' → Q .non H'
/-- a pick out of a list that stands still or is ours -/
def spPickO : Sp := fun vs H Q _ => ∃ p o a us F m, vs = [.ref p, .ref a] ∧ Own H F ((p, o) :: m) ∧ PoolOk F o ∧ (F a = some (.lst us) ∨ (a, HO.lst us) ∈ m) ∧ us ≠ [] ∧ us.length < 1000000 ∧
  ∀ w H' o', w ∈ us → Own H' F ((p, o') :: m) → PoolOk F o' → Q w H'
namespace All2
variable {α β : Type} {R : α → β → Prop}
theorem take {n : Nat} : ∀ {xs : List α} {ys : List β}, All2 R xs ys → All2 R (xs.take n) (ys.take n) := by
  induction n with
  | zero => intro _ _ _; exact .nil
  | succ n ih =>
    intro xs ys h
    cases h with
    | nil => exact .nil
    | cons h t => exact .cons h (ih t)
theorem drop {n : Nat} : ∀ {xs : List α} {ys : List β}, All2 R xs ys → All2 R (xs.drop n) (ys.drop n) := by
  induction n with
  | zero => intro _ _ h; exact h
  | succ n ih =>
    intro xs ys h
    cases h with
    | nil => exact .nil
    | cons h t => exact ih t
theorem eraseIdx : ∀ {n : Nat} {xs : List α} {ys : List β}, All2 R xs ys → All2 R (xs.eraseIdx n) (ys.eraseIdx n)
  | _, _, _, .nil => .nil
  | 0, _, _, .cons _ t => t
  | n + 1, _, _, .cons h t => .cons h (eraseIdx (n := n) t)
theorem ins {n : Nat} {xs : List α} {ys : List β} {x : α} {y : β} (h : All2 R xs ys) (hx : R x y) : All2 R (xs.take n ++ [x] ++ xs.drop n) (ys.take n ++ [y] ++ ys.drop n) := ((take h).app (.cons hx .nil)).app (drop h)
end All2
theorem mem_ins {α : Type} {n : Nat} {xs : List α} {x y : α} (h : y ∈ xs.take n ++ [x] ++ xs.drop n) : y ∈ xs ∨ y = x := by
  rcases List.mem_append.mp h with h | h
  · rcases List.mem_append.mp h with h | h
    · exact .inl (List.mem_of_mem_take h)
    · exact .inr (List.mem_singleton.mp h)
  · exact .inl (List.mem_of_mem_drop h)
theorem perm_ins {α : Type} {n : Nat} (xs : List α) (x : α) : (xs.take n ++ [x] ++ xs.drop n).Perm (x :: xs) := by
  rw [List.append_assoc]
  refine List.perm_middle.trans ?_
  show (x :: (xs.take n ++ xs.drop n)).Perm _
  rw [List.take_append_drop]
theorem BSize.ins {n j : Nat} {pap : Pap} {r : Int × List (Int × Int)} (h : BSize n pap) (hr : r.2.length ≤ n + 1) : BSize (n + 1) (pap.take j ++ [r] ++ pap.drop j) where
  len := by
    rw [(perm_ins pap r).length_eq, List.length_cons]
    have := h.len
    omega
  lens := fun x hx => by
    rcases mem_ins hx with hx | rfl
    · have := h.lens x hx
      omega
    · exact hr
theorem BSize.set {n j : Nat} {pap : Pap} {r : Int × List (Int × Int)} (h : BSize n pap) (hr : r.2.length ≤ n + 1) : BSize (n + 1) (pap.set j r) where
  len := by
    rw [List.length_set]
    have := h.len
    omega
  lens := fun x hx => by
    rcases List.mem_or_eq_of_mem_set hx with hx | rfl
    · have := h.lens x hx
      omega
    · exact hr
theorem BSize.sub {n : Nat} {pap pap' : Pap} (h : BSize n pap) (hl : pap'.length ≤ pap.length) (hm : ∀ r ∈ pap', r ∈ pap) : BSize (n + 1) pap' where
  len := by
    have := h.len
    omega
  lens := fun x hx => by
    have := h.lens x (hm x hx)
    omega
section
variable {H F : Hp} {m : Mem} {p b : Addr} {o : HO} {zs : List BZ} {z : BZ} {j : Nat}
theorem bent_ins (O : Own H F ((b, .lst ((zs.map (·.1)).take j ++ [z.1] ++ (zs.map (·.1)).drop j)) :: z.2 :: (p, o) :: (zs.map (·.2) ++ m))) : Own H F (bentM p o b (zs.take j ++ [z] ++ zs.drop j) m) := by
  have e : (zs.take j ++ [z] ++ zs.drop j).map (·.1) = (zs.map (·.1)).take j ++ [z.1] ++ (zs.map (·.1)).drop j := by
    rw [List.map_append, List.map_append, List.map_take, List.map_drop]
    rfl
  unfold bentM
  rw [e]
  refine O.perm ?_
  have h1 : ((zs.take j ++ [z] ++ zs.drop j).map (·.2)).Perm (z.2 :: zs.map (·.2)) := (perm_ins zs z).map _
  have h2 := h1.append_right m
  rw [List.cons_append] at h2
  refine List.Perm.trans ?_ ((List.Perm.cons _ (List.Perm.cons _ h2)).symm)
  refine List.Perm.trans (List.Perm.cons _ (List.Perm.swap _ _ _)) ?_
  exact List.Perm.swap _ _ _
theorem set_take : ∀ {l : List BZ} {j : Nat} {z : BZ}, l[j]? = some z → ∀ z', ∃ l1 l2, l = l1 ++ z :: l2 ∧ l.set j z' = l1 ++ z' :: l2 ∧ l.eraseIdx j = l1 ++ l2
  | [], _, _, h, _ => by simp at h
  | x :: l, 0, z, h, z' => by
    have h : x = z := by simpa using h
    subst h
    exact ⟨[], l, rfl, rfl, rfl⟩
  | x :: l, j + 1, z, h, z' => by
    obtain ⟨l1, l2, h1, h2, h3⟩ := set_take (l := l) (j := j) (by simpa using h) z'
    exact ⟨x :: l1, l2, by rw [List.cons_append, ← h1], by rw [List.set_cons_succ, h2, List.cons_append], by rw [List.eraseIdx_cons_succ, h3, List.cons_append]⟩
/-- the pair list of one row comes to the front -/
theorem bent_out (O : Own H F (bentM p o b zs m)) (h : zs[j]? = some z) : ∃ rest, Own H F ((p, o) :: z.2 :: rest) ∧ (b, HO.lst (zs.map (·.1))) ∈ rest ∧
    ∀ (H' F' : Hp) (o' : HO) (z' : BZ), z'.1 = z.1 → Own H' F' ((p, o') :: z'.2 :: rest) → Own H' F' (bentM p o' b (zs.set j z') m) := by
  obtain ⟨l1, l2, e1, _, _⟩ := set_take h z
  refine ⟨(b, .lst (zs.map (·.1))) :: ((l1 ++ l2).map (·.2) ++ m), O.perm ?_, List.mem_cons_self, fun H' F' o' z' hz O' => ?_⟩
  · refine List.Perm.cons _ ?_
    refine List.Perm.trans (List.Perm.cons _ ?_) (List.Perm.swap _ _ _)
    have h2 : (l1.map (·.2) ++ z.2 :: l2.map (·.2)).Perm (z.2 :: (l1.map (·.2) ++ l2.map (·.2))) := List.perm_middle
    have h3 := h2.append_right m
    rw [e1, List.map_append, List.map_cons, List.map_append]
    exact h3
  · obtain ⟨l1', l2', f1, f2, _⟩ := set_take h z'
    have hzs : (zs.set j z').map (·.1) = zs.map (·.1) := by
      rw [f2, f1, List.map_append, List.map_append, List.map_cons, List.map_cons, hz]
    refine O'.perm ?_
    unfold bentM
    rw [hzs]
    refine List.Perm.cons _ ?_
    refine List.Perm.trans (List.Perm.swap _ _ _) (List.Perm.cons _ ?_)
    have h1 : (l1 ++ l2).Perm (l1' ++ l2') := by
      have : (z :: (l1 ++ l2)).Perm (z :: (l1' ++ l2')) := by
        refine List.perm_middle.symm.trans (List.Perm.trans ?_ List.perm_middle)
        rw [← e1, ← f1]
      exact (List.perm_cons z).mp this
    have e3 : (l1' ++ z' :: l2').map (·.2) = l1'.map (·.2) ++ z'.2 :: l2'.map (·.2) := by
      rw [List.map_append]
      rfl
    rw [f2, e3]
    have h2 : (z'.2 :: ((l1 ++ l2).map (·.2))).Perm (l1'.map (·.2) ++ z'.2 :: l2'.map (·.2)) := by
      refine List.Perm.trans (List.Perm.cons _ (h1.map _)) ?_
      rw [List.map_append]
      exact List.perm_middle.symm
    exact h2.append_right m
theorem map_erase {α β : Type} {f : α → β} : ∀ (l : List α) (j : Nat), (l.eraseIdx j).map f = (l.map f).eraseIdx j
  | [], _ => rfl
  | _ :: _, 0 => rfl
  | x :: l, j + 1 => by
    rw [List.eraseIdx_cons_succ, List.map_cons, List.map_cons, List.eraseIdx_cons_succ, map_erase l j]
theorem bent_pop (O : Own H F ((b, .lst ((zs.map (·.1)).eraseIdx j)) :: (p, o) :: (zs.map (·.2) ++ m))) : Own H F (bentM p o b (zs.eraseIdx j) m) := by
  have e : (zs.eraseIdx j).map (·.1) = (zs.map (·.1)).eraseIdx j := by
    rw [map_erase]
  unfold bentM
  rw [e]
  refine O.swap.less ?_
  refine List.Sublist.cons₂ _ (List.Sublist.cons₂ _ ?_)
  exact List.Sublist.append_right ((List.eraseIdx_sublist zs j).map _) m
theorem swap_perm {l : List BZ} {i j : Nat} {x y : BZ} (hi : l[i]? = some x) (hj : l[j]? = some y) : ((l.set i y).set j x).Perm l := by
  obtain ⟨h1, e1⟩ := List.getElem?_eq_some_iff.mp hi
  obtain ⟨h2, e2⟩ := List.getElem?_eq_some_iff.mp hj
  subst e1 e2
  exact List.set_set_perm h1 h2
theorem bent_swap {i : Nat} {x y : BZ} (hi : zs[i]? = some x) (hj : zs[j]? = some y) (O : Own H F ((b, .lst (((zs.map (·.1)).set i y.1).set j x.1)) :: (p, o) :: (zs.map (·.2) ++ m))) : Own H F (bentM p o b ((zs.set i y).set j x) m) := by
  have e : ((zs.set i y).set j x).map (·.1) = ((zs.map (·.1)).set i y.1).set j x.1 := by
    rw [List.map_set, List.map_set]
  unfold bentM
  rw [e]
  refine O.swap.perm ?_
  exact List.Perm.cons _ (List.Perm.cons _ (((swap_perm hi hj).symm.map _).append_right m))
theorem bent_set {z' : BZ} (h : zs[j]? = some z) (O : Own H F ((b, .lst ((zs.map (·.1)).set j z'.1)) :: z'.2 :: (p, o) :: (zs.map (·.2) ++ m))) : Own H F (bentM p o b (zs.set j z') m) := by
  have e : (zs.set j z').map (·.1) = (zs.map (·.1)).set j z'.1 := by rw [List.map_set]
  obtain ⟨l1, l2, e1, e2, _⟩ := set_take h z'
  unfold bentM
  rw [e]
  have O2 : Own H F ((b, .lst ((zs.map (·.1)).set j z'.1)) :: z'.2 :: (p, o) :: ((l1 ++ l2).map (·.2) ++ m)) := by
    refine O.less ?_
    refine List.Sublist.cons₂ _ (List.Sublist.cons₂ _ (List.Sublist.cons₂ _ ?_))
    rw [e1]
    exact List.Sublist.append_right ((List.Sublist.append_left (List.sublist_cons_self _ _) _).map _) m
  refine O2.perm ?_
  rw [e2, List.map_append, List.map_append, List.map_cons]
  have h2 : (z'.2 :: (l1.map (·.2) ++ l2.map (·.2))).Perm (l1.map (·.2) ++ z'.2 :: l2.map (·.2)) := List.perm_middle.symm
  refine List.Perm.trans ?_ ((List.Perm.cons _ (List.Perm.cons _ (h2.append_right m))))
  rw [List.cons_append]
  exact List.Perm.trans (List.Perm.cons _ (List.Perm.swap _ _ _)) (List.Perm.swap _ _ _)
end
/-- one of fresh pair lists -/
theorem pick_cell {H F : Hp} {cells m : Mem} {w : V} (O : Own H F (cells ++ m)) (hw : w ∈ cells.map fun c => V.ref c.1) (hc : ∀ c ∈ cells, ∃ ws ps, c.2 = HO.lst ws ∧ All2 (rPair rInt rInt F) ps ws ∧ ps.length ≤ 4) :
    ∃ q ws ps, w = .ref q ∧ Own H F ((q, .lst ws) :: m) ∧ All2 (rPair rInt rInt F) ps ws ∧ ps.length ≤ 4 := by
  obtain ⟨c, hcm, rfl⟩ := List.mem_map.mp hw
  obtain ⟨ws, ps, e, h1, h2⟩ := hc c hcm
  refine ⟨c.1, ws, ps, rfl, ?_, h1, h2⟩
  have : (c.1, HO.lst ws) = c := by rw [← e]
  rw [this]
  exact O.less (List.Sublist.append_right (List.singleton_sublist.mpr hcm) m)
/-- all stands still in the end -/
abbrev rPairsL : Rp (List (Int × Int)) := rList (rPair rInt rInt)
def rTwo {α β : Type} (R : Rp α) (S : Rp β) : Rp (α × β) := fun F p v => ∃ a u w, v = .ref a ∧ F a = some (.lst [u, w]) ∧ R F p.1 u ∧ S F p.2 w
instance {α β : Type} {R : Rp α} {S : Rp β} [MonoS R] [MonoS S] : MonoS (rTwo R S) := ⟨fun s ⟨a, u, w, e, h, r, t⟩ => ⟨a, u, w, e, s _ _ h, up s r, up s t⟩⟩
abbrev rPapL : Rp Pap := rList (rTwo rInt rPairsL)
theorem bent_cells {H : Hp} {m : Mem} : ∀ {pap : Pap} {zs : List BZ} {F : Hp}, RBs F pap zs → Own H F (zs.map (·.2) ++ m) → ∃ F', Same F F' ∧ Own H F' m ∧ All2 (rTwo rInt rPairsL F') pap (zs.map (·.1))
  | _, _, F, .nil, O => ⟨F, Same.refl F, O, .nil⟩
  | _, _, F, .cons (x := r) (y := z) h t, O => by
    obtain ⟨a, q, ws, rfl, h1, h2⟩ := h
    have O : Own H F ((q, .lst ws) :: (_ ++ m)) := O
    have s1 := O.freeze_same
    obtain ⟨F', s2, O', h3⟩ := bent_cells (RBs.up s1 t) O.freeze
    refine ⟨F', s1.trans s2, O', .cons ⟨a, .int r.1, .ref q, rfl, (s1.trans s2) _ _ h1, rfl, q, ws, rfl, s2 _ _ upd_same, all2_up (s1.trans s2) h2⟩ h3⟩
theorem bent_all {H F : Hp} {m : Mem} {p b : Addr} {o : HO} {zs : List BZ} {pap : Pap} (O : Own H F (bentM p o b zs m)) (h : RBs F pap zs) : ∃ F', Same F F' ∧ Own H F' ((p, o) :: m) ∧ rPapL F' pap (.ref b) := by
  have s1 := O.swap.freeze_same
  have O1 := O.swap.freeze
  have O2 : Own H (upd F b (.lst (zs.map (·.1)))) (zs.map (·.2) ++ ((p, o) :: m)) := O1.perm List.perm_middle.symm
  obtain ⟨F', s2, O', h3⟩ := bent_cells (RBs.up s1 h) O2
  exact ⟨F', s1.trans s2, O', b, _, rfl, s2 _ _ upd_same, h3⟩
/-! a list that is made by a comprehension, and stays ours -/
section
variable {K : PySem.W.Frag} {σ : L2.St} {H F : Hp} {m : Mem} {g : TG} {tt : TT} {te : TE} {vs : List Nat} {v : V} {α β : Type} {R : Rp α} {S : Rp β} {xs : List α} {Q : VK}
theorem x_docLO [MonoS R] (O : Own H F m) (h : rList R F xs v) (P : Nat → Hp → Mem → List β → Prop) (h0 : P 0 F m [])
    (hs : ∀ D acc i x w H' F' m' ys, xs[i]? = some x → R F' x w → Same F F' → Own H' F' ((D, .lst acc) :: m') → All2 (S F') ys acc → ys.length ≤ i → P i F' m' ys →
      g w (wipe σ vs) H' fun σ2 H2 => wipe σ2 vs = wipe σ vs ∧ tt σ2 H2 fun b H3 => if b = true then te σ2 H3 fun y H4 => ∃ acc, H4 D = some (.lst acc) ∧ acc.length < sizeLine ∧ LcP S P F D (i + 1) (upd H4 D (.lst (acc ++ [y]))) else LcP S P F D (i + 1) H3)
    (hd : ∀ D acc H' F' m' ys, Same F F' → Own H' F' ((D, .lst acc) :: m') → All2 (S F') ys acc → P xs.length F' m' ys → Q (.ref D) H') : CL K g tt te vs σ Q v H := by
  obtain ⟨a, us, rfl, ha, r⟩ := h
  refine ⟨a, rfl, ⟨us, .inl (.inl (O.frz ha))⟩, fun D hD => lc_list (LcP S P F D) ⟨F, m, [], [], Same.refl F, O.own hD, .nil, Nat.zero_le _, h0⟩ (fun i H' _ ⟨F', m', _, _, s, O', _⟩ => .inl (.inl (O'.frz (s _ _ ha)))) (fun i w H' hi ⟨F', m', acc, ys, s, O', hy, hl, p⟩ => ?_) fun H' ⟨F', m', acc, ys, s, O', hy, hl, p⟩ => ?_⟩
  · obtain ⟨x, hx, hr⟩ := r.get' hi
    exact hs D acc i x w H' F' m' ys hx (up s hr) s O' hy hl p
  · exact hd D acc H' F' m' ys s O' hy (by rw [r.length]; exact p)
/-- any value, as it is -/
def rRaw : Rp V := fun _ x v => v = x
instance : MonoS rRaw := ⟨fun _ h => h⟩
theorem raw_of {F : Hp} : ∀ {xs vs : List V}, All2 (rRaw F) xs vs → vs = xs
  | _, _, .nil => rfl
  | _, _, .cons h t => by rw [show _ = _ from h, raw_of t]
theorem x_two0 {T : Rp α} {p : α × β} (O : Own H F m) (h : rTwo T S F p v) (k : ∀ w, T F p.1 w → Q w H) : rIxL K v (.int 0) H Q := by
  obtain ⟨a, u, w, rfl, ha, r, s⟩ := h
  exact ⟨a, [u, w], 0, u, rfl, rfl, .inl (.inl (O.frz ha)), rfl, k u r⟩
theorem x_two1 {T : Rp α} {p : α × β} (O : Own H F m) (h : rTwo T S F p v) (k : ∀ w, S F p.2 w → Q w H) : rIxL K v (.int 1) H Q := by
  obtain ⟨a, u, w, rfl, ha, r, s⟩ := h
  exact ⟨a, [u, w], 1, w, rfl, rfl, .inl (.inl (O.frz ha)), rfl, k w s⟩
end
theorem perm_snoc {α : Type} (Z rest : List α) (x : α) : (x :: (Z ++ rest)).Perm ((Z ++ [x]) ++ rest) := by
  rw [List.append_assoc]
  exact List.perm_middle.symm
theorem BSize.mono {n k : Nat} {pap : Pap} (h : BSize n pap) (hk : n ≤ k) : BSize k pap := ⟨Nat.le_trans h.len hk, fun r hr => Nat.le_trans (h.lens r hr) hk⟩
def spBent : Sp := fun vs H Q _ => ∃ (p : Addr) (o : HO) (v : V) (pap : Pap) (F : Hp) (m : Mem), vs = [.ref p, v] ∧ Own H F ((p, o) :: m) ∧ PoolOk F o ∧ rPapL F pap v ∧ BSize 2000 pap ∧
  ∀ w H' F' o' pap', Same F F' → Own H' F' ((p, o') :: m) → PoolOk F' o' → rPapL F' pap' w → BSize 2002 pap' → Q w H'
end Tf
/-! != of lists of ints; a dict that is locked is asked; a return out of a loop over a dict -/
namespace Tf
open PySem PySem.Spec PyProof.Rows L2
theorem eqvAll_ints : ∀ (xs ys : List Int), PyData.eqvAll (xs.map PyData.int) (ys.map PyData.int) = decide (xs = ys)
  | [], [] => rfl
  | [], y :: ys => rfl
  | x :: xs, [] => rfl
  | x :: xs, y :: ys => by
    rw [List.map_cons, List.map_cons]
    unfold PyData.eqvAll
    rw [eqvAll_ints xs ys]
    unfold PyData.eqv
    by_cases h : x = y
    · subst h
      simp
    · simp [h]
theorem canLay_ints : ∀ (xs : List Int), PyData.canLayAll0 (xs.map PyData.int) = true
  | [] => rfl
  | x :: xs => by
    rw [List.map_cons]
    unfold PyData.canLayAll0 PyData.canLay0
    rw [canLay_ints xs]
    rfl
theorem shaped_ints (xs : List Int) : SeqAt.shaped (.list (xs.map PyData.int)) = true := by
  unfold SeqAt.shaped
  rw [Bool.and_eq_true]
  refine ⟨?_, decide_eq_true ?_⟩
  · unfold PyData.canLay0
    exact canLay_ints xs
  · have h := depth_nums xs
    show PyData.depthAll (xs.map PyData.int) + 1 ≤ 64
    omega
theorem shaped_intsT (xs : List Int) : SeqAt.shaped (.tuple (xs.map PyData.int)) = true := by
  unfold SeqAt.shaped
  rw [Bool.and_eq_true]
  refine ⟨?_, decide_eq_true ?_⟩
  · unfold PyData.canLay0
    exact canLay_ints xs
  · have h := depth_nums xs
    show PyData.depthAll (xs.map PyData.int) + 1 ≤ 64
    omega
theorem dp_ints {K : PySem.W.Frag} {H : Hp} : ∀ (xs : List Int), DpAll K H (xs.map V.int) (xs.map PyData.int)
  | [] => .nil
  | x :: xs => .cons (.int x) (dp_ints xs)
section
variable {K : PySem.W.Frag} {H F : Hp} {m : Mem} {v w : V} {Q : VK} {ns ms : List Int}
theorem dp_listI (O : Own H F m) (h : rList rInt F ns v) : Dp K H v (.list (ns.map PyData.int)) := by
  obtain ⟨a, vs, rfl, ha, r⟩ := h
  have e := ints_of r
  subst e
  exact .lst (.inl (.inl (O.frz ha))) (dp_ints ns)
theorem dp_tupI (O : Own H F m) (h : rTup rInt F ns v) : Dp K H v (.tuple (ns.map PyData.int)) := by
  obtain ⟨a, vs, rfl, ha, r⟩ := h
  have e := ints_of r
  subst e
  exact .tup (.inl (.inl (O.frz ha))) (dp_ints ns)
theorem x_neLI (O : Own H F m) (h : rList rInt F ns v) (h2 : rList rInt F ms w) (k : Q (.bl (!decide (ns = ms))) H) : rNeD K v w H Q := by
  refine ⟨_, _, dp_listI O h, dp_listI O h2, shaped_ints ns, shaped_ints ms, ?_⟩
  have e : PyData.eqv (.list (ns.map PyData.int)) (.list (ms.map PyData.int)) = decide (ns = ms) := by
    rw [← eqvAll_ints]
    unfold PyData.eqv
    rfl
  rw [e]
  exact k
theorem x_eqTI (O : Own H F m) (h : rTup rInt F ns v) (h2 : rTup rInt F ms w) (k : Q (.bl (decide (ns = ms))) H) : rEqD K v w H Q := by
  refine ⟨_, _, dp_tupI O h, dp_tupI O h2, shaped_intsT ns, shaped_intsT ms, ?_⟩
  have e : PyData.eqv (.tuple (ns.map PyData.int)) (.tuple (ms.map PyData.int)) = decide (ns = ms) := by
    rw [← eqvAll_ints]
    unfold PyData.eqv
    rfl
  rw [e]
  exact k
end
/-- return out of a loop over a dict -/
theorem x_unlockR {F0 F1 F' H : Hp} {m : Mem} {D : Ends} {v : V} {a : Addr} {kvs : List (Key × V)} {od : Obj} (O : Own H F' m) (h1 : F1 a = some (.frz od (.dK kvs))) (hs : ∀ F', Same F1 F' → Same F0 (upd F' a (.dK kvs))) (s : Same F1 F')
    (k : ∀ H2 F2, Same F0 F2 → Le F' F2 → Own H2 F2 m → D.rt v H2) : Ends.rt (DL a (.dK kvs) od D) v H := by
  have h : F' a = some (.frz od (.dK kvs)) := s _ _ h1
  exact ⟨O.frz h, k _ _ (hs _ s) (le_unlock h) (O.relay h)⟩
theorem x_orC {b c : Bool} {A B X : Prop} (e : (if c = true then A else B) → X) (k : if (b || c) = true then A else B) : if b = true then (if true = true then A else B) else X := by
  cases b with
  | true => exact k
  | false => exact e k
theorem filt_take_yes {α : Type} {l : List α} {p : α → Bool} {i : Nat} {x : α} (hi : l[i]? = some x) (h : p x = true) : (l.take (i + 1)).filter p = (l.take i).filter p ++ [x] := by
  rw [List.take_add_one, hi, List.filter_append]
  congr 1
  show [x].filter p = [x]
  rw [List.filter_cons, if_pos h, List.filter_nil]
theorem filt_take_no {α : Type} {l : List α} {p : α → Bool} {i : Nat} {x : α} (hi : l[i]? = some x) (h : p x = false) : (l.take (i + 1)).filter p = (l.take i).filter p := by
  rw [List.take_add_one, hi, List.filter_append]
  show _ ++ [x].filter p = _
  rw [List.filter_cons, if_neg (by rw [h]; decide), List.filter_nil, List.append_nil]
theorem x_lock2 {σ : L2.St} {H F : Hp} {m : Mem} {D : Ends} {t : TS} {a : Addr} {kvs : List (Key × V)} (O : Own H F m) (h : F a = some (.dK kvs))
    (k : ∀ od H1 F1, Own H1 F1 m → Le F F1 → F1 a = some (.frz od (.dK kvs)) → (∀ b u, b ≠ a → F b = some u → F1 b = some u) → (∀ F', Same F1 F' → Same F (upd F' a (.dK kvs))) → t (DL a (.dK kvs) od D) σ H1) : tLock t D σ H :=
  ⟨a, .dK kvs, O.frz h, True.intro, fun od => k od _ _ (O.relay h) (le_lock h) upd_same (fun b u hb e => by rw [upd_ne hb]; exact e) fun _ s => unlock_same h s⟩
theorem all2_memR {α β : Type} {R : α → β → Prop} : ∀ {xs : List α} {ys : List β} {y : β}, All2 R xs ys → y ∈ ys → ∃ x, x ∈ xs ∧ R x y
  | _, _, _, .nil, h => (nomatch h)
  | _, _, _, .cons (x := x) (y := y') h t, hm => by
    rcases List.mem_cons.mp hm with rfl | hm
    · exact ⟨x, List.mem_cons_self, h⟩
    · obtain ⟨z, h1, h2⟩ := all2_memR t hm
      exact ⟨z, List.mem_cons_of_mem _ h1, h2⟩
theorem all2_monoM {α β : Type} {R S : α → β → Prop} : ∀ {xs : List α} {ys : List β}, All2 R xs ys → (∀ x y, y ∈ ys → R x y → S x y) → All2 S xs ys
  | _, _, .nil, _ => .nil
  | _, _, .cons h t, f => .cons (f _ _ List.mem_cons_self h) (all2_monoM t fun x y hy => f x y (List.mem_cons_of_mem _ hy))
/-- the dicts within a dict that is locked are not locked -/
theorem kvR_lock {F F1 : Hp} {a : Addr} {p : List (Int × List (Int × Int))} {kvs : List (Key × V)} (h : F a = some (.dK kvs)) (hk : kvR rLens F p kvs) (hne : ∀ b u, b ≠ a → F b = some u → F1 b = some u) : kvR rLens F1 p kvs := by
  refine all2_monoM hk fun x y hy ⟨e, b, kv1, eb, hb, hr⟩ => ⟨e, b, kv1, eb, hne b _ (fun z => ?_) hb, hr⟩
  subst z
  rw [h] at hb
  cases hb
  obtain ⟨q, _, _, q2⟩ := all2_memR hr hy
  have q2 : y.2 = .int q.2 := q2
  rw [eb] at q2
  cases q2
theorem x_chain {r r' : R2} {ta tb tc : TE} {σ : L2.St} {H : Hp} {Q : VK} (k : ta σ H fun x H1 => tb σ H1 fun y H2 => r x y H2 (BQ fun b H3 => if b = true then tc σ H3 fun w' H4 => r' y w' H4 Q else Q (.bl false) H3)) : tChain r r' ta tb tc σ H Q := k
theorem x_part {te : TE} {σ : L2.St} {H : Hp} {Q : Option Int → Hp → Prop} (k : te σ H fun x H1 => ∃ i, x = .int i ∧ Q (some i) H1) : tPart te σ H Q := k
section
variable {K : PySem.W.Frag} {σ : L2.St} {H F : Hp} {m : Mem} {g : TG} {tt : TT} {te tk tv tl : TE} {vs : List Nat} {v : V} {α β : Type} {R : Rp α} {S : Rp β} {xs : List α} {Q : VK}
def DCS (K : PySem.W.Frag) (g : TG) (tt : TT) (tk tv : TE) (vs : List Nat) (σ : L2.St) (Q : VK) : VK := fun v H1 => ∃ a, v = .ref a ∧ (((∃ xs, SqL K H1 a xs) ∧ DcW (Itl K a) g tt tk tv vs σ Q H1) ∨ ((∃ xs, SqT K H1 a xs) ∧ DcW (Itt K a) g tt tk tv vs σ Q H1))
theorem x_dcS (k : tl σ H (DCS K g tt tk tv vs σ Q)) : tDc (iSeq K tl) g tt tk tv vs σ H Q := k
def DCT (K : PySem.W.Frag) (g : TG) (tt : TT) (tk tv : TE) (vs : List Nat) (σ : L2.St) (Q : VK) : VK := fun v H1 => ∃ a, v = .ref a ∧ (∃ xs, SqT K H1 a xs) ∧ DcW (Itt K a) g tt tk tv vs σ Q H1
theorem x_dodT [MonoS R] [MonoS S] (O : Own H F m) (h : rTup R F xs v) (P : Nat → Hp → Mem → List (Int × β) → Prop) (h0 : P 0 F m [])
    (hs : ∀ D kvs i x w H' F' m' ys, xs[i]? = some x → R F' x w → Same F F' → Own H' F' ((D, .dK kvs) :: m') → kvR S F' ys kvs → ys.length ≤ i → P i F' m' ys →
      g w (wipe σ vs) H' fun σ2 H2 => wipe σ2 vs = wipe σ vs ∧ tt σ2 H2 fun b H3 => if b = true then tk σ2 H3 fun y H4 => tv σ2 H4 fun z H5 => ∃ kvs k, y = kV k ∧ H5 D = some (.dK kvs) ∧ kvs.length < sizeLine ∧ DcP S P F D (i + 1) (upd H5 D (.dK (putK kvs k z))) else DcP S P F D (i + 1) H3)
    (hd : ∀ v' H' F' m' ys, Same F F' → Own H' F' m' → rDictX S F' ys v' → P xs.length F' m' ys → Q v' H') (hP : ∀ F1 F2 m1 ys i, Same F1 F2 → P i F1 m1 ys → P i F2 m1 ys := by exact fun _ _ _ _ _ _ h => h) : DCT K g tt tk tv vs σ Q v H := by
  obtain ⟨a, us, rfl, ha, r⟩ := h
  refine ⟨a, rfl, ⟨us, .inl (.inl (O.frz ha))⟩, fun D hD => ?_⟩
  refine ⟨fun i n H' => n = us.length - i ∧ i ≤ us.length ∧ DcP S P F D i H', ⟨us.length, by simp, Nat.zero_le _, F, m, [], [], Same.refl F, O.own hD, .nil, Nat.zero_le _, h0⟩, ?_⟩
  rintro i n H' ⟨rfl, hi, hp⟩
  obtain ⟨F', m', kvs, ys, s, O', hk, hl, p⟩ := id hp
  have hsq : SqT K H' a us := .inl (.inl (O'.frz (s _ _ ha)))
  by_cases hlt : i < us.length
  · refine .inr ⟨⟨us, us[i], hsq, by simp [hlt]⟩, DcP S P F D (i + 1), fun H2 p2 => ⟨us.length - (i + 1), by omega, rfl, hlt, p2⟩, fun x H2 y => ?_⟩
    obtain ⟨e, y⟩ := y
    subst e
    obtain ⟨z, hz, hr⟩ := r.get' (y us hsq)
    exact hs D kvs i z x _ F' m' ys hz (up s hr) s O' hk hl p
  · have e : i = us.length := by omega
    subst e
    obtain ⟨O2, s2, h2⟩ := freezeD O' hk
    exact .inl ⟨⟨us, hsq, Nat.le_refl _⟩, hd (.ref D) H' _ m' ys (s.trans s2) O2 h2 (hP _ _ _ _ _ s2 (by rw [r.length]; exact p))⟩
theorem x_dodS [MonoS R] [MonoS S] (O : Own H F m) (h : rSeq R F xs v) (P : Nat → Hp → Mem → List (Int × β) → Prop) (h0 : P 0 F m [])
    (hs : ∀ D kvs i x w H' F' m' ys, xs[i]? = some x → R F' x w → Same F F' → Own H' F' ((D, .dK kvs) :: m') → kvR S F' ys kvs → ys.length ≤ i → P i F' m' ys →
      g w (wipe σ vs) H' fun σ2 H2 => wipe σ2 vs = wipe σ vs ∧ tt σ2 H2 fun b H3 => if b = true then tk σ2 H3 fun y H4 => tv σ2 H4 fun z H5 => ∃ kvs k, y = kV k ∧ H5 D = some (.dK kvs) ∧ kvs.length < sizeLine ∧ DcP S P F D (i + 1) (upd H5 D (.dK (putK kvs k z))) else DcP S P F D (i + 1) H3)
    (hd : ∀ v' H' F' m' ys, Same F F' → Own H' F' m' → rDictX S F' ys v' → P xs.length F' m' ys → Q v' H') (hP : ∀ F1 F2 m1 ys i, Same F1 F2 → P i F1 m1 ys → P i F2 m1 ys := by exact fun _ _ _ _ _ _ h => h) : DCS K g tt tk tv vs σ Q v H := by
  rcases h with h | h
  · obtain ⟨a, e, h1, h2⟩ := x_dodL (K := K) O h P h0 hs hd hP
    exact ⟨a, e, .inl ⟨h1, h2⟩⟩
  · obtain ⟨a, e, h1, h2⟩ := x_dodT (K := K) O h P h0 hs hd hP
    exact ⟨a, e, .inr ⟨h1, h2⟩⟩
end
end Tf
local macro_rules | `(tactic| walk_at "x1") => `(tactic| first
  | with_reducible refine Tf.x_seq ?_
  | with_reducible refine Tf.x_asg ?_
  | with_reducible refine Tf.x_name ?_
  | with_reducible refine Tf.x_c ?_
  | with_reducible refine Tf.x_op ?_
  | ((with_reducible refine Tf.x_var (v := ?v0) ?hv ?_); (case hv => rfl))
  | with_reducible refine Tf.x_I0 ?_
  | with_reducible refine Tf.x_nx ?_
  | with_reducible refine Tf.x_rt ?_
  | with_reducible refine Tf.x_eqI ?_
  | with_reducible refine Tf.x_neI ?_
  | with_reducible refine Tf.x_test ?_
  | with_reducible refine Tf.x_bl ?_
  | with_reducible refine Tf.x_if ?_
  | with_reducible refine Tf.x_cons ?_
  | with_reducible refine Tf.x_nil ?_
  | with_reducible refine Tf.x_call ?_
  | with_reducible refine Tf.x_cb ?_
  | with_reducible refine Tf.x_sub ?_
  | with_reducible refine Tf.x_ret ?_
  | with_reducible refine Tf.x_drop ?_
  | with_reducible refine Tf.x_next ?_
  | with_reducible refine Tf.x_int ?_
  | with_reducible refine Tf.x_intB ?_
  | with_reducible refine Tf.x_abs ?_
  | with_reducible refine Tf.x_and ?_
  | with_reducible refine Tf.x_bndM ?_
  | with_reducible refine Tf.x_make ?_
  | with_reducible refine Tf.x_meth ?_
  | with_reducible refine Tf.x_tru ?_
  | with_reducible refine Tf.x_ckw ?_
  | with_reducible refine Tf.x_bm ?_
  | with_reducible refine Tf.x_bm0 ?_
  | with_reducible refine Tf.x_sfld ?_
  | with_reducible refine Tf.x_forS ?_
  | with_reducible refine Tf.x_forE ?_
  | with_reducible refine Tf.x_lcS ?_
  | with_reducible refine Tf.x_min2 ?_
  | with_reducible refine Tf.x_max2 ?_
  | with_reducible refine Tf.x_isNon ?_
  | with_reducible refine Tf.x_notNon ?_
  | with_reducible refine Tf.x_isB ?_
  | with_reducible refine Tf.x_or ?_
  | with_reducible refine Tf.x_not ?_
  | with_reducible refine Tf.x_B ?_
  | with_reducible refine Tf.x_tup ?_
  | with_reducible refine Tf.x_lst ?_
  | with_reducible refine Tf.x_dget ?_
  | with_reducible refine Tf.x_din ?_
  | with_reducible refine Tf.x_dnotin ?_
  | with_reducible refine Tf.x_dput ?_
  | with_reducible refine Tf.x_gcons ?_
  | with_reducible refine Tf.x_gnil ?_
  | with_reducible refine Tf.x_un ?_
  | with_reducible refine Tf.x_U ?_
  | with_reducible refine Tf.x_ct ?_
  | with_reducible refine Tf.x_bk ?_
  | with_reducible refine Tf.x_brk ?_
  | with_reducible refine Tf.x_cont ?_
  | with_reducible refine Tf.x_retN ?_
  | with_reducible refine Tf.x_forL ?_
  | with_reducible refine Tf.x_forT ?_
  | with_reducible refine Tf.x_forR1 ?_
  | with_reducible refine Tf.x_forR2 ?_
  | with_reducible refine Tf.x_forR3 ?_
  | with_reducible refine Tf.x_forK ?_
  | with_reducible refine Tf.x_abs ?_
  | with_reducible refine Tf.x_lcL ?_
  | with_reducible refine Tf.x_lcT ?_
  | with_reducible refine Tf.x_lcR1 ?_
  | with_reducible refine Tf.x_lcK ?_
  | with_reducible refine Tf.x_chain ?_
  | with_reducible refine Tf.x_sl ?_
  | with_reducible refine Tf.x_noP ?_
  | with_reducible refine Tf.x_partI ?_
  | with_reducible refine Tf.x_part ?_
  | with_reducible refine Tf.x_forZ ?_
  | with_reducible refine Tf.x_dcL ?_
  | with_reducible refine Tf.x_dcS ?_
  | with_reducible refine Tf.x_dget2 ?_
  | with_reducible refine Tf.x_yes ?_
  | with_reducible refine Tf.x_ifE ?_
  | with_reducible refine Tf.x_andV ?_
  | with_reducible refine Tf.x_orV ?_
  | with_reducible refine Tf.x_notV ?_
  | with_reducible refine Tf.x_fld ?_
  | ((with_reducible refine Tf.x_aug (v := ?v0) ?hv ?_); (case hv => rfl))
  | with_reducible refine Tf.x_ipI ?_
  | with_reducible refine Tf.p_get0 (by assumption) ?_
  | with_reducible refine Tf.p_get1 (by assumption) ?_
  | with_reducible refine Tf.p_get2 (by assumption) ?_
  | with_reducible refine Tf.p_get3 (by assumption) ?_
  | with_reducible refine Tf.p_get4 (by assumption) ?_
  | with_reducible refine Tf.p_set1 (by assumption) (fun H' O' => ?_)
  | with_reducible refine Tf.p_set2 (by assumption) (fun H' O' => ?_)
  | with_reducible refine Tf.p_set3 (by assumption) (fun H' O' => ?_)
  | with_reducible refine Tf.p_set4 (by assumption) (fun H' O' => ?_)
  | ((with_reducible refine Tf.x_I ?h ?_); (case h => walk_at "xC")))
local macro_rules | `(tactic| walk_at "xC") => `(tactic| first
  | (show (0 : Int) < _; first | decide | omega)
  | (refine Or.inr ⟨?_, ?_⟩ <;> first | decide | omega)
  | (refine Or.inl ⟨?_, ?_⟩ <;> first | decide | omega)
  | exact L2.wide_div (b := 60) (by omega) (by omega) (by decide) (by decide)
  | (refine ⟨?_, ?_, ?_⟩ <;> decide))
local macro_rules | `(tactic| walk_at "x") => `(tactic| repeat walk_at "x1")
namespace Tf
open PySem PySem.Spec PyProof.Rows L2
def top (i : Nat) : Stmt := PySem.Challenge.pw_typeforge_k76_judge_of_spectra.main.body.getD i (.Pass ⟨0, 0, 0, 0⟩)
section
variable {P : Program} {w : World} {K : PySem.W.Frag} {mg : Str → Option Value} {base : Heap}
abbrev sDr : Stmt := top 20
abbrev NDr : List Str := ["pool", "many", "cell", "got", "one"]
theorem scDr : FnScope NDr ["pool", "many"] (defScope sDr) := ⟨rfl, rfl, rfl, by decide +kernel, rfl, by decide +kernel, by decide +kernel⟩
theorem ok_Dr {f : Addr} {fd : FuncData} (F : Fun K "_law_draw" "_law_draw" sDr f fd) (T : Bi mg) : FnOk P w K mg base CX0 1 f fd ["pool", "many"] spDraw := by
  refine F.ok scDr (fun vs H Q E h => ?_) (fun cdv A outer s H vs Q E hr h => ?_)
  · obtain ⟨p, o, n, F, m, rfl, _⟩ := h
    rfl
  · obtain ⟨p, _, n, F, m, rfl, O, ⟨s, script, i, b, c, z, rfl, hs, hi, hb⟩, n0, n1, k⟩ := h
    refine ⟨_, 
    (pss_cons (ps_asg (pe_op op_add (pe_ix (r := rIxL K) ix_list (pv 0) pe_int (fun _ _ => rfl)) pe_int) (pg_sub (pv 0) pe_int set_list))
    (Tf.pss_cut (ps_if (PW.pt (pw_and (pt_cmpR op_eq (pe_ix (r := rIxL K) ix_list (pv 0) pe_int (fun _ _ => rfl)) pe_int (nomark _)) (pw_and1 (pt_cmpR op_lt (pe_ix (r := rIxL K) ix_list (pv 0) pe_int (fun _ _ => rfl)) (pe_callB cr_len (by rfl) T.b_len (by decide +kernel) (pa_cons (pe_ix (r := rIxL K) ix_list (pv 0) pe_int (fun _ _ => rfl)) pa_nil)) (nomark _))))) 
      (pss_cons (ps_set (i := 2) scDr.nd rfl (Or.inl rfl) (pe_ix (r := rIxL K) ix_list (pe_ix (r := rIxL K) ix_list (pv 0) pe_int (fun _ _ => rfl)) (pe_ix (r := rIxL K) ix_list (pv 0) pe_int (fun _ _ => rfl)) (fun _ _ => rfl)))
      (pss_cons (ps_asg (pe_op op_add (pe_ix (r := rIxL K) ix_list (pv 0) pe_int (fun _ _ => rfl)) pe_int) (pg_sub (pv 0) pe_int set_list))
      (pss_one (ps_if (pt_cmpR op_ge (pe_callB cr_abs (by rfl) T.b_abs (by decide +kernel) (pa_cons (pv 2) pa_nil)) (pe_op op_pow pe_int pe_int) (nomark _)) 
        (pss_one (ps_asg (pe_callB cr_abs (by rfl) T.b_abs (by decide +kernel) (pa_cons (pv 2) pa_nil)) (pg_sub (pv 0) pe_int set_list))) 
        (pss_one (ps_asg (pe_op op_mod (pe_callTy (T := "int") cr_int (by rfl) T.b_int (by decide +kernel) (pa_cons (pe_op op_add (pe_op op_add (pe_op op_mul (pe_ix (r := rIxL K) ix_list (pv 0) pe_int (fun _ _ => rfl)) pe_int) (pe_op op_mul (pv 2) pe_int)) pe_int) pa_nil)) pe_int) (pg_sub (pv 0) pe_int set_list))))))) pss_nil)
    (pss_cons (ps_if (pt_cmpR op_gt (pe_ix (r := rIxL K) ix_list (pv 0) pe_int (fun _ _ => rfl)) pe_int (nomark _)) 
      (pss_cons (ps_set (i := 3) scDr.nd rfl (Or.inl rfl) (pe_op op_mod (pe_callTy (T := "int") cr_int (by rfl) T.b_int (by decide +kernel) (pa_cons (pe_ix (r := rIxL K) ix_list (pv 0) pe_int (fun _ _ => rfl)) pa_nil)) (pv 1)))
      (pss_cons (ps_asg (pe_op op_fdivW (pe_ix (r := rIxL K) ix_list (pv 0) pe_int (fun _ _ => rfl)) (pv 1)) (pg_sub (pv 0) pe_int set_list))
      (pss_one (ps_ret (pv 3))))) pss_nil)
    (pss_cons (ps_set (i := 4) scDr.nd rfl (Or.inl rfl) (pe_op op_mod (pe_callTy (T := "int") cr_int (by rfl) T.b_int (by decide +kernel) (pa_cons (pe_op op_add (pe_ix (r := rIxL K) ix_list (pv 0) pe_int (fun _ _ => rfl)) (pe_op op_mul (pe_ix (r := rIxL K) ix_list (pv 0) pe_int (fun _ _ => rfl)) pe_int)) pa_nil)) pe_int))
    (pss_cons (ps_set (i := 4) scDr.nd rfl (Or.inl rfl) (pe_op op_mod (pe_callTy (T := "int") cr_int (by rfl) T.b_int (by decide +kernel) (pa_cons (pe_op op_add (pe_op op_add (pe_op op_mul (pv 4) (pv 4)) (pe_op op_mul (pe_ix (r := rIxL K) ix_list (pv 0) pe_int (fun _ _ => rfl)) pe_int)) pe_int) pa_nil)) pe_int))
    (pss_cons (ps_set (i := 4) scDr.nd rfl (Or.inl rfl) (pe_op op_mod (pe_callTy (T := "int") cr_int (by rfl) T.b_int (by decide +kernel) (pa_cons (pe_op op_add (pe_op op_add (pe_op op_mul (pv 4) (pv 4)) (pe_ix (r := rIxL K) ix_list (pv 0) pe_int (fun _ _ => rfl))) pe_int) pa_nil)) pe_int))
    (pss_one (ps_ret (pe_op op_mod (pe_callTy (T := "int") cr_int (by rfl) T.b_int (by decide +kernel) (pa_cons (pe_op op_fdivW (pv 4) pe_int) pa_nil)) (pv 1)))))))))), ?_⟩
    have fin : ∀ r H' s i b c z, 0 ≤ r → r < n → rList rInt F script s → 0 ≤ i → 0 ≤ b → Own H' F ((p, poolO s i b c z) :: m) → Q (.int r) H' := fun r H' s i b c z h1 h2 h3 h4 h5 O' =>
      k r H' _ h1 h2 O' ⟨s, script, i, b, c, z, rfl, h3, h4, h5⟩
    walk_at "x"
    refine x_cut (fun σ' H' => ∃ i b c z u, σ' = [some (.ref p), some (.int n), u, none, none] ∧ 0 ≤ i ∧ 0 ≤ b ∧ Own H' F ((p, poolO s i b c z) :: m)) ?_ ?_
    · walk_at "x"
      have nxt : ∀ (σ' : L2.St) H' i b c z u, σ' = [some (.ref p), some (.int n), u, none, none] → 0 ≤ i → 0 ≤ b → Own H' F ((p, poolO s i b c z) :: m) →
        ∃ i b c z u, σ' = [some (.ref p), some (.int n), u, none, none] ∧ 0 ≤ i ∧ 0 ≤ b ∧ Own H' F ((p, poolO s i b c z) :: m) := fun σ' H' i b c z u h1 h2 h3 h4 => ⟨i, b, c, z, u, h1, h2, h3, h4⟩
      refine x_iteD (fun h0 => ?_) (fun h0 => ?_)
      · walk_at "x"
        refine x_lenL (by assumption) hs ?_
        walk_at "x"
        refine x_iteD (fun h1 => ?_) (fun h1 => ?_)
        · walk_at "x"
          obtain ⟨cell, hc⟩ : ∃ cell, script[i.toNat]? = some cell := ⟨_, List.getElem?_eq_getElem (by omega)⟩
          refine x_ixL (j := i.toNat) (by assumption) hs (by omega) hc (fun w hw => ?_)
          have hw : w = .int cell := hw
          subst hw
          walk_at "x"
          have hcell : ((if cell < 0 then -cell else cell) : Int) ≥ 0 := by split <;> omega
          refine x_iteD (fun h2 => ?_) (fun h2 => ?_)
          · walk_at "x"
            refine nxt _ _ _ _ _ _ _ rfl ?_ ?_ (by assumption) <;> omega
          · have h2' : ((if cell < 0 then -cell else cell) : Int) < 10 ^ 18 := by
              have : ((10 : Int) ^ (18 : Int).toNat) = 10 ^ 18 := rfl
              omega
            walk_at "x"
            refine nxt _ _ _ _ _ _ _ rfl ?_ ?_ (by assumption) <;> omega
        · walk_at "x"
          exact nxt _ _ _ _ _ _ _ rfl hi hb (by assumption)
      · walk_at "x"
        exact nxt _ _ _ _ _ _ _ rfl hi hb (by assumption)
    · rintro σ' H' ⟨i, b, c, z, u, rfl, hi, hb, O'⟩
      walk_at "x"
      refine x_iteD (fun h0 => ?_) (fun h0 => ?_)
      · walk_at "x"
        refine fin _ _ _ _ _ _ _ (Int.emod_nonneg _ ?_) (Int.emod_lt_of_pos _ n0) hs ?_ ?_ (by assumption)
        · omega
        · omega
        · exact Int.ediv_nonneg hb (by omega)
      · walk_at "x"
        refine fin _ _ _ _ _ _ _ (Int.emod_nonneg _ ?_) (Int.emod_lt_of_pos _ n0) hs ?_ ?_ (by assumption) <;> omega
abbrev sPo : Stmt := top 19
abbrev NPo : List Str := ["script"]
theorem scPo : FnScope NPo ["script"] (defScope sPo) := ⟨rfl, rfl, rfl, by decide +kernel, rfl, by decide +kernel, by decide +kernel⟩
theorem ok_Po {f : Addr} {fd : FuncData} (F : Fun K "_law_pool" "_law_pool" sPo f fd) (T : Bi mg) : FnOk P w K mg base CX0 1 f fd ["script"] (spPool K) := by
  refine F.ok scPo (fun vs H Q E h => ?_) (fun cdv A outer s H vs Q E hr h => ?_)
  · obtain ⟨a, ns, F, m, rfl, _⟩ := h
    rfl
  · obtain ⟨a, ns, F, m, rfl, hs, O, k⟩ := h
    refine ⟨_, 
    (pss_one (ps_ret (pe_lst (pa_cons (pe_callTy (T := "list") (r := rListOf K) cr_list (by rfl) T.b_list (by decide +kernel) (pa_cons (pv 0) pa_nil)) (pa_cons pe_int (pa_cons pe_int (pa_cons pe_int (pa_cons pe_int pa_nil)))))))), ?_⟩
    walk_at "x"
    refine ⟨a, ns.map V.int, rfl, .inl hs, fun l hl => ?_⟩
    walk_at "x"
    refine x_ownL (O.new hl) (by show 5 ≤ _; decide) (fun p H' hp O' => ?_)
    walk_at "x"
    exact k p H' _ _ (same_new (O.fresh hl)) O' ⟨.ref l, ns, 0, 0, 0, 1, rfl, ⟨l, _, rfl, upd_same, All2.ofmap⟩, by decide, by decide⟩
abbrev sPi : Stmt := top 21
abbrev NPi : List Str := ["pool", "row"]
theorem scPi : FnScope NPi ["pool", "row"] (defScope sPi) := ⟨rfl, rfl, rfl, by decide +kernel, rfl, by decide +kernel, by decide +kernel⟩
theorem ok_Pi {f fC__law_draw : Addr} {fd fd__law_draw : FuncData} (F : Fun K "_law_pick" "_law_pick" sPi f fd) (T : Bi mg) (C__law_draw : Cal P w K mg base "_law_draw" 1 fC__law_draw fd__law_draw ["pool", "many"] spDraw) : FnOk P w K mg base CX0 2 f fd ["pool", "row"] spPick := by
  refine F.ok scPi (fun vs H Q E h => ?_) (fun cdv A outer s H vs Q E hr h => ?_)
  · obtain ⟨p, o, a, us, F, m, rfl, _⟩ := h
    rfl
  · obtain ⟨p, o, a, us, F, m, rfl, O, hp, ha, hn, hl, k⟩ := h
    refine ⟨_, 
    (pss_one (ps_ret (pe_ix (r := rIxL K) ix_list (pv 1) (pe_call C__law_draw.ok (hr.mono (by first | decide | omega)) rfl C__law_draw.mg C__law_draw.kp C__law_draw.bi .nil pass0 (pa_cons (pv 0) (pa_cons (pe_callB cr_len (by rfl) T.b_len (by decide +kernel) (pa_cons (pv 1) pa_nil)) pa_nil))) (fun _ _ => rfl)))), ?_⟩
    walk_at "x"
    refine ⟨a, us, rfl, .inl (.inl (.inl (O.frz ha))), ?_⟩
    walk_at "x"
    have h0 : 0 < us.length := List.length_pos_iff.mpr hn
    refine ⟨p, o, _, F, m, rfl, O, hp, by omega, by omega, fun r H' o' h1 h2 O' hp' => ?_⟩
    have hr' : r.toNat < us.length := by omega
    refine ⟨a, us, r, us[r.toNat], rfl, rfl, .inl (.inl (O'.frz ha)), atI_of (j := r.toNat) (by omega) (List.getElem?_eq_getElem hr'), ?_⟩
    exact k _ H' o' (List.getElem_mem hr') O' hp'
abbrev sRa : Stmt := top 22
abbrev NRa : List Str := ["pool", "many"]
theorem scRa : FnScope NRa ["pool", "many"] (defScope sRa) := ⟨rfl, rfl, rfl, by decide +kernel, rfl, by decide +kernel, by decide +kernel⟩
theorem ok_Ra {f fC__law_draw : Addr} {fd fd__law_draw : FuncData} (F : Fun K "_law_rare" "_law_rare" sRa f fd) (T : Bi mg) (C__law_draw : Cal P w K mg base "_law_draw" 1 fC__law_draw fd__law_draw ["pool", "many"] spDraw) : FnOk P w K mg base CX0 2 f fd ["pool", "many"] spRare := by
  refine F.ok scRa (fun vs H Q E h => ?_) (fun cdv A outer s H vs Q E hr h => ?_)
  · obtain ⟨p, o, n, F, m, rfl, _⟩ := h
    rfl
  · obtain ⟨p, o, n, F, m, rfl, O, hp, n0, n1, k⟩ := h
    refine ⟨_, 
    (pss_one (ps_ret (pe_cmpR op_eq (pe_call C__law_draw.ok (hr.mono (by first | decide | omega)) rfl C__law_draw.mg C__law_draw.kp C__law_draw.bi .nil pass0 (pa_cons (pv 0) (pa_cons (pv 1) pa_nil))) (pe_op op_sub (pv 1) pe_int) (nomark _)))), ?_⟩
    walk_at "x"
    refine ⟨p, o, _, F, m, rfl, O, hp, n0, n1, fun r H' o' h1 h2 O' hp' => ?_⟩
    walk_at "x"
    exact k _ H' o' O' hp'
abbrev sFe : Stmt := top 23
abbrev NFe : List Str := ["pool", "usual", "most"]
theorem scFe : FnScope NFe ["pool", "usual", "most"] (defScope sFe) := ⟨rfl, rfl, rfl, by decide +kernel, rfl, by decide +kernel, by decide +kernel⟩
theorem ok_Fe {f fC__law_draw fC__law_rare : Addr} {fd fd__law_draw fd__law_rare : FuncData} (F : Fun K "_law_few" "_law_few" sFe f fd) (T : Bi mg) (C__law_draw : Cal P w K mg base "_law_draw" 1 fC__law_draw fd__law_draw ["pool", "many"] spDraw)
    (C__law_rare : Cal P w K mg base "_law_rare" 2 fC__law_rare fd__law_rare ["pool", "many"] spRare) : FnOk P w K mg base CX0 3 f fd ["pool", "usual", "most"] spFew := by
  refine F.ok scFe (fun vs H Q E h => ?_) (fun cdv A outer s H vs Q E hr h => ?_)
  · obtain ⟨p, o, a, b, F, m, rfl, _⟩ := h
    rfl
  · obtain ⟨p, o, a, b, F, m, rfl, O, hp, a0, a1, b0, b1, k⟩ := h
    refine ⟨_, 
    (pss_cons (ps_if (pt_val (pe_call C__law_rare.ok (hr.mono (by first | decide | omega)) rfl C__law_rare.mg C__law_rare.kp C__law_rare.bi .nil pass0 (pa_cons (pv 0) (pa_cons pe_int pa_nil)))) 
      (pss_one (ps_ret (pe_call C__law_draw.ok (hr.mono (by first | decide | omega)) rfl C__law_draw.mg C__law_draw.kp C__law_draw.bi .nil pass0 (pa_cons (pv 0) (pa_cons (pe_op op_add (pv 2) pe_int) pa_nil))))) pss_nil)
    (pss_one (ps_ret (pe_call C__law_draw.ok (hr.mono (by first | decide | omega)) rfl C__law_draw.mg C__law_draw.kp C__law_draw.bi .nil pass0 (pa_cons (pv 0) (pa_cons (pe_op op_add (pv 1) pe_int) pa_nil)))))), ?_⟩
    walk_at "x"
    refine ⟨p, o, _, F, m, rfl, O, hp, by decide, by decide, fun c H' o' O' hp' => ?_⟩
    walk_at "x"
    refine x_ite (fun _ => ?_) (fun _ => ?_)
    · walk_at "x"
      refine ⟨p, o', _, F, m, rfl, O', hp', by omega, by omega, fun r H2 o2 h1 h2 O2 hp2 => ?_⟩
      exact k r H2 o2 h1 (.inr (by omega)) O2 hp2
    · walk_at "x"
      refine ⟨p, o', _, F, m, rfl, O', hp', by omega, by omega, fun r H2 o2 h1 h2 O2 hp2 => ?_⟩
      exact k r H2 o2 h1 (.inl (by omega)) O2 hp2
abbrev sSa : Stmt := top 24
abbrev NSa : List Str := ["got", "due", "k"]
theorem scSa : FnScope NSa ["got", "due"] (defScope sSa) := ⟨rfl, rfl, rfl, by decide +kernel, rfl, by decide +kernel, by decide +kernel⟩
theorem ok_Sa {f : Addr} {fd : FuncData} (F : Fun K "_law_same" "_law_same" sSa f fd) (T : Bi mg) (mgS : mg "_law_same" = some (.ref f)) (bi : Binds K fd ["got", "due"] []) : ∀ n, FnOk P w K mg base CX0 n f fd ["got", "due"] (spSame n)
  | 0 => fn_never
  | n + 1 => by
    have C__law_same : Cal P w K mg base "_law_same" n f fd ["got", "due"] (spSame n) := ⟨ok_Sa F T mgS bi n, mgS, F.kp, bi⟩
    refine F.ok scSa (fun vs H Q E h => ?_) (fun cdv A outer s H vs Q E hr h => ?_)
    · obtain ⟨v, w, F, m, rfl, _⟩ := h
      rfl
    · obtain ⟨v, w, F, m, rfl, O, hS, k⟩ := h
      refine ⟨_, 
    (pss_cons (ps_if (pt_cmpR op_isNon (pv 1) pe_non (nomark _)) 
      (pss_one (ps_ret (pe_cmpR op_isNon (pv 0) pe_non (nomark _)))) pss_nil)
    (pss_cons (ps_if (pt_cmpR op_isB (pv 1) pe_bl (nomark _)) 
      (pss_one (ps_ret (pe_cmpR op_isB (pv 0) pe_bl (nomark _)))) pss_nil)
    (pss_cons (ps_if (pt_cmpR op_isB (pv 1) pe_bl (nomark _)) 
      (pss_one (ps_ret (pe_cmpR op_isB (pv 0) pe_bl (nomark _)))) pss_nil)
    (pss_cons (ps_if (pt_val (pe_callB call_isi (by rfl) T.b_isinstance (by decide +kernel) (pa_cons (pv 1) (pa_cons (pe_bltn (v := .ty "int") (by rfl) T.b_int (by decide +kernel) rfl) pa_nil)))) 
      (pss_one (ps_ret (pe_and (pe_callB call_isi (by rfl) T.b_isinstance (by decide +kernel) (pa_cons (pv 0) (pa_cons (pe_bltn (v := .ty "int") (by rfl) T.b_int (by decide +kernel) rfl) pa_nil))) (pe_and (pe_not (pe_callB call_isi (by rfl) T.b_isinstance (by decide +kernel) (pa_cons (pv 0) (pa_cons (pe_bltn (v := .ty "bool") (by rfl) T.b_bool (by decide +kernel) rfl) pa_nil)))) (pe_one (pe_cmpR op_eq (pv 0) (pv 1) (nomark _))))))) pss_nil)
    (pss_cons (ps_if (pt_val (pe_callB call_isi (by rfl) T.b_isinstance (by decide +kernel) (pa_cons (pv 1) (pa_cons (pe_bltn (v := .ty "str") (by rfl) T.b_str (by decide +kernel) rfl) pa_nil)))) 
      (pss_one (ps_ret (pe_and (pe_callB call_isi (by rfl) T.b_isinstance (by decide +kernel) (pa_cons (pv 0) (pa_cons (pe_bltn (v := .ty "str") (by rfl) T.b_str (by decide +kernel) rfl) pa_nil))) (pe_one (pe_cmpR op_eq (pv 0) (pv 1) (nomark _)))))) pss_nil)
    (Tf.pss_cut (ps_if (pt_val (pe_callB call_isi (by rfl) T.b_isinstance (by decide +kernel) (pa_cons (pv 1) (pa_cons (pe_bltn (v := .ty "tuple") (by rfl) T.b_tuple (by decide +kernel) rfl) pa_nil)))) 
      (pss_one (ps_if (PW.pt (pw_or (pt_not (pt_val (pe_callB call_isi (by rfl) T.b_isinstance (by decide +kernel) (pa_cons (pv 0) (pa_cons (pe_bltn (v := .ty "tuple") (by rfl) T.b_tuple (by decide +kernel) rfl) pa_nil))))) (pw_or1 (pt_cmpR op_ne (pe_callB cr_len (by rfl) T.b_len (by decide +kernel) (pa_cons (pv 0) pa_nil)) (pe_callB cr_len (by rfl) T.b_len (by decide +kernel) (pa_cons (pv 1) pa_nil)) (nomark _))))) 
        (pss_one (ps_ret pe_bl)) pss_nil)) 
      (pss_one (ps_if (PW.pt (pw_or (pt_not (pt_val (pe_callB call_isi (by rfl) T.b_isinstance (by decide +kernel) (pa_cons (pv 0) (pa_cons (pe_bltn (v := .ty "list") (by rfl) T.b_list (by decide +kernel) rfl) pa_nil))))) (pw_or1 (pt_cmpR op_ne (pe_callB cr_len (by rfl) T.b_len (by decide +kernel) (pa_cons (pv 0) pa_nil)) (pe_callB cr_len (by rfl) T.b_len (by decide +kernel) (pa_cons (pv 1) pa_nil)) (nomark _))))) 
        (pss_one (ps_ret pe_bl)) pss_nil)))
    (pss_cons (ps_for PassesOwn.never rfl (pi_range1 (by rfl) T.b_range (pa_cons (pe_callB cr_len (by rfl) T.b_len (by decide +kernel) (pa_cons (pv 1) pa_nil)) pa_nil)) (pg_name (i := 2) scSa.nd rfl (Or.inl rfl)) 
      (pss_one (ps_if (pt_not (pt_val (pe_call C__law_same.ok (hr.mono (by first | decide | omega)) rfl C__law_same.mg C__law_same.kp C__law_same.bi .nil pass0 (pa_cons (pe_ix (r := rIx K) ix_seq (pv 0) (pv 2) (fun _ _ => rfl)) (pa_cons (pe_ix (r := rIx K) ix_seq (pv 1) (pv 2) (fun _ _ => rfl)) pa_nil))))) 
        (pss_one (ps_ret pe_bl)) pss_nil)))
    (pss_one (ps_ret pe_bl))))))))), ?_⟩
      walk_at "x"
      have hS2 : (v = w ∧ atomV w = true) ∨ ∃ j a b vs ws, n = j + 1 ∧ v = .ref a ∧ w = .ref b ∧ All2 (Sim F j) vs ws ∧ vs.length < 16777216 ∧ ((F a = some (.tup vs) ∧ F b = some (.tup ws)) ∨ (F a = some (.lst vs) ∧ F b = some (.lst ws))) := by
        cases n with
        | zero => exact .inl hS
        | succ j =>
          rcases hS with hS | ⟨a, b, vs, ws, h⟩
          · exact .inl hS
          · exact .inr ⟨j, a, b, vs, ws, rfl, h⟩
      rcases hS2 with ⟨rfl, hw⟩ | ⟨j, a, b, vs, ws, rfl, rfl, rfl, hr2, hl, hA⟩
      · cases v with
        | non =>
          refine x_iteT (by simp) ?_
          walk_at "x"
          have z := k H O
          simpa using z
        | bl b =>
          refine x_iteF (by simp) ?_
          walk_at "x"
          cases b with
          | true =>
            refine x_iteT (by simp) ?_
            walk_at "x"
            have z := k H O
            simpa using z
          | false =>
            refine x_iteF (by simp) ?_
            walk_at "x"
            refine x_iteT (by simp) ?_
            walk_at "x"
            have z := k H O
            simpa using z
        | int i =>
          refine x_iteF (by simp) ?_
          walk_at "x"
          refine x_iteF (by simp) ?_
          walk_at "x"
          refine x_iteF (by simp) ?_
          walk_at "x"
          refine x_isi (.int i) (b := true) (by decide +kernel) ?_
          walk_at "x"
          refine x_iteT rfl ?_
          walk_at "x"
          refine x_isi (.int i) (b := true) (by decide +kernel) ?_
          walk_at "x"
          refine x_iteT rfl ?_
          walk_at "x"
          refine x_isi (.int i) (b := false) (by decide +kernel) ?_
          walk_at "x"
          refine x_iteT rfl ?_
          walk_at "x"
          have z := k H O
          simpa using z
        | str y =>
          refine x_iteF (by simp) ?_
          walk_at "x"
          refine x_iteF (by simp) ?_
          walk_at "x"
          refine x_iteF (by simp) ?_
          walk_at "x"
          refine x_isi (.str y) (b := false) (by decide +kernel) ?_
          walk_at "x"
          refine x_iteF rfl ?_
          walk_at "x"
          refine x_isi (.str y) (b := true) (by decide +kernel) ?_
          walk_at "x"
          refine x_iteT rfl ?_
          walk_at "x"
          refine x_isi (.str y) (b := true) (by decide +kernel) ?_
          walk_at "x"
          refine x_iteT rfl ?_
          walk_at "x"
          refine ⟨rfl, ?_⟩
          have z := k H O
          simpa using z
        | byt _ => cases hw
        | flt _ => cases hw
        | ref _ => cases hw
        | ty _ => cases hw
      · have hlw : vs.length = ws.length := hr2.length
        refine x_iteF (by simp) ?_
        walk_at "x"
        refine x_iteF (by simp) ?_
        walk_at "x"
        refine x_iteF (by simp) ?_
        walk_at "x"
        have ty : ∃ t, (t = "tuple" ∨ t = "list") ∧ TyOf K H (.ref b) (.type t) ∧ TyOf K H (.ref a) (.type t) := by
          rcases hA with ⟨ha, hb⟩ | ⟨ha, hb⟩
          · exact ⟨"tuple", .inl rfl, .tup (O.frz hb), .tup (O.frz ha)⟩
          · exact ⟨"list", .inr rfl, .lst (O.frz hb), .lst (O.frz ha)⟩
        obtain ⟨t, ht, tb, ta⟩ := ty
        refine x_isi tb (b := false) (by rcases ht with rfl | rfl <;> decide +kernel) ?_
        walk_at "x"
        refine x_iteF rfl ?_
        walk_at "x"
        refine x_isi tb (b := false) (by rcases ht with rfl | rfl <;> decide +kernel) ?_
        walk_at "x"
        refine x_iteF rfl ?_
        walk_at "x"
        have lenA : ∀ {K' : PySem.W.Frag} {Q' : VK}, Q' (.int vs.length) H → rLen K' [.ref a] H Q' := fun {K' Q'} q => by
          rcases hA with ⟨ha, hb⟩ | ⟨ha, hb⟩
          · exact ⟨a, vs, rfl, .inr (.inl (.inl (O.frz ha))), q⟩
          · exact ⟨a, vs, rfl, .inl (.inl (.inl (O.frz ha))), q⟩
        have lenB : ∀ {K' : PySem.W.Frag} {Q' : VK} {H' : Hp} (O' : Own H' F m), Q' (.int vs.length) H' → rLen K' [.ref b] H' Q' := fun {K' Q' H'} O' q => by
          rcases hA with ⟨ha, hb⟩ | ⟨ha, hb⟩
          · exact ⟨b, ws, rfl, .inr (.inl (.inl (O'.frz hb))), by rw [← hlw]; exact q⟩
          · exact ⟨b, ws, rfl, .inl (.inl (.inl (O'.frz hb))), by rw [← hlw]; exact q⟩
        refine x_cut (fun σ' H' => σ' = [some (.ref a), some (.ref b), none] ∧ Own H' F m) ?_ ?_
        · walk_at "x"
          rcases ht with rfl | rfl
          · refine x_isi tb (b := true) (by decide +kernel) ?_
            walk_at "x"
            refine x_iteT rfl ?_
            walk_at "x"
            refine x_isi ta (b := true) (by decide +kernel) ?_
            walk_at "x"
            refine x_iteF rfl ?_
            walk_at "x"
            refine lenA ?_
            walk_at "x"
            refine lenB O ?_
            walk_at "x"
            refine x_iteDn (fun h => (h rfl).elim) (fun _ => ?_)
            walk_at "x"
            exact ⟨rfl, O⟩
          · refine x_isi tb (b := false) (by decide +kernel) ?_
            walk_at "x"
            refine x_iteF rfl ?_
            walk_at "x"
            refine x_isi ta (b := true) (by decide +kernel) ?_
            walk_at "x"
            refine x_iteF rfl ?_
            walk_at "x"
            refine lenA ?_
            walk_at "x"
            refine lenB O ?_
            walk_at "x"
            refine x_iteDn (fun h => (h rfl).elim) (fun _ => ?_)
            walk_at "x"
            exact ⟨rfl, O⟩
        · rintro σ' H' ⟨rfl, O'⟩
          walk_at "x"
          refine lenB O' ?_
          walk_at "x"
          refine x_doR1 (n := vs.length) O' (by simp) (by omega) (by omega) (fun i σ F' m' => m' = m ∧ ∃ u, σ = [some (.ref a), some (.ref b), u]) ⟨rfl, _, rfl⟩ ?_ ?_
          · rintro i σ' H2 F' m' hi s O2 ⟨rfl, u, rfl⟩
            walk_at "x"
            obtain ⟨x, hx⟩ : ∃ x, vs[i]? = some x := ⟨_, List.getElem?_eq_getElem hi⟩
            obtain ⟨y, hy, hxy⟩ := hr2.get hx
            have itemA : ∀ {K' : PySem.W.Frag} {Q' : VK}, Q' x H2 → rIx K' (.ref a) (.int (i : Int)) H2 Q' := fun {K' Q'} q => by
              rcases hA with ⟨ha, hb⟩ | ⟨ha, hb⟩
              · exact .inr (.inl ⟨a, vs, _, x, rfl, rfl, .inl (.inl (O2.frz (s _ _ ha))), atI_of rfl hx, q⟩)
              · exact .inl ⟨a, vs, _, x, rfl, rfl, .inl (.inl (O2.frz (s _ _ ha))), atI_of rfl hx, q⟩
            have itemB : ∀ {K' : PySem.W.Frag} {Q' : VK}, Q' y H2 → rIx K' (.ref b) (.int (i : Int)) H2 Q' := fun {K' Q'} q => by
              rcases hA with ⟨ha, hb⟩ | ⟨ha, hb⟩
              · exact .inr (.inl ⟨b, ws, _, y, rfl, rfl, .inl (.inl (O2.frz (s _ _ hb))), atI_of rfl hy, q⟩)
              · exact .inl ⟨b, ws, _, y, rfl, rfl, .inl (.inl (O2.frz (s _ _ hb))), atI_of rfl hy, q⟩
            refine itemA ?_
            walk_at "x"
            refine itemB ?_
            walk_at "x"
            refine ⟨x, y, F', _, rfl, O2, hxy.up s, fun H3 O3 => ?_⟩
            walk_at "x"
            refine x_iteF rfl ?_
            walk_at "x"
            exact LI.mk s O3 ⟨rfl, _, rfl⟩
          · rintro σ' H2 F' m' s O2 ⟨rfl, u, rfl⟩
            walk_at "x"
            exact k H2 (O2.back s)
end
end Tf
namespace Tf
open PySem PySem.Spec PyProof.Rows L2
section
variable {P : Program} {w : World} {K : PySem.W.Frag} {mg : Str → Option Value} {base : Heap}
abbrev sTI : Stmt := inClass (top 6) 0
abbrev NTI : List Str := ["self", "rows", "table", "k", "row", "cost", "after"]
theorem scTI : FnScope NTI ["self", "rows"] (defScope sTI) := ⟨rfl, rfl, rfl, by decide +kernel, rfl, by decide +kernel, by decide +kernel⟩
theorem ok_TI {f C : Addr} {fd : FuncData} (F : Fun K "__init__" "TableTask.__init__" sTI f fd) (T : Bi mg) (cl : Cls K C) (nT : NoAttr K C "_table") : FnOk P w K mg base CX0 1 f fd ["self", "rows"] (spTInit C) := by
  refine F.ok scTI (fun vs H Q E h => ?_) (fun cdv A outer s H vs Q E hr h => ?_)
  · obtain ⟨x, dx, v, rows, F, m, rfl, _⟩ := h
    rfl
  · obtain ⟨x, dx, v, rows, F, m, rfl, O, hv, wf, hl, hrl, k⟩ := h
    refine ⟨_, 
    (pss_cons (ps_if (pt_cmpR op_eq (pe_callB cr_len (by rfl) T.b_len (by decide +kernel) (pa_cons (pv 1) pa_nil)) pe_int (nomark _)) 
      (pss_one ps_never) pss_nil)
    (pss_cons (ps_set (i := 2) scTI.nd rfl (Or.inl rfl) (pe_lst pa_nil))
    (pss_cons (ps_for PassesOwn.never rfl (pi_enumS (by rfl) T.b_enumerate (pa_cons (pv 1) pa_nil)) (pg_tup (by rfl) (pgs_cons (pg_name (i := 3) scTI.nd rfl (Or.inl rfl)) (pgs_cons (pg_name (i := 4) scTI.nd rfl (Or.inl rfl)) pgs_nil))) 
      (pss_cons (ps_expr (pe_bm PySem.F.plainAttrs_list PySem.F.slot_list_append PySem.F.type_list_append mt_append (pv 2) (pa_cons (pe_lc (own := [("cost", 5), ("after", 6)]) (g := (gTup K 2 (gCons (gName 5) (gCons (gName 6) gNil)))) (tt := tYes) rfl scTI.nd (pi_seq (pv 4)) (blkOk_by (N := NTI) (sc := defScope sTI) (by decide +kernel)) (fun _ _ _ _ _ => (pg_tup (by rfl) (pgs_cons (pg_name (i := 5) scTI.nd rfl (Or.inl rfl)) (pgs_cons (pg_name (i := 6) scTI.nd rfl (Or.inl rfl)) pgs_nil)))) (fun _ _ _ _ _ => pts_nil) (fun _ _ _ _ _ => (pe_tup (pa_cons (pv 5) (pa_cons (pv 6) pa_nil))))) pa_nil)))
      (pss_one (ps_for PassesOwn.never rfl (pi_list (pe_ix (r := rIxL K) ix_list (pv 2) (pv 3) (fun _ _ => rfl))) (pg_tup (by rfl) (pgs_cons (pg_name (i := 5) scTI.nd rfl (Or.inl rfl)) (pgs_cons (pg_name (i := 6) scTI.nd rfl (Or.inl rfl)) pgs_nil))) 
        (pss_one (ps_if (PW.pt (pw_or (pt_cmpR op_lt (pv 5) pe_int (nomark _)) (pw_or (pt_cmpR op_le (pv 6) (pv 3) (nomark _)) (pw_or1 (pt_cmpR op_ge (pv 6) (pe_callB cr_len (by rfl) T.b_len (by decide +kernel) (pa_cons (pv 1) pa_nil)) (nomark _)))))) 
          (pss_one ps_never) pss_nil))))))
    (pss_one (ps_fld (pv 0) (pv 2) rfl))))), ?_⟩
    walk_at "x"
    refine x_lenS O hv ?_
    walk_at "x"
    refine x_iteD (fun h0 => ?_) (fun _ => ?_)
    · have := wf.1
      omega
    walk_at "x"
    refine x_ownL (vs := []) O (Nat.zero_le _) (fun tl H1 htl O1 => ?_)
    walk_at "x"
    refine x_doE O1 hv (fun i σ F' m' => ∃ us a b c d, σ = [some (.ref x), some v, some (.ref tl), a, b, c, d] ∧ m' = (tl, .lst us) :: (x, .ins C dx []) :: m ∧ All2 (rRow F') (rows.take i) us) ⟨[], _, _, _, _, rfl, rfl, by simp; exact .nil⟩ ?_ ?_ ?_
    · rintro i row z σ' H' F' m' hi hz s O' ⟨us, a, b, c, d, rfl, rfl, hus⟩
      refine x_gpair O' hz (fun u1 u2 hu1 hu2 => ?_)
      have hu1 : u1 = .int (i : Int) := hu1
      subst hu1
      walk_at "x"
      have il : i < rows.length := (List.getElem?_eq_some_iff.mp hi).1
      have hul : us.length = i := by
        have := hus.length
        simp at this
        omega
      refine ⟨ty_list O'.at0, ?_⟩
      walk_at "x"
      refine x_docS (S := rPair rInt rNat) O' hu2 (fun j F1 m1 ys => m1 = (tl, .lst us) :: (x, .ins C dx []) :: m ∧ ys = row.take j) ⟨rfl, by simp⟩ ?_ ?_
      · rintro D acc j p z1 H1 F1 m1 ys hj hz1 s1 O1 hacc hylen ⟨rfl, rfl⟩
        refine x_gpair O1 hz1 (fun u3 u4 hu3 hu4 => ?_)
        have hu3 : u3 = .int p.1 := hu3
        have hu4 : u4 = .int (p.2 : Int) := hu4
        subst hu3 hu4
        walk_at "x"
        refine ⟨rfl, ?_⟩
        walk_at "x"
        refine x_iteT rfl ?_
        walk_at "x"
        refine x_newPair (R := rInt) (S := rNat) (x := p.1) (y := p.2) O1 rfl rfl (fun v2 H2 F2 s2 O2 hv2 => ?_)
        have jl : j < row.length := (List.getElem?_eq_some_iff.mp hj).1
        have := hrl row (List.mem_of_getElem? hi)
        refine x_keep O2 (s1.trans s2) hv2 (all2_up s2 hacc) hylen (by omega) ⟨rfl, ?_⟩
        rw [List.take_add_one, hj]
        rfl
      · rintro v2 H2 F2 m2 ys s2 O2 hv2 ⟨rfl, rfl⟩
        rw [List.take_length] at hv2
        walk_at "x"
        refine x_append O2 (by omega) (fun H3 O3 => ?_)
        have hus2 : All2 (rRow F2) (rows.take (i + 1)) (us ++ [v2]) := by
          rw [List.take_add_one, hi]
          exact (all2_up s2 hus).snoc hv2
        walk_at "x"
        refine x_ixO (w := v2) (j := i) O3 rfl (by rw [List.getElem?_append_right (by omega), hul]; simp) ?_
        refine x_doL (R := rPair rInt rNat) O3 hv2 (fun j σ F3 m3 => ∃ c d, σ = [some (.ref x), some v, some (.ref tl), some (.int (i : Int)), some u2, c, d] ∧ m3 = (tl, .lst (us ++ [v2])) :: (x, .ins C dx []) :: m) ⟨_, _, rfl, rfl⟩ ?_ ?_
        · rintro j p z1 σ1 H1 F1 m1 hj hz1 s1 O1 ⟨c1, d1, rfl, rfl⟩
          refine x_gpair O1 hz1 (fun u3 u4 hu3 hu4 => ?_)
          have hu3 : u3 = .int p.1 := hu3
          have hu4 : u4 = .int (p.2 : Int) := hu4
          subst hu3 hu4
          have hp := wf.2 i row hi p (List.mem_of_getElem? hj)
          walk_at "x"
          refine x_iteD (fun h => by omega) (fun _ => ?_)
          walk_at "x"
          refine x_iteD (fun h => by omega) (fun _ => ?_)
          walk_at "x"
          refine x_lenS O1 (up (s.trans (s2.trans s1)) hv) ?_
          walk_at "x"
          refine x_iteD (fun h => by omega) (fun _ => ?_)
          walk_at "x"
          exact LI.mk s1 O1 ⟨_, _, rfl, rfl⟩
        · rintro σ1 H1 F1 m1 s1 O1 ⟨c1, d1, rfl, rfl⟩
          walk_at "x"
          exact LI.mk (s.trans (s2.trans s1)) O1 ⟨_, _, _, _, _, rfl, rfl, all2_up s1 hus2⟩
    · rintro σ1 H1 F1 m1 s1 O1 ⟨us, a, b, c, d, rfl, rfl, hus⟩
      rw [List.take_length] at hus
      walk_at "x"
      have O2 := O1.swap
      refine x_setF O2 cl nT (by show 0 < 1000; decide) (fun H3 O3 => ?_)
      have O4 := O3.swap.freeze
      have s4 : Same F1 (upd F1 tl (.lst us)) := O3.swap.freeze_same
      exact k _ _ _ (s1.trans s4) O4 ⟨tl, us, rfl, upd_same, all2_up s4 hus⟩
    · rintro i σ' F1 F2 m1 s ⟨us, a, b, c, d, e1, e2, h⟩
      exact ⟨us, a, b, c, d, e1, e2, all2_up s h⟩
abbrev sTF : Stmt := inClass (top 6) 1
abbrev NTF : List Str := ["self"]
theorem scTF : FnScope NTF ["self"] (defScope sTF) := ⟨rfl, rfl, rfl, by decide +kernel, rfl, by decide +kernel, by decide +kernel⟩
theorem ok_TF {f C : Addr} {fd : FuncData} (F : Fun K "first" "TableTask.first" sTF f fd) : FnOk P w K mg base CX0 1 f fd ["self"] (spTFirst C) := by
  refine F.ok scTF (fun vs H Q E h => ?_) (fun cdv A outer s H vs Q E hr h => ?_)
  · obtain ⟨v, rows, F, m, rfl, _⟩ := h
    rfl
  · obtain ⟨v, rows, F, m, rfl, O, hv, k⟩ := h
    refine ⟨_, 
    (pss_one (ps_ret pe_int)), ?_⟩
    walk_at "x"
    exact k
abbrev sTE : Stmt := inClass (top 6) 2
abbrev NTE : List Str := ["self", "state"]
theorem scTE : FnScope NTE ["self", "state"] (defScope sTE) := ⟨rfl, rfl, rfl, by decide +kernel, rfl, by decide +kernel, by decide +kernel⟩
theorem ok_TE {f C : Addr} {fd : FuncData} (F : Fun K "is_end" "TableTask.is_end" sTE f fd) (T : Bi mg) (cl : Cls K C) (nT : NoAttr K C "_table") : FnOk P w K mg base CX0 1 f fd ["self", "state"] (spTEnd C) := by
  refine F.ok scTE (fun vs H Q E h => ?_) (fun cdv A outer s H vs Q E hr h => ?_)
  · obtain ⟨v, rows, k, F, m, rfl, _⟩ := h
    rfl
  · obtain ⟨v, rows, j, F, m, rfl, O, ⟨a, dx, t, rfl, ha, ht⟩, k⟩ := h
    refine ⟨_, 
    (pss_one (ps_ret (pe_cmpR op_eq (pv 1) (pe_op op_sub (pe_callB cr_len (by rfl) T.b_len (by decide +kernel) (pa_cons (pe_fld (pv 0) rfl) pa_nil)) pe_int) (nomark _)))), ?_⟩
    walk_at "x"
    refine x_fldF O ha cl nT lk_eq ?_
    walk_at "x"
    refine x_lenL O ht ?_
    walk_at "x"
    have e : decide ((j : Int) = (rows.length : Int) - 1) = decide (j + 1 = rows.length) := by
      by_cases h : j + 1 = rows.length
      · rw [decide_eq_true h, decide_eq_true (by omega)]
      · rw [decide_eq_false h, decide_eq_false (by omega)]
    rw [e]
    exact k
abbrev sTS : Stmt := inClass (top 6) 3
abbrev NTS : List Str := ["self", "state"]
theorem scTS : FnScope NTS ["self", "state"] (defScope sTS) := ⟨rfl, rfl, rfl, by decide +kernel, rfl, by decide +kernel, by decide +kernel⟩
theorem ok_TS {f C : Addr} {fd : FuncData} (F : Fun K "steps" "TableTask.steps" sTS f fd) (T : Bi mg) (cl : Cls K C) (nT : NoAttr K C "_table") : FnOk P w K mg base CX0 1 f fd ["self", "state"] (spTSteps C) := by
  refine F.ok scTS (fun vs H Q E h => ?_) (fun cdv A outer s H vs Q E hr h => ?_)
  · obtain ⟨v, rows, k, row, F, m, rfl, _⟩ := h
    rfl
  · obtain ⟨v, rows, j, row, F, m, rfl, O, ⟨a, dx, t, rfl, ha, ht⟩, hrow, k⟩ := h
    refine ⟨_, 
    (pss_one (ps_ret (pe_callTy (T := "list") (r := rListOf K) cr_list (by rfl) T.b_list (by decide +kernel) (pa_cons (pe_ix (r := rIxL K) ix_list (pe_fld (pv 0) rfl) (pv 1) (fun _ _ => rfl)) pa_nil)))), ?_⟩
    walk_at "x"
    refine x_fldF O ha cl nT lk_eq ?_
    walk_at "x"
    refine x_ixL (R := rRow) (j := j) O ht rfl hrow (fun w hw => ?_)
    walk_at "x"
    refine x_listL O hw (fun w' H' F' s O' hw' => ?_)
    walk_at "x"
    exact k w' H' F' s O' hw'
abbrev sTR : Stmt := inClass (top 6) 4
abbrev NTR : List Str := ["self", "state"]
theorem scTR : FnScope NTR ["self", "state"] (defScope sTR) := ⟨rfl, rfl, rfl, by decide +kernel, rfl, by decide +kernel, by decide +kernel⟩
theorem ok_TR {f : Addr} {fd : FuncData} (F : Fun K "rank" "TableTask.rank" sTR f fd) : FnOk P w K mg base CX0 1 f fd ["self", "state"] spTRank := by
  refine F.ok scTR (fun vs H Q E h => ?_) (fun cdv A outer s H vs Q E hr h => ?_)
  · obtain ⟨v, k, rfl, _⟩ := h
    rfl
  · obtain ⟨v, j, rfl, k⟩ := h
    refine ⟨_, 
    (pss_one (ps_ret (pv 1))), ?_⟩
    walk_at "x"
    exact k
abbrev sSR : Stmt := top 7
abbrev NSR : List Str := ["task", "found", "waiting", "state", "_", "after"]
theorem scSR : FnScope NSR ["task"] (defScope sSR) := ⟨rfl, rfl, rfl, by decide +kernel, rfl, by decide +kernel, by decide +kernel⟩
theorem ok_SR {f C f1 f2 : Addr} {fd fd1 fd2 : FuncData} (F : Fun K "steps_of_reached" "steps_of_reached" sSR f fd) (T : Bi mg) (M_TableTask_first : Met P w K mg base C "first" 1 f1 fd1 ["self"] (spTFirst C)) (M_TableTask_steps : Met P w K mg base C "steps" 1 f2 fd2 ["self", "state"] (spTSteps C)) : FnOk P w K mg base CX0 2 f fd ["task"] (spReached C) := by
  refine F.ok scSR (fun vs H Q E h => ?_) (fun cdv A outer s H vs Q E hr h => ?_)
  · obtain ⟨v, rows, F, m, rfl, _⟩ := h
    rfl
  · obtain ⟨v, rows, F, m, rfl, O, hv, wf, hN, k⟩ := h
    have hu := hu_of hr
    refine ⟨_, 
    (pss_cons (ps_set (i := 1) scSR.nd rfl (Or.inl rfl) pe_dnewK)
    (pss_cons (ps_set (i := 2) scSR.nd rfl (Or.inl rfl) (pe_lst (pa_cons (pe_meth0 (pv 0) M_TableTask_first.cl M_TableTask_first.me M_TableTask_first.ok (hr.mono (by first | decide | omega)) M_TableTask_first.bi .nil pass0) pa_nil)))
    (pss_cons (ps_while PassesOwn.never (pt_tru (pv 2) (by intro _; rfl)) 
      (pss_cons (ps_set (i := 3) scSR.nd rfl (Or.inl rfl) (pe_bm0 PySem.F.plainAttrs_list PySem.F.slot_list_pop PySem.F.type_list_pop mt_pop (pv 2)))
      (pss_one (ps_if (pt_cmp (pc_dnotin hu (pv 3) (pv 1))) 
        (pss_cons (ps_dput hu (pv 1) (pv 3) (pe_meth (pv 0) M_TableTask_steps.cl M_TableTask_steps.me M_TableTask_steps.ok (hr.mono (by first | decide | omega)) M_TableTask_steps.bi .nil pass0 (pa_cons (pv 3) pa_nil)) rfl)
        (pss_one (ps_expr (pe_bm PySem.F.plainAttrs_list PySem.F.slot_list_extend PySem.F.type_list_extend mt_extend (pv 2) (pa_cons (pe_lc (own := [("_", 4), ("after", 5)]) (g := (gTup K 2 (gCons (gName 4) (gCons (gName 5) gNil)))) (tt := tYes) rfl scSR.nd (pi_list (pe_dget hu (pv 1) (pv 3) (fun _ _ => rfl))) (blkOk_by (N := NSR) (sc := defScope sSR) (by decide +kernel)) (fun _ _ _ _ _ => (pg_tup (by rfl) (pgs_cons (pg_name (i := 4) scSR.nd rfl (Or.inl rfl)) (pgs_cons (pg_name (i := 5) scSR.nd rfl (Or.inl rfl)) pgs_nil)))) (fun _ _ _ _ _ => pts_nil) (fun _ _ _ _ _ => (pv 5))) pa_nil))))) pss_nil))))
    (pss_one (ps_ret (pv 1)))))), ?_⟩
    walk_at "x"
    refine x_dnew O (fun fdd H1 hn1 O1 => ?_)
    walk_at "x"
    obtain ⟨a, dx, t, rfl, ha, ht⟩ := id hv
    refine mq_of (O1.frz ha) (lk_ne (by decide +kernel)) ?_
    walk_at "x"
    refine ⟨.ref a, rows, F, _, rfl, O1, hv, ?_⟩
    walk_at "x"
    refine x_ownL O1 (by show 1 ≤ _; decide) (fun wl H2 hn2 O2 => ?_)
    walk_at "x"
    refine x_while O2 (fun n σ F' m' => ∃ (kvs : List (Key × V)) (d : List (Int × Row)) (ws : List Nat) (u1 u2 u3 : Option V), σ = [some (.ref a), some (.ref fdd), some (.ref wl), u1, u2, u3] ∧ m' = (wl, .lst (ws.map fun j : Nat => V.int (j : Int))) :: (fdd, .dK kvs) :: m ∧ kvR rRow F' d kvs ∧
      (d.map (·.1)).Nodup ∧ (∀ p ∈ d, ∃ j : Nat, p.1 = (j : Int) ∧ rows[j]? = some p.2 ∧ Reach rows j) ∧ (∀ j ∈ ws, Reach rows j) ∧ (∀ p ∈ d, ∀ q ∈ p.2, (q.2 : Int) ∈ d.map (·.1) ∨ q.2 ∈ ws) ∧ ((0 : Int) ∈ d.map (·.1) ∨ 0 ∈ ws) ∧ n = ws.length + wt rows (d.map (·.1)) ∧ n < 1000001)
      _ ⟨[], [], [0], _, _, _, rfl, rfl, .nil, List.nodup_nil, fun _ h => (nomatch h), fun j h => by
        rw [List.mem_singleton.mp h]
        exact .first, fun _ h => (nomatch h), .inr List.mem_cons_self, rfl, by
        have := wt_nil rows
        simp
        omega⟩ ?_
    rintro n σ' H' F' m' s O' ⟨kvs, d, ws, u1, u2, u3, rfl, rfl, hk, hnd, hent, hws, hcl, h0, hn, hn1⟩
    walk_at "x"
    refine tq_list O'.at0 ?_
    rcases List.eq_nil_or_concat ws with rfl | ⟨ws, j, rfl⟩
    · refine x_iteF rfl ?_
      walk_at "x"
      have O3 := O'.tail
      obtain ⟨O4, s4, h4⟩ := freezeD O3 hk
      refine k _ _ _ d (s.trans s4) O4 h4 ⟨hnd, fun p hp => ?_, fun j => ⟨fun hj => ?_, fun hj => ?_⟩⟩
      · obtain ⟨j, e1, e2, _⟩ := hent p hp
        exact ⟨j, e1, e2⟩
      · obtain ⟨p, hp, e⟩ := List.mem_map.mp hj
        obtain ⟨i, e1, e2, e3⟩ := hent p hp
        have : i = j := by omega
        exact this ▸ e3
      · induction hj with
        | first =>
          rcases h0 with h | h
          · exact h
          · cases h
        | @step i row p hi hrow hp ih =>
          obtain ⟨q, hq, e⟩ := List.mem_map.mp ih
          obtain ⟨i2, e1, e2, _⟩ := hent q hq
          have : i2 = i := by omega
          subst this
          rw [hrow] at e2
          have e3 := Option.some.inj e2
          rcases hcl q hq p (e3 ▸ hp) with h | h
          · exact h
          · cases h
    · refine x_iteT (by simp) ?_
      refine ⟨_, fun _ _ h => h, ?_⟩
      rw [List.concat_eq_append] at O' hws hcl h0 hn
      have em : ((ws ++ [j]).map fun j : Nat => V.int (j : Int)) = (ws.map fun j : Nat => V.int (j : Int)) ++ [V.int (j : Int)] := by simp
      rw [em] at O'
      walk_at "x"
      refine ⟨ty_list O'.at0, x_pop O' (fun H3 O3 => ?_)⟩
      walk_at "x"
      have hj := hws j (by simp)
      have hj' := hj.lt wf
      obtain ⟨row, hrow⟩ := wf.row hj'
      have hnl : n = ws.length + 1 + wt rows (d.map (·.1)) := by
        rw [hn, List.length_append]
        rfl
      refine x_dinO O3.swap hk ?_
      walk_at "x"
      cases hg : getD d (j : Int) with
      | some row2 =>
        refine x_iteF rfl ?_
        walk_at "x"
        have hm : (j : Int) ∈ d.map (·.1) := List.mem_map.mpr ⟨_, getD_mem hg, rfl⟩
        refine ⟨ws.length + wt rows (d.map (·.1)), by omega, LI.mk s O3 ⟨kvs, d, ws, _, _, _, rfl, rfl, hk, hnd, hent, fun i hi => hws i (List.mem_append_left _ hi), fun p hp q hq => ?_, ?_, rfl, by omega⟩⟩
        · rcases hcl p hp q hq with h | h
          · exact .inl h
          · rcases List.mem_append.mp h with h | h
            · exact .inr h
            · rw [List.mem_singleton.mp h]
              exact .inl hm
        · rcases h0 with h | h
          · exact .inl h
          · rcases List.mem_append.mp h with h | h
            · exact .inr h
            · rw [← List.mem_singleton.mp h] at hm
              exact .inl hm
      | none =>
        refine x_iteT rfl ?_
        have hm : (j : Int) ∉ d.map (·.1) := getD_none.mp hg
        walk_at "x"
        refine mq_of (O3.frz (s _ _ ha)) (lk_ne (by decide +kernel)) ?_
        walk_at "x"
        refine ⟨.ref a, rows, j, row, F', _, rfl, O3, up s hv, hrow, fun rv H4 F4 s4 O4 hrv => ?_⟩
        walk_at "x"
        have hput : putD d (j : Int) row = d ++ [((j : Int), row)] := by
          unfold putD
          rw [if_neg]
          intro h
          obtain ⟨p, hp, e⟩ := List.any_eq_true.mp h
          exact hm (List.mem_map.mpr ⟨p, hp, of_decide_eq_true e⟩)
        have hdl : d.length ≤ rows.length := by
          have := nodup_len rows.length (d.map (·.1)) hnd fun x hx => by
            obtain ⟨p, hp, e⟩ := List.mem_map.mp hx
            obtain ⟨i, e1, e2, e3⟩ := hent p hp
            have := e3.lt wf
            omega
          rw [List.length_map] at this
          exact this
        refine x_dputO O4.swap (hk.up s4) hrv (by omega) (fun kvs' H5 hk5 O5 => ?_)
        rw [hput] at hk5
        walk_at "x"
        refine ⟨ty_list O5.swap.at0, ?_⟩
        walk_at "x"
        refine x_dgetO O5 hk5 (x := row) (by rw [getD_app, hg]; simp [getD_cons]) (fun rv2 hrv2 => ?_)
        refine x_docL (S := rNat) O5 hrv2 (fun i F1 m1 ys => m1 = (fdd, .dK kvs') :: (wl, .lst (ws.map fun j : Nat => V.int (j : Int))) :: m ∧ ys = (row.take i).map (·.2)) ⟨rfl, by simp⟩ ?_ ?_
        · rintro D acc i p z H6 F6 m6 ys hi hz s6 O6 hacc hyl ⟨rfl, rfl⟩
          refine x_gpair O6 hz (fun u3 u4 hu3 hu4 => ?_)
          have hu4 : u4 = .int (p.2 : Int) := hu4
          subst hu4
          walk_at "x"
          refine ⟨rfl, ?_⟩
          walk_at "x"
          refine x_iteT rfl ?_
          walk_at "x"
          have il : i < row.length := (List.getElem?_eq_some_iff.mp hi).1
          have h3 := wt_add (ks := d.map (·.1)) hrow hm
          refine x_keep (S := rNat) (z := p.2) O6 s6 rfl hacc hyl (by omega) ⟨rfl, ?_⟩
          rw [List.take_add_one, hi]
          simp
        · rintro ev H6 F6 m6 ys s6 O6 hev ⟨rfl, rfl⟩
          rw [List.take_length] at hev
          obtain ⟨eb, us, rfl, heb, hus⟩ := hev
          walk_at "x"
          have eus : us = (row.map (·.2)).map fun j : Nat => V.int (j : Int) := All2.eqmap (f := fun j : Nat => V.int (j : Int)) hus
          subst eus
          have h3 := wt_add (ks := d.map (·.1)) hrow hm
          refine x_extend O6.swap heb (by simp; omega) (fun H7 O7 => ?_)
          walk_at "x"
          have ks' : (d ++ [((j : Int), row)]).map (·.1) = d.map (·.1) ++ [(j : Int)] := by simp
          refine ⟨(ws ++ row.map (·.2)).length + wt rows ((d ++ [((j : Int), row)]).map (·.1)), ?_, LI.mk (s.trans (s4.trans s6)) O7 ⟨kvs', d ++ [((j : Int), row)], ws ++ row.map (·.2), _, _, _, rfl, by simp, hk5.up s6, ?_, ?_, ?_, ?_, ?_, rfl, ?_⟩⟩
          · rw [ks', List.length_append, List.length_map]
            omega
          · rw [ks']
            exact nd_snoc hnd hm
          · intro p hp
            rcases List.mem_append.mp hp with h | h
            · exact hent p h
            · rw [List.mem_singleton.mp h]
              exact ⟨j, rfl, hrow, hj⟩
          · intro i hi
            rcases List.mem_append.mp hi with h | h
            · exact hws i (List.mem_append_left _ h)
            · obtain ⟨q, hq, rfl⟩ := List.mem_map.mp h
              exact .step hj hrow hq
          · intro p hp q hq
            rw [ks']
            rcases List.mem_append.mp hp with h | h
            · rcases hcl p h q hq with h | h
              · exact .inl (List.mem_append_left _ h)
              · rcases List.mem_append.mp h with h | h
                · exact .inr (List.mem_append_left _ h)
                · rw [List.mem_singleton.mp h]
                  exact .inl (List.mem_append_right _ List.mem_cons_self)
            · rw [List.mem_singleton.mp h] at hq
              exact .inr (List.mem_append_right _ (List.mem_map_of_mem hq))
          · rw [ks']
            rcases h0 with h | h
            · exact .inl (List.mem_append_left _ h)
            · rcases List.mem_append.mp h with h | h
              · exact .inr (List.mem_append_left _ h)
              · have e := List.mem_singleton.mp h
                subst e
                exact .inl (List.mem_append_right _ List.mem_cons_self)
          · rw [ks', List.length_append, List.length_map]
            omega
abbrev sLL : Stmt := top 11
abbrev NLL : List Str := ["steps", "table", "least", "cost", "after", "many", "total"]
theorem scLL : FnScope NLL ["steps", "table"] (defScope sLL) := ⟨rfl, rfl, rfl, by decide +kernel, rfl, by decide +kernel, by decide +kernel⟩
theorem ok_LL {f : Addr} {fd : FuncData} (F : Fun K "least_lengths" "least_lengths" sLL f fd) : FnOk P w K mg base CX0 1 f fd ["steps", "table"] spLeast := by
  refine F.ok scLL (fun vs H Q E h => ?_) (fun cdv A outer s H vs Q E hr h => ?_)
  · obtain ⟨v, w, row, tab, look, B, F, m, rfl, _⟩ := h
    rfl
  · obtain ⟨v, w, row, tab, look, B, F, m, rfl, O, hv, hw, hrow, hB, k⟩ := h
    have hu := hu_of hr
    refine ⟨_, 
    (pss_cons (ps_set (i := 2) scLL.nd rfl (Or.inl rfl) pe_dnewK)
    (pss_cons (ps_for PassesOwn.never rfl (pi_list (pv 0)) (pg_tup (by rfl) (pgs_cons (pg_name (i := 3) scLL.nd rfl (Or.inl rfl)) (pgs_cons (pg_name (i := 4) scLL.nd rfl (Or.inl rfl)) pgs_nil))) 
      (pss_one (ps_lock (ps_for PassesOwn.never rfl (pi_keys (pe_dget hu (pv 1) (pv 4) (fun _ _ => rfl))) (pg_name (i := 5) scLL.nd rfl (Or.inl rfl)) 
        (pss_cons (ps_set (i := 6) scLL.nd rfl (Or.inl rfl) (pe_op op_add (pv 3) (pe_dget hu (pe_dget hu (pv 1) (pv 4) (fun _ _ => rfl)) (pv 5) (fun _ _ => rfl))))
        (pss_one (ps_if (PW.pt (pw_or (pt_cmp (pc_dnotin hu (pe_op op_add (pv 5) pe_int) (pv 2))) (pw_or1 (pt_cmpR op_lt (pv 6) (pe_dget hu (pv 2) (pe_op op_add (pv 5) pe_int) (fun _ _ => rfl)) (nomark _))))) 
          (pss_one (ps_dput hu (pv 2) (pe_op op_add (pv 5) pe_int) (pv 6) rfl)) pss_nil)))))))
    (pss_one (ps_ret (pv 2))))), ?_⟩
    walk_at "x"
    refine x_dnew O (fun ld H1 hn1 O1 => ?_)
    walk_at "x"
    refine x_doL O1 hv (fun i σ F' m' => F' = F ∧ ∃ (kvs : List (Key × V)) (u1 u2 u3 u4 : Option V), σ = [some v, some w, some (.ref ld), u1, u2, u3, u4] ∧ m' = (ld, .dK kvs) :: m ∧ kvR rInt F (leastOf (row.take i) look) kvs)
      ⟨rfl, [], _, _, _, _, rfl, rfl, .nil⟩ ?_ ?_
    · rintro i p z σ' H' F' m' hi hz s O' ⟨rfl, kvs, u1, u2, u3, u4, rfl, rfl, hk⟩
      refine x_gpair O' hz (fun a1 a2 ha1 ha2 => ?_)
      have ha1 : a1 = .int p.1 := ha1
      have ha2 : a2 = .int (p.2 : Int) := ha2
      subst ha1 ha2
      walk_at "x"
      obtain ⟨hg, hkeys⟩ := hrow p (List.mem_of_getElem? hi)
      obtain ⟨tb, kvT, _, rfl, htb, hvT, a, kv1, rfl, ha, hkv⟩ := dictX_at hw hg
      have hacc : Keys (B + 1) (leastOf (row.take i) look) := Keys.of _ _ Keys.nil fun q hq => (hrow q (List.mem_of_mem_take hq)).2
      refine x_lock O' ha (fun od H2 F2 O2 le2 hf2 back => ?_)
      have hR2 : Rd F2 tb (.dK kvT) := le2.dk _ _ (.inl htb)
      walk_at "x"
      refine x_dgetR O2 hR2 hvT ?_
      refine x_doK O2 hf2 hkv (fun j σ F3 m3 => ∃ (kvs : List (Key × V)) (u1 u2 : Option V), σ = [some v, some (.ref tb), some (.ref ld), some (.int p.1), some (.int (p.2 : Int)), u1, u2] ∧ m3 = (ld, .dK kvs) :: m ∧
        kvR rInt F2 ((((look p.2).take j).map (·.1)).foldl (leastStep p.1 (look p.2)) (leastOf (row.take i) look)) kvs) ⟨kvs, _, _, rfl, rfl, hk⟩ ?_ ?_
      · rintro j q σ' H3 F3 m3 hj s3 O3 ⟨kvs3, u5, u6, rfl, rfl, hk3⟩
        walk_at "x"
        refine x_dgetR O3 (rd_same s3 hR2) hvT ?_
        walk_at "x"
        have hqm : q.1 ∈ (look p.2).map (·.1) := List.mem_map_of_mem (List.mem_of_getElem? hj)
        obtain ⟨c, hc⟩ := getD_some hqm
        have hvc : valV kv1 (Sum.inl q.1) = some (.int c) := by
          rcases hkv.get q.1 with ⟨e1, _⟩ | ⟨y, w1, e1, e2, hr⟩
          · rw [hc] at e1
            cases e1
          · rw [hc] at e1
            cases e1
            cases hr
            exact e2
        refine x_dgetR O3 (.inr ⟨od, s3 _ _ hf2⟩) hvc ?_
        walk_at "x"
        have hk3' := hk3.up s3
        have hstep : (((look p.2).take (j + 1)).map (·.1)).foldl (leastStep p.1 (look p.2)) (leastOf (row.take i) look) = leastStep p.1 (look p.2) ((((look p.2).take j).map (·.1)).foldl (leastStep p.1 (look p.2)) (leastOf (row.take i) look)) q.1 := by
          rw [List.take_add_one, hj, List.map_append, List.foldl_append]
          rfl
        have hK : Keys (B + 1) ((((look p.2).take j).map (·.1)).foldl (leastStep p.1 (look p.2)) (leastOf (row.take i) look)) := Keys.fold _ hacc fun x hx => by
          obtain ⟨y, hy, rfl⟩ := List.mem_map.mp hx
          exact hkeys.2 _ (List.mem_map_of_mem (List.mem_of_mem_take hy))
        generalize hA : (((look p.2).take j).map (·.1)).foldl (leastStep p.1 (look p.2)) (leastOf (row.take i) look) = acc at hk3 hk3' hstep hK
        have hlen := hK.len
        refine x_dinO O3 hk3' ?_
        walk_at "x"
        cases hg1 : getD acc (q.1 + 1) with
        | none =>
          refine x_iteT rfl ?_
          walk_at "x"
          refine x_iteT rfl ?_
          walk_at "x"
          refine x_dputO O3 hk3' (x := p.1 + c) (R := rInt) rfl (by omega) (fun kvs4 H4 hk4 O4 => ?_)
          walk_at "x"
          refine LI.mk s3 O4 ?_
          refine ⟨kvs4, _, _, rfl, rfl, ?_⟩
          rw [hstep]
          unfold leastStep
          rw [hg1, hc]
          exact hk4.mono fun _ _ h => h
        | some x =>
          refine x_iteF rfl ?_
          walk_at "x"
          refine x_dgetO O3 hk3' hg1 (fun wx hwx => ?_)
          have hwx : wx = .int x := hwx
          subst hwx
          walk_at "x"
          refine x_iteD (fun hlt => ?_) (fun hlt => ?_)
          · walk_at "x"
            refine x_dputO O3 hk3' (x := p.1 + c) (R := rInt) rfl (by omega) (fun kvs4 H4 hk4 O4 => ?_)
            walk_at "x"
            refine LI.mk s3 O4 ?_
            refine ⟨kvs4, _, _, rfl, rfl, ?_⟩
            rw [hstep]
            unfold leastStep
            rw [hg1, hc]
            dsimp only [Option.getD_some]
            rw [if_pos hlt]
            exact hk4.mono fun _ _ h => h
          · walk_at "x"
            refine LI.mk s3 O3 ?_
            refine ⟨kvs3, _, _, rfl, rfl, ?_⟩
            rw [hstep]
            unfold leastStep
            rw [hg1, hc]
            dsimp only [Option.getD_some]
            rw [if_neg hlt]
            exact hk3.mono fun _ _ h => h
      · rintro σ' H3 F3 m3 s3 O3 ⟨kvs3, u5, u6, rfl, rfl, hk3⟩
        rw [List.take_length] at hk3
        refine x_unlock O3 hf2 back s3 (fun H4 F4 s4 le4 O4 => ?_)
        walk_at "x"
        refine LI.mk (Same.refl _) (O4.back s4) ⟨rfl, kvs3, _, _, _, _, rfl, rfl, ?_⟩
        rw [List.take_add_one, hi]
        show kvR rInt _ (leastOf (row.take i ++ [p]) look) kvs3
        unfold leastOf
        rw [List.foldl_append]
        exact hk3.mono fun _ _ h => h
    · rintro σ' H' F' m' s O' ⟨rfl, kvs, u1, u2, u3, u4, rfl, rfl, hk⟩
      rw [List.take_length] at hk
      walk_at "x"
      exact k ld kvs H' O' hk
abbrev sLI : Stmt := inClass (top 12) 0
abbrev NLI : List Str := ["self", "task", "state"]
theorem scLI : FnScope NLI ["self", "task"] (defScope sLI) := ⟨rfl, rfl, rfl, by decide +kernel, rfl, by decide +kernel, by decide +kernel⟩
theorem ok_LI {f C CT fE fR fS fL : Addr} {fd fdE fdS fdL : FuncData} (F : Fun K "__init__" "Lengths.__init__" sLI f fd) (T : Bi mg) (L : LCls K C) (clT : Cls K CT) (bR : BMeth K CT "rank" fR) (FR : FnR P w K mg base CX0 1 fR (fun vs H Q E => spTRank (vs ++ []) H Q E))
    (M_TableTask_is_end : Met P w K mg base CT "is_end" 1 fE fdE ["self", "state"] (spTEnd CT)) (C_steps_of_reached : Cal P w K mg base "steps_of_reached" 2 fS fdS ["task"] (spReached CT)) (C_least_lengths : Cal P w K mg base "least_lengths" 1 fL fdL ["steps", "table"] spLeast) :
    FnOk P w K mg base CX0 4 f fd ["self", "task"] (spLInit C CT) := by
  refine F.ok scLI (fun vs H Q E h => ?_) (fun cdv A outer s H vs Q E hr h => ?_)
  · obtain ⟨x, dx, v, rows, F, m, rfl, _⟩ := h
    rfl
  · obtain ⟨x, dx, v, rows, F, m, rfl, O, hv, wf, hN, k⟩ := h
    have hu := hu_of hr
    refine ⟨_, 
    (pss_cons (ps_fld (pv 0) (pv 1) rfl)
    (pss_cons (ps_fld (pv 0) (pe_call C_steps_of_reached.ok (hr.mono (by first | decide | omega)) rfl C_steps_of_reached.mg C_steps_of_reached.kp C_steps_of_reached.bi .nil pass0 (pa_cons (pv 1) pa_nil)) rfl)
    (pss_cons (ps_fld (pv 0) pe_dnewK rfl)
    (pss_one (ps_for PassesOwn.never rfl (pi_list (pe_callBK (cr_sortedM (g := fR) (b := true) FR (hr.mono (by decide))) (by rfl) T.b_sorted (by decide +kernel) (pa_cons (pe_callTy (call_list_dK rfl) (by rfl) T.b_list (by decide +kernel) (pa_cons (pe_fld (pv 0) rfl) pa_nil)) pa_nil) (pk_cons (pe_bndM (pv 1) clT bR) (pk_cons pe_bl pk_nil)))) (pg_name (i := 2) scLI.nd rfl (Or.inl rfl)) 
      (pss_one (ps_if (pt_val (pe_meth (pv 1) M_TableTask_is_end.cl M_TableTask_is_end.me M_TableTask_is_end.ok (hr.mono (by first | decide | omega)) M_TableTask_is_end.bi .nil pass0 (pa_cons (pv 2) pa_nil))) 
        (pss_one (ps_dput hu (pe_fld (pv 0) rfl) (pv 2) (pe_disp (pps_cons pe_int pe_int pps_nil) (by rfl) (by rfl) (fun z => by cases z) (by decide)) rfl)) 
        (pss_one (ps_dput hu (pe_fld (pv 0) rfl) (pv 2) (pe_call C_least_lengths.ok (hr.mono (by first | decide | omega)) rfl C_least_lengths.mg C_least_lengths.kp C_least_lengths.bi .nil pass0 (pa_cons (pe_dget hu (pe_fld (pv 0) rfl) (pv 2) (fun _ _ => rfl)) (pa_cons (pe_fld (pv 0) rfl) pa_nil))) rfl))))))))), ?_⟩
    walk_at "x"
    refine x_setF O L.cl L.n1 (by show 0 < 1000; decide) (fun H1 O1 => ?_)
    walk_at "x"
    refine ⟨v, rows, F, _, rfl, O1, hv, wf, hN, fun fv H2 F2 d s2 O2 hfv hd => ?_⟩
    walk_at "x"
    refine x_setF O2 L.cl L.n2 (by show 1 < 1000; decide) (fun H3 O3 => ?_)
    walk_at "x"
    refine x_dnew O3 (fun tb H4 hn4 O4 => ?_)
    walk_at "x"
    refine x_setF O4.swap L.cl L.n3 (by show 2 < 1000; decide) (fun H5 O5 => ?_)
    rw [lF_make] at O5
    walk_at "x"
    refine x_fldO O5.at0 L.cl L.n2 lF_found ?_
    walk_at "x"
    refine x_listD O5 hfv (fun lv H6 F6 s6 O6 hlv => ?_)
    walk_at "x"
    obtain ⟨ta, tdx, tt, rfl, hta, htt⟩ := id hv
    have s26 := s2.trans s6
    refine bm_of O6 (s26 _ _ hta) (lk_ne (by decide +kernel)) (fun q H7 F7 s7 O7 hq => ?_)
    walk_at "x"
    refine x_sortedM O7 (up s7 hlv) hq (fun n hn Q' hQ => ⟨_, n, rfl, hQ⟩) (fun ns' sv H8 F8 hperm hpw s8 O8 hsv => ?_)
    have s28 := s26.trans (s7.trans s8)
    have s68 := s6.trans (s7.trans s8)
    have hnd : ns'.Nodup := hperm.nodup_iff.mpr hd.nd
    have hmem : ∀ n, n ∈ ns' ↔ n ∈ d.map (·.1) := fun n => hperm.mem_iff
    have hpw : ns'.Pairwise (fun x y => y ≤ x) := hpw.imp fun h => by simpa using h
    have hlen : d.length ≤ rows.length := by
      have := nodup_len rows.length (d.map (·.1)) hd.nd fun y hy => by
        obtain ⟨p, hp, e⟩ := List.mem_map.mp hy
        obtain ⟨i, e1, e2⟩ := hd.ent p hp
        have := (List.getElem?_eq_some_iff.mp e2).1
        omega
      rw [List.length_map] at this
      exact this
    have hnl : ns'.length = d.length := by rw [hperm.length_eq, List.length_map]
    refine x_doL O8.swap hsv (fun i σ F' m' => ∃ (kvs : List (Key × V)) (tab : List (Int × List (Int × Int))) (u : Option V), σ = [some (.ref x), some (.ref ta), u] ∧ m' = (tb, .dK kvs) :: (x, .ins C dx (lF (.ref ta) fv (.ref tb))) :: m ∧ kvR rLens F' tab kvs ∧
      tab.map (·.1) = ns'.take i ∧ ∀ p ∈ tab, ∃ j : Nat, p.1 = (j : Int) ∧ j < rows.length ∧ p.2 = lens rows j) ⟨[], [], _, rfl, ?_, .nil, by simp, fun _ h => (nomatch h)⟩ ?_ ?_
    · rfl
    · rintro i n w1 σ' H' F' m' hi hw1 s' O' ⟨kvs, tab, u, rfl, rfl, hk, hkeys, hent⟩
      have hw1 : w1 = .int n := hw1
      subst hw1
      walk_at "x"
      have sF := s28.trans s'
      have il : i < ns'.length := (List.getElem?_eq_some_iff.mp hi).1
      have hnm : n ∈ d.map (·.1) := (hmem n).mp (List.mem_of_getElem? hi)
      obtain ⟨pr, hpr, hpe⟩ := List.mem_map.mp hnm
      obtain ⟨j, e1, hrow⟩ := hd.ent pr hpr
      have hj : n = (j : Int) := by rw [← hpe, e1]
      subst hj
      have jl : j < rows.length := (List.getElem?_eq_some_iff.mp hrow).1
      have htl : tab.length = i := by
        have := congrArg List.length hkeys
        simp at this
        omega
      have hnot : (j : Int) ∉ tab.map (·.1) := by
        rw [hkeys]
        intro h
        obtain ⟨i2, hi2⟩ := List.getElem?_of_mem h
        have hi2' := (List.getElem?_eq_some_iff.mp hi2).1
        simp at hi2'
        rw [List.getElem?_take_of_lt (by omega)] at hi2
        have := nd_ix hnd hi2 hi
        omega
      -- behind the store
      have store : ∀ (x1 : List (Int × Int)) (kvs2 : List (Key × V)) (F2 H2 : Hp), x1 = lens rows j → Same F' F2 → kvR rLens F2 (putD tab (j : Int) x1) kvs2 → Own H2 F2 ((tb, .dK kvs2) :: (x, .ins C dx (lF (.ref ta) fv (.ref tb))) :: m) →
          ∃ (kvs : List (Key × V)) (tab : List (Int × List (Int × Int))) (u : Option V), [some (V.ref x), some (V.ref ta), some (V.int (j : Int))] = [some (.ref x), some (.ref ta), u] ∧ (tb, HO.dK kvs2) :: (x, HO.ins C dx (lF (.ref ta) fv (.ref tb))) :: m = (tb, .dK kvs) :: (x, .ins C dx (lF (.ref ta) fv (.ref tb))) :: m ∧ kvR rLens F2 tab kvs ∧
            tab.map (·.1) = ns'.take (i + 1) ∧ ∀ p ∈ tab, ∃ j : Nat, p.1 = (j : Int) ∧ j < rows.length ∧ p.2 = lens rows j := fun x1 kvs2 F2 H2 hx1 _ hk2 _ => by
        have hput : putD tab (j : Int) x1 = tab ++ [((j : Int), x1)] := by
          unfold putD
          rw [if_neg]
          intro h
          obtain ⟨p, hp, e⟩ := List.any_eq_true.mp h
          exact hnot (List.mem_map.mpr ⟨p, hp, of_decide_eq_true e⟩)
        rw [hput] at hk2
        refine ⟨kvs2, _, _, rfl, rfl, hk2, ?_, fun p hp => ?_⟩
        · rw [List.map_append, hkeys, List.take_add_one, hi]
          rfl
        · rcases List.mem_append.mp hp with h | h
          · exact hent p h
          · rw [List.mem_singleton.mp h]
            exact ⟨j, rfl, jl, hx1⟩
      refine mq_of (O'.frz (sF _ _ hta)) (lk_ne (by decide +kernel)) ?_
      walk_at "x"
      refine ⟨.ref ta, rows, j, F', _, rfl, O', up sF hv, ?_⟩
      walk_at "x"
      refine x_iteD (fun hend => ?_) (fun hend => ?_)
      · walk_at "x"
        refine x_disp1 O' (fun p H9 hn9 O9 => ?_)
        obtain ⟨O10, s10, h10⟩ := freezeD (R := rInt) (d := [(0, 0)]) O9 (.cons ⟨rfl, rfl⟩ .nil)
        walk_at "x"
        refine x_fldO O10.swap.at0 L.cl L.n3 lF_table ?_
        walk_at "x"
        refine x_dputO O10 (hk.up s10) h10 (by omega) (fun kvs2 H11 hk2 O11 => ?_)
        walk_at "x"
        refine LI.mk (s'.trans s10) O11 ?_
        exact store _ _ _ _ (lens_last hend).symm s10 hk2 O11
      · walk_at "x"
        refine x_fldO O'.swap.at0 L.cl L.n2 lF_found ?_
        walk_at "x"
        obtain ⟨row2, hrow2⟩ := getD_some hnm
        have hr2 : row2 = pr.2 := by
          obtain ⟨j2, f1, f2⟩ := hd.ent _ (getD_mem hrow2)
          have : j2 = j := by
            have : ((j : Int)) = (j2 : Int) := f1
            omega
          subst this
          rw [hrow] at f2
          exact (Option.some.inj f2).symm
        subst hr2
        refine x_dgetF O' (dictX (up (s68.trans s') hfv)) hrow2 (fun rv hrv => ?_)
        walk_at "x"
        refine x_fldO O'.swap.at0 L.cl L.n3 lF_table ?_
        walk_at "x"
        have Of := O'.freeze
        have sf := O'.freeze_same
        have hfree : F' tb = none := O'.fr0
        have hlook : ∀ p ∈ pr.2, getD tab (p.2 : Int) = some (lens rows p.2) ∧ Keys rows.length (lens rows p.2) := fun p hp => by
          have hw := wf.2 j _ hrow p hp
          have hre : Reach rows p.2 := .step ((hd.all j).mp hnm) hrow hp
          have hmk : (p.2 : Int) ∈ tab.map (·.1) := by
            rw [hkeys]
            have hm2 : (p.2 : Int) ∈ ns' := (hmem _).mpr ((hd.all p.2).mpr hre)
            obtain ⟨i2, hi2⟩ := List.getElem?_of_mem hm2
            have hi2' := (List.getElem?_eq_some_iff.mp hi2).1
            by_cases hlt : i2 < i
            · exact List.mem_of_getElem? (i := i2) (by rw [List.getElem?_take_of_lt hlt]; exact hi2)
            · exfalso
              by_cases he : i2 = i
              · subst he
                rw [hi] at hi2
                have := Option.some.inj hi2
                omega
              · have := List.pairwise_iff_getElem.mp hpw i i2 il hi2' (by omega)
                rw [(List.getElem?_eq_some_iff.mp hi).2, (List.getElem?_eq_some_iff.mp hi2).2] at this
                omega
          obtain ⟨z, hz⟩ := getD_some hmk
          obtain ⟨j2, f1, f2, f3⟩ := hent _ (getD_mem hz)
          have : j2 = p.2 := by
            have : ((p.2 : Int)) = (j2 : Int) := f1
            omega
          subst this
          exact ⟨by rw [hz]; exact congrArg some f3, (lens_keys wf (rows.length - p.2) p.2 (by omega) (by omega)).mono (by omega)⟩
        refine ⟨rv, .ref tb, pr.2, tab, lens rows, rows.length, _, _, rfl, Of, up sf hrv, ⟨tb, kvs, rfl, upd_same, hk.up sf⟩, hlook, by omega, fun p kl H9 O9 hkl => ?_⟩
        have O10 := O9.thaw hfree
        obtain ⟨O11, s11, h11⟩ := freezeD (R := rInt) (d := leastOf pr.2 (lens rows)) O10.swap (hkl.mono fun _ _ h => h)
        walk_at "x"
        refine x_fldO O11.swap.at0 L.cl L.n3 lF_table ?_
        walk_at "x"
        refine x_dputO O11 (hk.up s11) h11 (by omega) (fun kvs2 H12 hk2 O12 => ?_)
        walk_at "x"
        refine LI.mk (s'.trans s11) O12 ?_
        exact store _ _ _ _ (lens_row wf hrow hend).symm s11 hk2 O12
    · rintro σ' H' F' m' s' O' ⟨kvs, tab, u, rfl, rfl, hk, hkeys, hent⟩
      rw [List.take_length] at hkeys
      walk_at "x"
      obtain ⟨O9, s9, h9⟩ := freezeD O' hk
      refine k H' _ fv (.ref tb) d tab (s28.trans (s'.trans s9)) O9 (up (s68.trans (s'.trans s9)) hfv) hd h9 ⟨by rw [hkeys]; exact hnd, hent, fun j => ?_⟩
      rw [hkeys, hmem]
      exact hd.all j
abbrev sLT : Stmt := inClass (top 12) 1
abbrev NLT : List Str := ["self", "state", "lengths", "many"]
theorem scLT : FnScope NLT ["self", "state"] (defScope sLT) := ⟨rfl, rfl, rfl, by decide +kernel, rfl, by decide +kernel, by decide +kernel⟩
theorem ok_LT {f C CT : Addr} {fd : FuncData} (F : Fun K "_told" "Lengths._told" sLT f fd) (T : Bi mg) (L : LCls K C) : FnOk P w K mg base CX0 1 f fd ["self", "state"] (spTold C CT) := by
  refine F.ok scLT (fun vs H Q E h => ?_) (fun cdv A outer s H vs Q E hr h => ?_)
  · obtain ⟨v, rows, j, F, m, rfl, _⟩ := h
    rfl
  · obtain ⟨v, rows, j, F, m, rfl, O, ⟨a, dx, t, fv, b, d, tab, rfl, ha, ht, hf, hd, hb, hT⟩, wf, hN, hre, k⟩ := h
    have hu := hu_of hr
    refine ⟨_, 
    (pss_cons (ps_set (i := 2) scLT.nd rfl (Or.inr rfl) (pe_dget hu (pe_fld (pv 0) rfl) (pv 1) (fun _ _ => rfl)))
    (pss_one (ps_ret (pe_callTy (T := "tuple") (r := rTupOf K) cr_tup (by rfl) T.b_tuple (by decide +kernel) (pa_cons (pe_lc (own := [("many", 3)]) (g := (gName 3)) (tt := tYes) rfl scLT.nd (pi_list (pe_callB cr_sortedI (by rfl) T.b_sorted (by decide +kernel) (pa_cons (pe_callTy (call_list_dK rfl) (by rfl) T.b_list (by decide +kernel) (pa_cons (pv 2) pa_nil)) pa_nil))) (blkOk_by (N := NLT) (sc := defScope sLT) (by decide +kernel)) (fun _ _ _ _ _ => (pg_name (i := 3) scLT.nd rfl (by first | exact Or.inl rfl | exact Or.inr rfl))) (fun _ _ _ _ _ => pts_nil) (fun _ _ _ _ _ => (pe_tup (pa_cons (pv 3) (pa_cons (pe_dget hu (pv 2) (pv 3) (fun _ _ => rfl)) pa_nil))))) pa_nil))))), ?_⟩
    walk_at "x"
    refine x_fldF O ha L.cl L.n3 lF_table ?_
    walk_at "x"
    have hg : getD tab (j : Int) = some (lens rows j) := by
      obtain ⟨z, hz⟩ := getD_some ((hT.all j).mpr hre)
      obtain ⟨j2, f1, f2, f3⟩ := hT.ent _ (getD_mem hz)
      have : j2 = j := by
        have : ((j : Int)) = (j2 : Int) := f1
        omega
      subst this
      rw [hz]
      exact congrArg some f3
    have hlt := hre.lt wf
    have hK := lens_keys wf (rows.length - j) j (by omega) (by omega)
    have hKl := hK.len
    refine x_dgetF O (dictX hb) hg (fun lv hlv0 => ?_)
    have hlv : rLens F (lens rows j) lv := hlv0
    walk_at "x"
    refine x_listD O hlv (fun w1 H1 F1 s1 O1 hw1 => ?_)
    walk_at "x"
    refine x_sortedL O1 hw1 (fun ns' w2 H2 F2 hp hs s2 O2 hw2 => ?_)
    have hns := sortI_eq hp hs
    subst hns
    refine x_docL (S := rPair rInt rInt) O2 hw2 (fun i F3 m3 ys => m3 = m ∧ ys = ((sortI ((lens rows j).map (·.1))).take i).map fun q => (q, (getD (lens rows j) q).getD 0)) ⟨rfl, by simp⟩ ?_ ?_
    · rintro D acc i q w3 H3 F3 m3 ys hi hw3 s3 O3 hacc hyl ⟨rfl, rfl⟩
      have hw3 : w3 = .int q := hw3
      subst hw3
      walk_at "x"
      refine ⟨rfl, ?_⟩
      walk_at "x"
      refine x_iteT rfl ?_
      walk_at "x"
      have hqm : q ∈ (lens rows j).map (·.1) := (sortI_perm _).mem_iff.mp (List.mem_of_getElem? hi)
      obtain ⟨c, hc⟩ := getD_some hqm
      refine x_dgetF O3 (dictX (up (s1.trans (s2.trans s3)) hlv)) hc (fun w4 hw4 => ?_)
      have hw4 : w4 = .int c := hw4
      subst hw4
      walk_at "x"
      refine x_newPair (R := rInt) (S := rInt) (x := q) (y := c) O3 rfl rfl (fun v4 H4 F4 s4 O4 hv4 => ?_)
      have il : i < (sortI ((lens rows j).map (·.1))).length := (List.getElem?_eq_some_iff.mp hi).1
      rw [(sortI_perm _).length_eq, List.length_map] at il
      refine x_keep O4 (s3.trans s4) hv4 (all2_up s4 hacc) hyl (by omega) ⟨rfl, ?_⟩
      rw [List.take_add_one, hi, List.map_append]
      simp [hc]
    · rintro v4 H4 F4 m4 ys s4 O4 hv4 ⟨rfl, rfl⟩
      rw [List.take_length] at hv4
      walk_at "x"
      refine x_tupL O4 hv4 (fun w5 H5 F5 s5 O5 hw5 => ?_)
      walk_at "x"
      exact k w5 H5 F5 (s1.trans (s2.trans (s4.trans s5))) O5 hw5
abbrev sLS : Stmt := inClass (top 12) 2
abbrev NLS : List Str := ["self"]
theorem scLS : FnScope NLS ["self"] (defScope sLS) := ⟨rfl, rfl, rfl, by decide +kernel, rfl, by decide +kernel, by decide +kernel⟩
theorem ok_LS {f C CT f1 f2 : Addr} {fd fd1 fd2 : FuncData} (F : Fun K "spectrum" "Lengths.spectrum" sLS f fd) (L : LCls K C) (M_Lengths__told : Met P w K mg base C "_told" 1 f1 fd1 ["self", "state"] (spTold C CT)) (M_TableTask_first : Met P w K mg base CT "first" 1 f2 fd2 ["self"] (spTFirst CT)) :
    FnOk P w K mg base CX0 2 f fd ["self"] (spSpec C CT) := by
  refine F.ok scLS (fun vs H Q E h => ?_) (fun cdv A outer s H vs Q E hr h => ?_)
  · obtain ⟨v, rows, F, m, rfl, _⟩ := h
    rfl
  · obtain ⟨v, rows, F, m, rfl, O, hv, wf, hN, k⟩ := h
    obtain ⟨a, dx, t, fv, b, d, tab, rfl, ha, ht, hf, hd, hb, hT⟩ := id hv
    refine ⟨_, 
    (pss_one (ps_ret (pe_meth (pv 0) M_Lengths__told.cl M_Lengths__told.me M_Lengths__told.ok (hr.mono (by first | decide | omega)) M_Lengths__told.bi .nil pass0 (pa_cons (pe_meth0 (pe_fld (pv 0) rfl) M_TableTask_first.cl M_TableTask_first.me M_TableTask_first.ok (hr.mono (by first | decide | omega)) M_TableTask_first.bi .nil pass0) pa_nil)))), ?_⟩
    walk_at "x"
    refine mq_of (O.frz ha) (by rw [lF]; exact (lk_ne (by decide +kernel)).trans ((lk_ne (by decide +kernel)).trans ((lk_ne (by decide +kernel)).trans rfl))) ?_
    walk_at "x"
    refine x_fldF O ha L.cl L.n1 lF_task ?_
    obtain ⟨ta, tdx, tt, rfl, hta, htt⟩ := id ht
    refine mq_of (O.frz hta) (lk_ne (by decide +kernel)) ?_
    walk_at "x"
    refine ⟨.ref ta, rows, F, m, rfl, O, ht, ?_⟩
    walk_at "x"
    exact ⟨.ref a, rows, 0, F, m, rfl, O, hv, wf, hN, .first, k⟩
abbrev sLP : Stmt := inClass (top 12) 3
abbrev NLP : List Str := ["self", "state"]
theorem scLP : FnScope NLP ["self"] (defScope sLP) := ⟨rfl, rfl, rfl, by decide +kernel, rfl, by decide +kernel, by decide +kernel⟩
theorem ok_LP {f C CT f1 : Addr} {fd fd1 : FuncData} (F : Fun K "paper" "Lengths.paper" sLP f fd) (T : Bi mg) (L : LCls K C) (M_Lengths__told : Met P w K mg base C "_told" 1 f1 fd1 ["self", "state"] (spTold C CT)) :
    FnOk P w K mg base CX0 2 f fd ["self"] (spPaper C CT) := by
  refine F.ok scLP (fun vs H Q E h => ?_) (fun cdv A outer s H vs Q E hr h => ?_)
  · obtain ⟨v, rows, F, m, rfl, _⟩ := h
    rfl
  · obtain ⟨v, rows, F, m, rfl, O, hv, wf, hN, k⟩ := h
    obtain ⟨a, dx, t, fv, b, d, tab, rfl, ha, ht, hf, hd, hb, hT⟩ := id hv
    refine ⟨_, 
    (pss_one (ps_ret (pe_callTy (T := "tuple") (r := rTupOf K) cr_tup (by rfl) T.b_tuple (by decide +kernel) (pa_cons (pe_lc (own := [("state", 1)]) (g := (gName 1)) (tt := tYes) rfl scLP.nd (pi_list (pe_callB cr_sortedI (by rfl) T.b_sorted (by decide +kernel) (pa_cons (pe_callTy (call_list_dK rfl) (by rfl) T.b_list (by decide +kernel) (pa_cons (pe_fld (pv 0) rfl) pa_nil)) pa_nil))) (blkOk_by (N := NLP) (sc := defScope sLP) (by decide +kernel)) (fun _ _ _ _ _ => (pg_name (i := 1) scLP.nd rfl (by first | exact Or.inl rfl | exact Or.inr rfl))) (fun _ _ _ _ _ => pts_nil) (fun _ _ _ _ _ => (pe_tup (pa_cons (pv 1) (pa_cons (pe_meth (pv 0) M_Lengths__told.cl M_Lengths__told.me M_Lengths__told.ok (hr.mono (by first | decide | omega)) M_Lengths__told.bi .nil pass0 (pa_cons (pv 1) pa_nil)) pa_nil))))) pa_nil)))), ?_⟩
    walk_at "x"
    refine x_fldF O ha L.cl L.n3 lF_table ?_
    walk_at "x"
    refine x_listD O hb (fun w1 H1 F1 s1 O1 hw1 => ?_)
    walk_at "x"
    refine x_sortedL O1 hw1 (fun ns' w2 H2 F2 hp hs s2 O2 hw2 => ?_)
    have hks : ∀ x ∈ ns', ∃ j : Nat, x = (j : Int) ∧ Reach rows j := fun x hx => by
      obtain ⟨p, hp', e⟩ := List.mem_map.mp (hp.mem_iff.mp hx)
      obtain ⟨j, e1, _⟩ := hT.ent p hp'
      have e2 : x = (j : Int) := by rw [← e, e1]
      exact ⟨j, e2, (hT.all j).mp (e2 ▸ hp.mem_iff.mp hx)⟩
    have hnl : ns'.length ≤ rows.length := nodup_len rows.length ns' (hp.nodup_iff.mpr hT.nd) fun x hx => by
      obtain ⟨j, e, hr⟩ := hks x hx
      have := hr.lt wf
      omega
    refine x_docL (S := rPair rInt rTold) O2 hw2 (fun i F3 m3 ys => m3 = m ∧ ys = (ns'.take i).map fun q => (q, told (lens rows q.toNat))) ⟨rfl, by simp⟩ ?_ ?_
    · rintro D acc i q w3 H3 F3 m3 ys hi hw3 s3 O3 hacc hyl ⟨rfl, rfl⟩
      have hw3 : w3 = .int q := hw3
      subst hw3
      walk_at "x"
      refine ⟨rfl, ?_⟩
      walk_at "x"
      refine x_iteT rfl ?_
      walk_at "x"
      obtain ⟨j, rfl, hre⟩ := hks q (List.mem_of_getElem? hi)
      have sA := s1.trans (s2.trans s3)
      refine mq_of (O3.frz (sA _ _ ha)) (by rw [lF]; exact (lk_ne (by decide +kernel)).trans ((lk_ne (by decide +kernel)).trans ((lk_ne (by decide +kernel)).trans rfl))) ?_
      walk_at "x"
      refine ⟨.ref a, rows, j, F3, _, rfl, O3, up sA hv, wf, hN, hre, fun w4 H4 F4 s4 O4 hw4 => ?_⟩
      walk_at "x"
      refine x_newPair (R := rInt) (S := rTold) (x := (j : Int)) (y := told (lens rows j)) O4 rfl hw4 (fun v5 H5 F5 s5 O5 hv5 => ?_)
      have il : i < ns'.length := (List.getElem?_eq_some_iff.mp hi).1
      refine x_keep O5 (s3.trans (s4.trans s5)) hv5 (all2_up (s4.trans s5) hacc) hyl (by omega) ⟨rfl, ?_⟩
      rw [List.take_add_one, hi, List.map_append]
      simp
    · rintro v4 H4 F4 m4 ys s4 O4 hv4 ⟨rfl, rfl⟩
      rw [List.take_length] at hv4
      walk_at "x"
      refine x_tupL O4 hv4 (fun w5 H5 F5 s5 O5 hw5 => ?_)
      walk_at "x"
      refine k w5 H5 F5 _ (s1.trans (s2.trans (s4.trans s5))) O5 hw5 ⟨ns', hp.nodup_iff.mpr hT.nd, hs, fun x hx => ?_, fun j => ?_, rfl⟩
      · obtain ⟨j, e, _⟩ := hks x hx
        omega
      · rw [hp.mem_iff]
        exact hT.all j
abbrev sGP : Stmt := top 13
abbrev NGP : List Str := ["task"]
theorem scGP : FnScope NGP ["task"] (defScope sGP) := ⟨rfl, rfl, rfl, by decide +kernel, rfl, by decide +kernel, by decide +kernel⟩
theorem ok_GP {f C CT f1 f2 : Addr} {fd fd1 fd2 : FuncData} (F : Fun K "spectra" "spectra" sGP f fd) (L : LCls K C) (MkL : Mk K C f1) (GL : FnOk P w K mg base CX0 4 f1 fd1 ["self", "task"] (spLInit C CT)) (mgL : mg "Lengths" = some (.ref C)) (bL : Binds K fd1 ["self", "task"] [])
    (M_Lengths_paper : Met P w K mg base C "paper" 2 f2 fd2 ["self"] (spPaper C CT)) : FnOk P w K mg base CX0 6 f fd ["task"] (spTopSpectra CT) := by
  refine F.ok scGP (fun vs H Q E h => ?_) (fun cdv A outer s H vs Q E hr h => ?_)
  · obtain ⟨v, rows, F, m, rfl, _⟩ := h
    rfl
  · obtain ⟨v, rows, F, m, rfl, O, hv, wf, hN, k⟩ := h
    refine ⟨_, 
    (pss_one (ps_ret (pe_meth0 (pe_make MkL GL (hr.mono (by first | decide | omega)) rfl mgL bL .nil pass0 (pa_cons (pv 0) pa_nil)) M_Lengths_paper.cl M_Lengths_paper.me M_Lengths_paper.ok (hr.mono (by first | decide | omega)) M_Lengths_paper.bi .nil pass0))), ?_⟩
    walk_at "x"
    refine mk_of O (fun x dx H1 F1 hx s1 O1 => ⟨x, dx, v, rows, F1, m, rfl, O1, up s1 hv, wf, hN, fun H2 F2 fv b d tab s2 O2 hf hd hb hT => ⟨rfl, ?_⟩⟩)
    have O3 := O2.freeze
    have s3 := O2.freeze_same
    have hL : rLengths C CT (upd F2 x (.ins C dx (lF v fv b))) rows (.ref x) := ⟨x, dx, v, fv, b, d, tab, rfl, upd_same, up (s1.trans (s2.trans s3)) hv, up s3 hf, hd, up s3 hb, hT⟩
    refine mq_of (O3.frz upd_same) (by rw [lF]; exact (lk_ne (by decide +kernel)).trans ((lk_ne (by decide +kernel)).trans ((lk_ne (by decide +kernel)).trans rfl))) ?_
    walk_at "x"
    exact ⟨.ref x, rows, _, m, rfl, O3, hL, wf, by omega, fun w4 H4 F4 p s4 O4 hw4 hp => k w4 H4 F4 p (s1.trans (s2.trans (s3.trans s4))) O4 hw4 hp⟩
end
end Tf
namespace Tf
open PySem PySem.Spec PyProof.Rows L2
theorem pairsOk_cons {last : Int} {p : Int × Int} {ps : List (Int × Int)} : pairsOk last (p :: ps) = (decide (last < p.1) && decide (0 ≤ p.2) && pairsOk p.1 ps) := rfl
theorem statesOk_cons {n : Nat} {last : Int} {p : Int × List (Int × Int)} {ps : Pap} : statesOk n last (p :: ps) = (decide (last < p.1) && decide (p.1 < (n : Int)) && statesOk n p.1 ps) := rfl
theorem x_ixS {α : Type} {R : Rp α} {K : PySem.W.Frag} {H F : Hp} {m : Mem} {Q : VK} {v : V} {xs : List α} {z : Int} {j : Nat} {x : α} (O : Own H F m) (h : rSeq R F xs v) (e : z = (j : Int)) (hx : xs[j]? = some x) (k : ∀ w, R F x w → Q w H) : rIx K v (.int z) H Q := by
  rcases h with h | h
  · exact .inl (x_ixL O h e hx k)
  · exact .inr (.inl (x_ixT O h e hx k))
theorem len_step {c : Int} {ls acc : List (Int × Int)} {k : Int} : (leastStep c ls acc k).length ≤ acc.length + 1 := by
  unfold leastStep
  dsimp only
  split
  · exact putD_len
  · split
    · exact putD_len
    · omega
theorem len_fold {c : Int} {ls : List (Int × Int)} : ∀ (ks : List Int) {acc : List (Int × Int)}, (ks.foldl (leastStep c ls) acc).length ≤ acc.length + ks.length
  | [], _ => Nat.le_refl _
  | k :: ks, acc => by
    have h1 := len_fold ks (c := c) (ls := ls) (acc := leastStep c ls acc k)
    have h2 := len_step (c := c) (ls := ls) (acc := acc) (k := k)
    rw [List.foldl_cons, List.length_cons]
    omega
theorem len_of {look : Nat → List (Int × Int)} : ∀ (row : Row), (∀ p ∈ row, (look p.2).length ≤ 5000) → (leastOf row look).length ≤ 5000 * row.length := fun row => by
  unfold leastOf
  have : ∀ (row : Row) (acc : List (Int × Int)), (∀ p ∈ row, (look p.2).length ≤ 5000) → (row.foldl (fun acc p => leastAll p.1 (look p.2) acc) acc).length ≤ acc.length + 5000 * row.length := by
    intro row
    induction row with
    | nil => exact fun acc _ => Nat.le_refl _
    | cons p row ih =>
      intro acc h
      have h1 := ih (leastAll p.1 (look p.2) acc) fun q hq => h q (List.mem_cons_of_mem _ hq)
      have h2 := len_fold (c := p.1) (ls := look p.2) ((look p.2).map (·.1)) (acc := acc)
      have h3 := h p List.mem_cons_self
      rw [List.length_map] at h2
      have h4 : (leastAll p.1 (look p.2) acc).length ≤ acc.length + (look p.2).length := h2
      rw [List.foldl_cons, List.length_cons]
      omega
  intro h
  have := this row [] h
  simpa using this
theorem dict_at {α : Type} {R : Rp α} {F : Hp} {d : List (Int × α)} {v : V} {z : Int} {x : α} (h : rDict R F d v) (e : Tf.getD d z = some x) : ∃ b kvs w, v = .ref b ∧ Rd F b (.dK kvs) ∧ valV kvs (Sum.inl z) = some w ∧ R F x w := by
  obtain ⟨a, kvs, e0, ha, hk⟩ := h
  rcases hk.get z with ⟨e1, _⟩ | ⟨y, w, e1, e2, hr⟩
  · rw [e] at e1
    cases e1
  · rw [e] at e1
    cases e1
    exact ⟨a, kvs, w, e0, ha, e2, hr⟩
def spLeastG : Sp := fun vs H Q _ => ∃ (v w : V) (row : Row) (tab : List (Int × List (Int × Int))) (look : Nat → List (Int × Int)) (F : Hp) (m : Mem), vs = [v, w] ∧ Own H F m ∧ rRow F row v ∧ rDict rLens F tab w ∧ (∀ p ∈ row, getD tab (p.2 : Int) = some (look p.2) ∧ (look p.2).length ≤ 5000) ∧ row.length ≤ 1000 ∧
  ∀ p kvs H', Own H' F ((p, .dK kvs) :: m) → kvR rInt F (leastOf row look) kvs → Q (.ref p) H'
def spHas (CT : Addr) : Sp := fun vs H Q _ => ∃ (v : V) (rows : List Row) (z : Int) (F : Hp) (m : Mem), vs = [v, .int z] ∧ Own H F m ∧ rTask CT F rows v ∧ Q (.bl (decide (0 ≤ z) && decide (z < (rows.length : Int)))) H
abbrev rPairsS : Rp (List (Int × Int)) := rSeq (rPair rInt rInt)
abbrev rPapS : Rp Pap := rSeq (rPair rInt rPairsS)
def spAscend (CT : Addr) : Sp := fun vs H Q _ => ∃ (v w : V) (rows : List Row) (p : Pap) (F : Hp) (m : Mem), vs = [v, w] ∧ Own H F m ∧ rTask CT F rows v ∧ rPapS F p w ∧ ∀ H' F', Same F F' → Own H' F' m → Q (.bl (statesOk rows.length (-1) p)) H'
def spMay : Sp := fun vs H Q _ => ∃ (v : V) (ps : List (Int × Int)) (F : Hp) (m : Mem), vs = [v] ∧ Own H F m ∧ rPairsS F ps v ∧ ∀ H' F', Same F F' → Own H' F' m → Q (.bl (pairsOk (-1) ps)) H'
section
variable {P : Program} {w : World} {K : PySem.W.Frag} {mg : Str → Option Value} {base : Heap}
abbrev sLG : Stmt := top 11
abbrev NLG : List Str := ["steps", "table", "least", "cost", "after", "many", "total"]
theorem scLG : FnScope NLG ["steps", "table"] (defScope sLG) := ⟨rfl, rfl, rfl, by decide +kernel, rfl, by decide +kernel, by decide +kernel⟩
theorem ok_LG {f : Addr} {fd : FuncData} (F : Fun K "least_lengths" "least_lengths" sLG f fd) : FnOk P w K mg base CX0 1 f fd ["steps", "table"] spLeastG := by
  refine F.ok scLG (fun vs H Q E h => ?_) (fun cdv A outer s H vs Q E hr h => ?_)
  · obtain ⟨v, w, row, tab, look, F, m, rfl, _⟩ := h
    rfl
  · obtain ⟨v, w, row, tab, look, F, m, rfl, O, hv, hw, hrow, hB, k⟩ := h
    have hu := hu_of hr
    refine ⟨_, 
    (pss_cons (ps_set (i := 2) scLG.nd rfl (Or.inl rfl) pe_dnewK)
    (pss_cons (ps_for PassesOwn.never rfl (pi_list (pv 0)) (pg_tup (by rfl) (pgs_cons (pg_name (i := 3) scLG.nd rfl (Or.inl rfl)) (pgs_cons (pg_name (i := 4) scLG.nd rfl (Or.inl rfl)) pgs_nil))) 
      (pss_one (ps_lock (ps_for PassesOwn.never rfl (pi_keys (pe_dget hu (pv 1) (pv 4) (fun _ _ => rfl))) (pg_name (i := 5) scLG.nd rfl (Or.inl rfl)) 
        (pss_cons (ps_set (i := 6) scLG.nd rfl (Or.inl rfl) (pe_op op_add (pv 3) (pe_dget hu (pe_dget hu (pv 1) (pv 4) (fun _ _ => rfl)) (pv 5) (fun _ _ => rfl))))
        (pss_one (ps_if (PW.pt (pw_or (pt_cmp (pc_dnotin hu (pe_op op_add (pv 5) pe_int) (pv 2))) (pw_or1 (pt_cmpR op_lt (pv 6) (pe_dget hu (pv 2) (pe_op op_add (pv 5) pe_int) (fun _ _ => rfl)) (nomark _))))) 
          (pss_one (ps_dput hu (pv 2) (pe_op op_add (pv 5) pe_int) (pv 6) rfl)) pss_nil)))))))
    (pss_one (ps_ret (pv 2))))), ?_⟩
    walk_at "x"
    refine x_dnew O (fun ld H1 hn1 O1 => ?_)
    walk_at "x"
    refine x_doL O1 hv (fun i σ F' m' => F' = F ∧ ∃ (kvs : List (Key × V)) (u1 u2 u3 u4 : Option V), σ = [some v, some w, some (.ref ld), u1, u2, u3, u4] ∧ m' = (ld, .dK kvs) :: m ∧ kvR rInt F (leastOf (row.take i) look) kvs)
      ⟨rfl, [], _, _, _, _, rfl, rfl, .nil⟩ ?_ ?_
    · rintro i p z σ' H' F' m' hi hz s O' ⟨rfl, kvs, u1, u2, u3, u4, rfl, rfl, hk⟩
      refine x_gpair O' hz (fun a1 a2 ha1 ha2 => ?_)
      have ha1 : a1 = .int p.1 := ha1
      have ha2 : a2 = .int (p.2 : Int) := ha2
      subst ha1 ha2
      walk_at "x"
      obtain ⟨hg, hkeys⟩ := hrow p (List.mem_of_getElem? hi)
      obtain ⟨tb, kvT, _, rfl, htb, hvT, a, kv1, rfl, ha, hkv⟩ := dict_at hw hg
      have hacc := len_of (row.take i) (look := look) fun q hq => (hrow q (List.mem_of_mem_take hq)).2
      have hil := (List.getElem?_eq_some_iff.mp hi).1
      rw [List.length_take] at hacc
      refine x_lock O' ha (fun od H2 F2 O2 le2 hf2 back => ?_)
      have hR2 : Rd F2 tb (.dK kvT) := le2.dk _ _ htb
      walk_at "x"
      refine x_dgetR O2 hR2 hvT ?_
      refine x_doK O2 hf2 hkv (fun j σ F3 m3 => ∃ (kvs : List (Key × V)) (u1 u2 : Option V), σ = [some v, some (.ref tb), some (.ref ld), some (.int p.1), some (.int (p.2 : Int)), u1, u2] ∧ m3 = (ld, .dK kvs) :: m ∧
        kvR rInt F2 ((((look p.2).take j).map (·.1)).foldl (leastStep p.1 (look p.2)) (leastOf (row.take i) look)) kvs) ⟨kvs, _, _, rfl, rfl, hk⟩ ?_ ?_
      · rintro j q σ' H3 F3 m3 hj s3 O3 ⟨kvs3, u5, u6, rfl, rfl, hk3⟩
        walk_at "x"
        refine x_dgetR O3 (rd_same s3 hR2) hvT ?_
        walk_at "x"
        have hqm : q.1 ∈ (look p.2).map (·.1) := List.mem_map_of_mem (List.mem_of_getElem? hj)
        obtain ⟨c, hc⟩ := getD_some hqm
        have hvc : valV kv1 (Sum.inl q.1) = some (.int c) := by
          rcases hkv.get q.1 with ⟨e1, _⟩ | ⟨y, w1, e1, e2, hr⟩
          · rw [hc] at e1
            cases e1
          · rw [hc] at e1
            cases e1
            cases hr
            exact e2
        refine x_dgetR O3 (.inr ⟨od, s3 _ _ hf2⟩) hvc ?_
        walk_at "x"
        have hk3' := hk3.up s3
        have hstep : (((look p.2).take (j + 1)).map (·.1)).foldl (leastStep p.1 (look p.2)) (leastOf (row.take i) look) = leastStep p.1 (look p.2) ((((look p.2).take j).map (·.1)).foldl (leastStep p.1 (look p.2)) (leastOf (row.take i) look)) q.1 := by
          rw [List.take_add_one, hj, List.map_append, List.foldl_append]
          rfl
        have hK := len_fold (c := p.1) (ls := look p.2) (((look p.2).take j).map (·.1)) (acc := leastOf (row.take i) look)
        have hjl := (List.getElem?_eq_some_iff.mp hj).1
        rw [List.length_map, List.length_take] at hK
        generalize hA : (((look p.2).take j).map (·.1)).foldl (leastStep p.1 (look p.2)) (leastOf (row.take i) look) = acc at hk3 hk3' hstep hK
        refine x_dinO O3 hk3' ?_
        walk_at "x"
        cases hg1 : getD acc (q.1 + 1) with
        | none =>
          refine x_iteT rfl ?_
          walk_at "x"
          refine x_iteT rfl ?_
          walk_at "x"
          refine x_dputO O3 hk3' (x := p.1 + c) (R := rInt) rfl (by omega) (fun kvs4 H4 hk4 O4 => ?_)
          walk_at "x"
          refine LI.mk s3 O4 ?_
          refine ⟨kvs4, _, _, rfl, rfl, ?_⟩
          rw [hstep]
          unfold leastStep
          rw [hg1, hc]
          exact hk4.mono fun _ _ h => h
        | some x =>
          refine x_iteF rfl ?_
          walk_at "x"
          refine x_dgetO O3 hk3' hg1 (fun wx hwx => ?_)
          have hwx : wx = .int x := hwx
          subst hwx
          walk_at "x"
          refine x_iteD (fun hlt => ?_) (fun hlt => ?_)
          · walk_at "x"
            refine x_dputO O3 hk3' (x := p.1 + c) (R := rInt) rfl (by omega) (fun kvs4 H4 hk4 O4 => ?_)
            walk_at "x"
            refine LI.mk s3 O4 ?_
            refine ⟨kvs4, _, _, rfl, rfl, ?_⟩
            rw [hstep]
            unfold leastStep
            rw [hg1, hc]
            dsimp only [Option.getD_some]
            rw [if_pos hlt]
            exact hk4.mono fun _ _ h => h
          · walk_at "x"
            refine LI.mk s3 O3 ?_
            refine ⟨kvs3, _, _, rfl, rfl, ?_⟩
            rw [hstep]
            unfold leastStep
            rw [hg1, hc]
            dsimp only [Option.getD_some]
            rw [if_neg hlt]
            exact hk3.mono fun _ _ h => h
      · rintro σ' H3 F3 m3 s3 O3 ⟨kvs3, u5, u6, rfl, rfl, hk3⟩
        rw [List.take_length] at hk3
        refine x_unlock O3 hf2 back s3 (fun H4 F4 s4 le4 O4 => ?_)
        walk_at "x"
        refine LI.mk (Same.refl _) (O4.back s4) ⟨rfl, kvs3, _, _, _, _, rfl, rfl, ?_⟩
        rw [List.take_add_one, hi]
        show kvR rInt _ (leastOf (row.take i ++ [p]) look) kvs3
        unfold leastOf
        rw [List.foldl_append]
        exact hk3.mono fun _ _ h => h
    · rintro σ' H' F' m' s O' ⟨rfl, kvs, u1, u2, u3, u4, rfl, rfl, hk⟩
      rw [List.take_length] at hk
      walk_at "x"
      exact k ld kvs H' O' hk
abbrev sHa : Stmt := inClass (top 6) 5
abbrev NHa : List Str := ["self", "state"]
theorem scHa : FnScope NHa ["self", "state"] (defScope sHa) := ⟨rfl, rfl, rfl, by decide +kernel, rfl, by decide +kernel, by decide +kernel⟩
theorem ok_Ha {f C : Addr} {fd : FuncData} (F : Fun K "has_state" "TableTask.has_state" sHa f fd) (T : Bi mg) (cl : Cls K C) (nT : NoAttr K C "_table") : FnOk P w K mg base CX0 1 f fd ["self", "state"] (spHas C) := by
  refine F.ok scHa (fun vs H Q E h => ?_) (fun cdv A outer s H vs Q E hr h => ?_)
  · obtain ⟨v, rows, z, F, m, rfl, _⟩ := h
    rfl
  · obtain ⟨v, rows, z, F, m, rfl, O, ⟨a, dx, t, rfl, ha, ht⟩, k⟩ := h
    refine ⟨_, 
    (pss_one (ps_ret (pe_chain op_le op_lt pe_int (pv 1) (pe_callB cr_len (by rfl) T.b_len (by decide +kernel) (pa_cons (pe_fld (pv 0) rfl) pa_nil))))), ?_⟩
    walk_at "x"
    refine x_iteD (fun h => ?_) (fun h => ?_)
    · walk_at "x"
      refine x_fldF O ha cl nT lk_eq ?_
      walk_at "x"
      refine x_lenL O ht ?_
      walk_at "x"
      rw [decide_eq_true h, Bool.true_and] at k
      exact k
    · rw [decide_eq_false h, Bool.false_and] at k
      exact k
abbrev sMb : Stmt := top 15
abbrev NMb : List Str := ["pairs", "last", "many", "cost"]
theorem scMb : FnScope NMb ["pairs"] (defScope sMb) := ⟨rfl, rfl, rfl, by decide +kernel, rfl, by decide +kernel, by decide +kernel⟩
theorem ok_Mb {f : Addr} {fd : FuncData} (F : Fun K "_may_be_spectrum" "_may_be_spectrum" sMb f fd) : FnOk P w K mg base CX0 1 f fd ["pairs"] spMay := by
  refine F.ok scMb (fun vs H Q E h => ?_) (fun cdv A outer s H vs Q E hr h => ?_)
  · obtain ⟨v, ps, F, m, rfl, _⟩ := h
    rfl
  · obtain ⟨v, ps, F, m, rfl, O, hv, k⟩ := h
    refine ⟨_, 
    (pss_cons (ps_set (i := 1) scMb.nd rfl (Or.inl rfl) (pe_un un_neg pe_int))
    (pss_cons (ps_for PassesOwn.never rfl (pi_seq (pv 0)) (pg_tup (by rfl) (pgs_cons (pg_name (i := 2) scMb.nd rfl (Or.inl rfl)) (pgs_cons (pg_name (i := 3) scMb.nd rfl (Or.inl rfl)) pgs_nil))) 
      (pss_cons (ps_if (PW.pt (pw_or (pt_cmpR op_le (pv 2) (pv 1) (nomark _)) (pw_or1 (pt_cmpR op_lt (pv 3) pe_int (nomark _))))) 
        (pss_one (ps_ret pe_bl)) pss_nil)
      (pss_one (ps_set (i := 1) scMb.nd rfl (Or.inl rfl) (pv 2)))))
    (pss_one (ps_ret pe_bl)))), ?_⟩
    walk_at "x"
    refine x_doS O hv (fun i σ F' m' => ∃ (last : Int) (u1 u2 : Option V), σ = [some v, some (.int last), u1, u2] ∧ m' = m ∧ pairsOk (-1) ps = pairsOk last (ps.drop i)) ⟨-1, _, _, rfl, rfl, rfl⟩ ?_ ?_
    · rintro i p z σ' H1 F1 m1 hi hz s1 O1 ⟨last, u1, u2, rfl, rfl, hl⟩
      refine x_gpair O1 hz (fun a1 a2 ha1 ha2 => ?_)
      have ha1 : a1 = .int p.1 := ha1
      have ha2 : a2 = .int p.2 := ha2
      subst ha1 ha2
      have hd : ps.drop i = p :: ps.drop (i + 1) := by
        have il := (List.getElem?_eq_some_iff.mp hi).1
        rw [List.drop_eq_getElem_cons il, (List.getElem?_eq_some_iff.mp hi).2]
      rw [hd, pairsOk_cons] at hl
      walk_at "x"
      refine x_iteD (fun h => ?_) (fun h => ?_)
      · refine x_iteT rfl ?_
        walk_at "x"
        have e : pairsOk (-1) ps = false := by
          rw [hl, decide_eq_false (show ¬ last < p.1 by omega)]
          rfl
        rw [e] at k
        exact k H1 F1 s1 O1
      · walk_at "x"
        refine x_iteD (fun h2 => ?_) (fun h2 => ?_)
        · walk_at "x"
          have e : pairsOk (-1) ps = false := by
            rw [hl, decide_eq_false (show ¬ 0 ≤ p.2 by omega), Bool.and_false]
            rfl
          rw [e] at k
          exact k H1 F1 s1 O1
        · walk_at "x"
          refine LI.mk s1 O1 ?_
          refine ⟨p.1, _, _, rfl, rfl, ?_⟩
          rw [hl, decide_eq_true (show last < p.1 by omega), decide_eq_true (show 0 ≤ p.2 by omega)]
          rfl
    · rintro σ' H1 F1 m1 s1 O1 ⟨last, u1, u2, rfl, rfl, hl⟩
      rw [List.drop_length] at hl
      walk_at "x"
      have e : pairsOk (-1) ps = true := hl
      rw [e] at k
      exact k H1 F1 s1 O1
abbrev sSa2 : Stmt := top 9
abbrev NSa2 : List Str := ["task", "paper", "at", "state", "_"]
theorem scSa2 : FnScope NSa2 ["task", "paper"] (defScope sSa2) := ⟨rfl, rfl, rfl, by decide +kernel, rfl, by decide +kernel, by decide +kernel⟩
theorem ok_Sa2 {f CT f1 : Addr} {fd fd1 : FuncData} (F : Fun K "states_ascend" "states_ascend" sSa2 f fd) (T : Bi mg) (M_TableTask_has_state : Met P w K mg base CT "has_state" 1 f1 fd1 ["self", "state"] (spHas CT)) : FnOk P w K mg base CX0 2 f fd ["task", "paper"] (spAscend CT) := by
  refine F.ok scSa2 (fun vs H Q E h => ?_) (fun cdv A outer s H vs Q E hr h => ?_)
  · obtain ⟨v, w, rows, p, F, m, rfl, _⟩ := h
    rfl
  · obtain ⟨v, wv, rows, p, F, m, rfl, O, hv, hw, k⟩ := h
    obtain ⟨at_, dxt, tt, rfl, hat, htt⟩ := id hv
    refine ⟨_, 
    (pss_cons (ps_for PassesOwn.never rfl (pi_enumS (by rfl) T.b_enumerate (pa_cons (pv 1) pa_nil)) (pg_tup (by rfl) (pgs_cons (pg_name (i := 2) scSa2.nd rfl (Or.inl rfl)) (pgs_cons (pg_tup (by rfl) (pgs_cons (pg_name (i := 3) scSa2.nd rfl (Or.inl rfl)) (pgs_cons (pg_name (i := 4) scSa2.nd rfl (Or.inl rfl)) pgs_nil))) pgs_nil))) 
      (pss_cons (ps_if (pt_not (pt_val (pe_meth (pv 0) M_TableTask_has_state.cl M_TableTask_has_state.me M_TableTask_has_state.ok (hr.mono (by first | decide | omega)) M_TableTask_has_state.bi .nil pass0 (pa_cons (pv 3) pa_nil)))) 
        (pss_one (ps_ret pe_bl)) pss_nil)
      (pss_one (ps_if (PW.pt (pw_and (pt_cmpR op_gt (pv 2) pe_int (nomark _)) (pw_and1 (pt_not (pt_cmpR op_lt (pe_ix (r := rIxT K) ix_tup (pe_ix (r := rIx K) ix_seq (pv 1) (pe_op op_sub (pv 2) pe_int) (fun _ _ => rfl)) pe_int (fun _ _ => rfl)) (pv 3) (nomark _)))))) 
        (pss_one (ps_ret pe_bl)) pss_nil))))
    (pss_one (ps_ret pe_bl))), ?_⟩
    walk_at "x"
    refine x_doE O hw (fun i σ F' m' => ∃ (last : Int) (u1 u2 u3 : Option V), σ = [some (.ref at_), some wv, u1, u2, u3] ∧ m' = m ∧ -1 ≤ last ∧ (∀ r, 0 < i → p[i - 1]? = some r → r.1 = last) ∧ (i = 0 → last = -1) ∧ statesOk rows.length (-1) p = statesOk rows.length last (p.drop i)) ⟨-1, _, _, _, rfl, rfl, by decide, fun r h => absurd h (Nat.lt_irrefl _), fun _ => rfl, rfl⟩ ?_ ?_ ?_
    · rintro i r z σ' H1 F1 m1 hi hz s1 O1 ⟨last, u1, u2, u3, rfl, rfl, hl1, hl2, hl3, hl⟩
      refine x_gpair O1 hz (fun a1 a2 ha1 ha2 => ?_)
      have ha1 : a1 = .int (i : Int) := ha1
      subst ha1
      walk_at "x"
      refine x_gpair O1 ha2 (fun a3 a4 ha3 ha4 => ?_)
      have ha3 : a3 = .int r.1 := ha3
      subst ha3
      have hd : p.drop i = r :: p.drop (i + 1) := by
        have il := (List.getElem?_eq_some_iff.mp hi).1
        rw [List.drop_eq_getElem_cons il, (List.getElem?_eq_some_iff.mp hi).2]
      rw [hd, statesOk_cons] at hl
      walk_at "x"
      refine mq_of (O1.frz (s1 _ _ hat)) (lk_ne (by decide +kernel)) ?_
      walk_at "x"
      refine ⟨_, rows, r.1, F1, _, rfl, O1, up s1 hv, ?_⟩
      walk_at "x"
      by_cases hin : 0 ≤ r.1 ∧ r.1 < (rows.length : Int)
      · refine x_iteF (by rw [decide_eq_true hin.1, decide_eq_true hin.2]; rfl) ?_
        walk_at "x"
        have fin : ∀ (u5 : Option V), last < r.1 → LI (fun i σ F' m' => ∃ (last : Int) (u1 u2 u3 : Option V), σ = [some (.ref at_), some wv, u1, u2, u3] ∧ m' = m1 ∧ -1 ≤ last ∧ (∀ r, 0 < i → p[i - 1]? = some r → r.1 = last) ∧ (i = 0 → last = -1) ∧ statesOk rows.length (-1) p = statesOk rows.length last (p.drop i)) F (i + 1) [some (.ref at_), some wv, some (.int (i : Int)), some (.int r.1), u5] H1 := fun u5 hlt => by
          refine LI.mk s1 O1 ?_
          refine ⟨r.1, _, _, _, rfl, rfl, by omega, fun r2 _ h => ?_, fun h => absurd h (by omega), ?_⟩
          · rw [Nat.add_sub_cancel, hi] at h
            rw [Option.some.inj h]
          · rw [hl, decide_eq_true hlt, decide_eq_true hin.2]
            rfl
        refine x_iteD (fun h0 => ?_) (fun h0 => ?_)
        · walk_at "x"
          have hi0 : 0 < i := by omega
          obtain ⟨r0, hr0⟩ : ∃ r0, p[i - 1]? = some r0 := ⟨_, List.getElem?_eq_getElem (by have := (List.getElem?_eq_some_iff.mp hi).1; omega)⟩
          have el := hl2 r0 hi0 hr0
          refine x_ixS (R := rPair rInt rPairsS) (j := i - 1) O1 (up s1 hw) (by omega) hr0 (fun w5 hw5 => ?_)
          walk_at "x"
          refine x_fst O1 hw5 (fun w6 hw6 => ?_)
          have hw6 : w6 = .int r0.1 := hw6
          subst hw6
          walk_at "x"
          by_cases hlt : r0.1 < r.1
          · refine x_iteF (by rw [decide_eq_true hlt]; rfl) ?_
            walk_at "x"
            exact fin _ (by omega)
          · refine x_iteT (by rw [decide_eq_false hlt]; rfl) ?_
            walk_at "x"
            have e : statesOk rows.length (-1) p = false := by
              rw [hl, decide_eq_false (show ¬ last < r.1 by omega)]
              rfl
            rw [e] at k
            exact k H1 F1 s1 O1
        · refine x_iteF rfl ?_
          walk_at "x"
          have := hl3 (by omega)
          exact fin _ (by omega)
      · refine x_iteT (by simp; omega) ?_
        walk_at "x"
        have e : statesOk rows.length (-1) p = false := by
          rw [hl]
          simp
          omega
        rw [e] at k
        exact k H1 F1 s1 O1
    · rintro σ' H1 F1 m1 s1 O1 ⟨last, u1, u2, u3, rfl, rfl, hl1, hl2, hl3, hl⟩
      rw [List.drop_length] at hl
      walk_at "x"
      have e : statesOk rows.length (-1) p = true := hl
      rw [e] at k
      exact k H1 F1 s1 O1
    · rintro i σ' F1 F2 m1 s ⟨last, u1, u2, u3, h⟩
      exact ⟨last, u1, u2, u3, h⟩
end
end Tf
namespace Tf
open PySem PySem.Spec PyProof.Rows L2
section
variable {K : PySem.W.Frag} {σ : L2.St} {H F : Hp} {m : Mem} {g : TG} {tt : TT} {te tk tv tl : TE} {vs : List Nat} {v : V} {α β : Type} {R : Rp α} {S : Rp β} {xs : List α} {Q : VK}
theorem x_all {bs : List Bool} (O : Own H F m) (h : rList rBool F bs v) (k : Q (.bl (bs.all id)) H) : rAll K [v] H Q := by
  obtain ⟨a, us, rfl, ha, r⟩ := h
  have e : us = bs.map V.bl := All2.eqmap (f := V.bl) r
  subst e
  exact ⟨a, bs, rfl, .inl (.inl (O.frz ha)), k⟩
end
theorem putAll : ∀ (ps : List (Int × Int)), (ps.map (·.1)).Nodup → ps.foldl (fun d p => putD d p.1 p.2) [] = ps := fun ps => by
  induction ps using snoc_ind with
  | h0 => exact fun _ => rfl
  | h1 ps q ih =>
    intro hn
    rw [List.map_append] at hn
    obtain ⟨h1, h2, h3⟩ := List.nodup_append.mp hn
    rw [List.foldl_append, ih h1]
    show putD ps q.1 q.2 = _
    unfold putD
    rw [if_neg]
    intro h
    obtain ⟨r, hr, e⟩ := List.any_eq_true.mp h
    have e := of_decide_eq_true e
    exact h3 _ (List.mem_map_of_mem hr) q.1 (by simp) e
/-- rows and a paper of bounded sizes -/
structure Small (rows : List Row) (p : Pap) : Prop where
  wf : WF rows
  few : ∀ row ∈ rows, row.length ≤ 1000
  len : p.length ≤ 100000
  lens : ∀ r ∈ p, r.2.length ≤ 5000
def spHolds (CT : Addr) : Sp := fun vs H Q _ => ∃ (v w : V) (rows : List Row) (p : Pap) (k : Nat) (ps : List (Int × Int)) (F : Hp) (m : Mem), vs = [v, w, .int (k : Int)] ∧ Own H F m ∧ rTask CT F rows v ∧ rDictX rLens F p w ∧ Small rows p ∧ k < rows.length ∧ getD p (k : Int) = some ps ∧ ∀ H' F', Same F F' → Own H' F' m → Q (.bl (holdsB rows p ((k : Int), ps))) H'
section
variable {P : Program} {w : World} {K : PySem.W.Frag} {mg : Str → Option Value} {base : Heap}
abbrev sHo : Stmt := top 16
abbrev NHo : List Str := ["task", "table", "state", "steps", "_", "after"]
theorem scHo : FnScope NHo ["task", "table", "state"] (defScope sHo) := ⟨rfl, rfl, rfl, by decide +kernel, rfl, by decide +kernel, by decide +kernel⟩
theorem ok_Ho {f CT f1 f2 f3 : Addr} {fd fd1 fd2 fd3 : FuncData} (F : Fun K "_state_holds" "_state_holds" sHo f fd) (T : Bi mg) (M_TableTask_is_end : Met P w K mg base CT "is_end" 1 f1 fd1 ["self", "state"] (spTEnd CT)) (M_TableTask_steps : Met P w K mg base CT "steps" 1 f2 fd2 ["self", "state"] (spTSteps CT))
    (C_least_lengths : Cal P w K mg base "least_lengths" 1 f3 fd3 ["steps", "table"] spLeastG) : FnOk P w K mg base CX0 2 f fd ["task", "table", "state"] (spHolds CT) := by
  refine F.ok scHo (fun vs H Q E h => ?_) (fun cdv A outer s H vs Q E hr h => ?_)
  · obtain ⟨v, w, rows, p, k, ps, F, m, rfl, _⟩ := h
    rfl
  · obtain ⟨v, wv, rows, p, j, ps, F, m, rfl, O, hv, hw, hS, hj, hg, k⟩ := h
    have hu := hu_of hr
    have hu0 : (A.deeper (envOfC (Str.ofString "_state_holds") (defScope sHo) s.heap.objs.size f cdv)).units < cLine := Nat.lt_of_succ_lt hu
    have wf := hS.wf
    obtain ⟨at_, dxt, tt, rfl, hat, htt⟩ := id hv
    obtain ⟨row, hrow⟩ := wf.row hj
    have erow : rowAt rows (j : Int) = row := by
      unfold rowAt
      rw [Int.toNat_natCast, hrow]
      rfl
    refine ⟨_, 
    (pss_cons (ps_if (pt_val (pe_meth (pv 0) M_TableTask_is_end.cl M_TableTask_is_end.me M_TableTask_is_end.ok (hr.mono (by first | decide | omega)) M_TableTask_is_end.bi .nil pass0 (pa_cons (pv 2) pa_nil))) 
      (pss_one (ps_ret (pe_cmpR (Tf.op_eqDI hu0) (pe_dget hu (pv 1) (pv 2) (fun _ _ => rfl)) (pe_disp (pps_cons pe_int pe_int pps_nil) (by rfl) (by rfl) (fun z => by cases z) (by decide)) (nomark _)))) pss_nil)
    (pss_cons (ps_set (i := 3) scHo.nd rfl (Or.inl rfl) (pe_meth (pv 0) M_TableTask_steps.cl M_TableTask_steps.me M_TableTask_steps.ok (hr.mono (by first | decide | omega)) M_TableTask_steps.bi .nil pass0 (pa_cons (pv 2) pa_nil)))
    (pss_cons (ps_if (pt_not (pt_val (pe_callB (cr_all rfl) (by rfl) T.b_all (by decide +kernel) (pa_cons (pe_lc (own := [("_", 4), ("after", 5)]) (g := (gTup K 2 (gCons (gName 4) (gCons (gName 5) gNil)))) (tt := tYes) rfl scHo.nd (pi_list (pv 3)) (blkOk_by (N := NHo) (sc := defScope sHo) (by decide +kernel)) (fun _ _ _ _ _ => (pg_tup (by rfl) (pgs_cons (pg_name (i := 4) scHo.nd rfl (Or.inl rfl)) (pgs_cons (pg_name (i := 5) scHo.nd rfl (Or.inl rfl)) pgs_nil)))) (fun _ _ _ _ _ => pts_nil) (fun _ _ _ _ _ => (pe_cmp (pc_din hu (pv 5) (pv 1))))) pa_nil)))) 
      (pss_one (ps_ret pe_bl)) pss_nil)
    (pss_one (ps_ret (pe_cmpR (Tf.op_eqDI hu0) (pe_dget hu (pv 1) (pv 2) (fun _ _ => rfl)) (pe_call C_least_lengths.ok (hr.mono (by first | decide | omega)) rfl C_least_lengths.mg C_least_lengths.kp C_least_lengths.bi .nil pass0 (pa_cons (pv 3) (pa_cons (pv 1) pa_nil))) (nomark _))))))), ?_⟩
    walk_at "x"
    refine mq_of (O.frz hat) (lk_ne (by decide +kernel)) ?_
    walk_at "x"
    refine ⟨_, rows, j, F, m, rfl, O, hv, ?_⟩
    walk_at "x"
    refine x_iteD (fun hend => ?_) (fun hend => ?_)
    · walk_at "x"
      refine x_dgetF O (dictX hw) hg (fun w1 hw1 => ?_)
      have hw1 : rLens F ps w1 := hw1
      walk_at "x"
      refine x_disp1 O (fun pd H9 hn9 O9 => ?_)
      obtain ⟨O10, s10, h10⟩ := freezeD (R := rInt) (d := [(0, 0)]) O9 (.cons ⟨rfl, rfl⟩ .nil)
      refine x_eqDI O10 (up s10 hw1) h10 ?_
      have e : holdsB rows p ((j : Int), ps) = dictEqB ps [(0, 0)] := by
        unfold holdsB stepsIn dueOf
        rw [erow, wf.last hrow hend, if_pos (by show (j : Int) + 1 = _; omega)]
        rfl
      rw [e] at k
      exact k H9 _ s10 O10
    · walk_at "x"
      refine mq_of (O.frz hat) (lk_ne (by decide +kernel)) ?_
      walk_at "x"
      refine ⟨_, rows, j, row, F, m, rfl, O, hv, hrow, fun rv H1 F1 s1 O1 hrv => ?_⟩
      walk_at "x"
      have hrl : row.length ≤ 1000 := hS.few row (List.mem_of_getElem? hrow)
      refine x_docL (S := rBool) O1 hrv (fun i F2 m2 ys => m2 = m ∧ ys = (row.take i).map fun q => (getD p (q.2 : Int)).isSome) ⟨rfl, by simp⟩ ?_ ?_
      · rintro D acc i q z H2 F2 m2 ys hi hz s2 O2 hacc hyl ⟨rfl, rfl⟩
        refine x_gpair O2 hz (fun u3 u4 hu3 hu4 => ?_)
        have hu4 : u4 = .int (q.2 : Int) := hu4
        subst hu4
        walk_at "x"
        refine ⟨rfl, ?_⟩
        walk_at "x"
        refine x_iteT rfl ?_
        walk_at "x"
        refine x_dinF O2 (dictX (up (s1.trans s2) hw)) ?_
        refine x_keep (S := rBool) (z := (getD p (q.2 : Int)).isSome) O2 s2 rfl hacc hyl (by have := (List.getElem?_eq_some_iff.mp hi).1; omega) ⟨rfl, ?_⟩
        rw [List.take_add_one, hi, List.map_append]
        rfl
      · rintro v2 H2 F2 m2 ys s2 O2 hv2 ⟨rfl, rfl⟩
        rw [List.take_length] at hv2
        walk_at "x"
        refine x_all O2 hv2 ?_
        walk_at "x"
        have eall : ((row.map fun q => (getD p (q.2 : Int)).isSome).all id) = stepsIn rows p (j : Int) := by
          unfold stepsIn
          rw [erow, List.all_map]
          rfl
        rw [eall]
        have s02 := s1.trans s2
        cases hst : stepsIn rows p (j : Int) with
        | false =>
          refine x_iteT rfl ?_
          walk_at "x"
          have e : holdsB rows p ((j : Int), ps) = false := by
            unfold holdsB
            rw [hst]
            rfl
          rw [e] at k
          exact k H2 F2 s02 O2
        | true =>
          refine x_iteF rfl ?_
          walk_at "x"
          refine x_dgetF O2 (dictX (up s02 hw)) hg (fun w3 hw3 => ?_)
          have hw3 : rLens F2 ps w3 := hw3
          walk_at "x"
          have hin : ∀ q ∈ row, getD p (q.2 : Int) = some (look p q.2) ∧ (look p q.2).length ≤ 5000 := fun q hq => by
            unfold stepsIn at hst
            rw [erow] at hst
            obtain ⟨d, hd⟩ := Option.isSome_iff_exists.mp (List.all_eq_true.mp hst q hq)
            have e : look p q.2 = d := by
              unfold look
              rw [hd]
              rfl
            rw [e]
            exact ⟨hd, hS.lens _ (getD_mem hd)⟩
          refine ⟨rv, wv, row, p, look p, F2, _, rfl, O2, up s2 hrv, dictX (up s02 hw), hin, hrl, fun pd kvs H4 O4 hk4 => ?_⟩
          obtain ⟨O5, s5, h5⟩ := freezeD (R := rInt) O4 hk4
          refine x_eqDI O5 (up s5 hw3) h5 ?_
          have e : holdsB rows p ((j : Int), ps) = dictEqB ps (leastOf row (look p)) := by
            unfold holdsB dueOf
            rw [hst, erow, if_neg (by show ¬ (j : Int) + 1 = _; omega)]
            rfl
          rw [e] at k
          exact k H4 _ (s02.trans s5) O5
end
end Tf
namespace Tf
open PySem PySem.Spec PyProof.Rows L2
def spJudge (CT : Addr) : Sp := fun vs H Q _ => ∃ (v w : V) (rows : List Row) (p : Pap) (F : Hp) (m : Mem), vs = [v, w] ∧ Own H F m ∧ rTask CT F rows v ∧ rPapS F p w ∧ Small rows p ∧ ∀ H' F', Same F F' → Own H' F' m → Q (.bl (verdict rows p)) H'
theorem verdict_no1 {rows : List Row} {p : Pap} (h : statesOk rows.length (-1) p = false) : verdict rows p = false := by
  unfold verdict
  rw [h]
  rfl
theorem verdict_no2 {rows : List Row} {p : Pap} {r : Int × List (Int × Int)} (hr : r ∈ p) (h : pairsOk (-1) r.2 = false) : verdict rows p = false := by
  have : (p.all fun r => pairsOk (-1) r.2) = false := by
    rw [Bool.eq_false_iff]
    intro h2
    rw [List.all_eq_true.mp h2 r hr] at h
    cases h
  unfold verdict
  rw [this, Bool.and_false]
  rfl
theorem verdict_no3 {rows : List Row} {p : Pap} (h : (getD p 0).isSome = false) : verdict rows p = false := by
  unfold verdict
  rw [h, Bool.and_false]
  rfl
theorem verdict_yes {rows : List Row} {p : Pap} (h1 : statesOk rows.length (-1) p = true) (h2 : (p.all fun r => pairsOk (-1) r.2) = true) (h3 : (getD p 0).isSome = true) : verdict rows p = p.all (holdsB rows p) := by
  unfold verdict
  rw [h1, h2, h3]
  rfl
section
variable {P : Program} {w : World} {K : PySem.W.Frag} {mg : Str → Option Value} {base : Heap}
abbrev sJu : Stmt := top 17
abbrev NJu : List Str := ["task", "paper", "table", "state", "pairs", "many", "cost", "_"]
theorem scJu : FnScope NJu ["task", "paper"] (defScope sJu) := ⟨rfl, rfl, rfl, by decide +kernel, rfl, by decide +kernel, by decide +kernel⟩
theorem ok_Ju {f CT f1 f2 f3 f4 : Addr} {fd fd1 fd2 fd3 fd4 : FuncData} (F : Fun K "judge_spectra" "judge_spectra" sJu f fd) (T : Bi mg) (M_TableTask_first : Met P w K mg base CT "first" 1 f1 fd1 ["self"] (spTFirst CT)) (C_states_ascend : Cal P w K mg base "states_ascend" 2 f2 fd2 ["task", "paper"] (spAscend CT))
    (C__may_be_spectrum : Cal P w K mg base "_may_be_spectrum" 1 f3 fd3 ["pairs"] spMay) (C__state_holds : Cal P w K mg base "_state_holds" 2 f4 fd4 ["task", "table", "state"] (spHolds CT)) : FnOk P w K mg base CX0 3 f fd ["task", "paper"] (spJudge CT) := by
  refine F.ok scJu (fun vs H Q E h => ?_) (fun cdv A outer s H vs Q E hr h => ?_)
  · obtain ⟨v, w, rows, p, F, m, rfl, _⟩ := h
    rfl
  · obtain ⟨v, wv, rows, p, F, m, rfl, O, hv, hw, hS, k⟩ := h
    have hu := hu_of hr
    have wf := hS.wf
    have hpl := hS.len
    obtain ⟨at_, dxt, tt, rfl, hat, htt⟩ := id hv
    refine ⟨_, 
    (pss_cons (ps_if (pt_not (pt_val (pe_call C_states_ascend.ok (hr.mono (by first | decide | omega)) rfl C_states_ascend.mg C_states_ascend.kp C_states_ascend.bi .nil pass0 (pa_cons (pv 0) (pa_cons (pv 1) pa_nil))))) 
      (pss_one (ps_ret pe_bl)) pss_nil)
    (pss_cons (ps_set (i := 2) scJu.nd rfl (Or.inr rfl) pe_dnewK)
    (pss_cons (ps_for PassesOwn.never rfl (pi_seq (pv 1)) (pg_tup (by rfl) (pgs_cons (pg_name (i := 3) scJu.nd rfl (Or.inl rfl)) (pgs_cons (pg_name (i := 4) scJu.nd rfl (Or.inl rfl)) pgs_nil))) 
      (pss_cons (ps_if (pt_not (pt_val (pe_call C__may_be_spectrum.ok (hr.mono (by first | decide | omega)) rfl C__may_be_spectrum.mg C__may_be_spectrum.kp C__may_be_spectrum.bi .nil pass0 (pa_cons (pv 4) pa_nil)))) 
        (pss_one (ps_ret pe_bl)) pss_nil)
      (pss_one (ps_dput hu (pv 2) (pv 3) (pe_dc (own := [("many", 5), ("cost", 6)]) (g := (gTup K 2 (gCons (gName 5) (gCons (gName 6) gNil)))) rfl scJu.nd (pi_seq (pv 4)) (blkOk_by (N := NJu) (sc := defScope sJu) (by decide +kernel)) (fun _ _ _ _ _ => (pg_tup (by rfl) (pgs_cons (pg_name (i := 5) scJu.nd rfl (Or.inl rfl)) (pgs_cons (pg_name (i := 6) scJu.nd rfl (Or.inl rfl)) pgs_nil)))) (fun _ _ _ _ _ => pts_nil) (fun _ _ _ _ _ => (pv 5)) (fun _ _ _ _ _ => (pv 6))) rfl))))
    (pss_cons (ps_if (pt_cmp (pc_dnotin hu (pe_meth0 (pv 0) M_TableTask_first.cl M_TableTask_first.me M_TableTask_first.ok (hr.mono (by first | decide | omega)) M_TableTask_first.bi .nil pass0) (pv 2))) 
      (pss_one (ps_ret pe_bl)) pss_nil)
    (pss_one (ps_ret (pe_callB (cr_all rfl) (by rfl) T.b_all (by decide +kernel) (pa_cons (pe_lc (own := [("state", 3), ("_", 7)]) (g := (gTup K 2 (gCons (gName 3) (gCons (gName 7) gNil)))) (tt := tYes) rfl scJu.nd (pi_seq (pv 1)) (blkOk_by (N := NJu) (sc := defScope sJu) (by decide +kernel)) (fun _ _ _ _ _ => (pg_tup (by rfl) (pgs_cons (pg_name (i := 3) scJu.nd rfl (Or.inl rfl)) (pgs_cons (pg_name (i := 7) scJu.nd rfl (Or.inl rfl)) pgs_nil)))) (fun _ _ _ _ _ => pts_nil) (fun _ _ _ _ _ => (pe_call C__state_holds.ok (hr.mono (by first | decide | omega)) rfl C__state_holds.mg C__state_holds.kp C__state_holds.bi .nil pass0 (pa_cons (pv 0) (pa_cons (pv 2) (pa_cons (pv 3) pa_nil)))))) pa_nil)))))))), ?_⟩
    walk_at "x"
    refine ⟨_, wv, rows, p, F, m, rfl, O, hv, hw, fun H1 F1 s1 O1 => ?_⟩
    walk_at "x"
    cases hst : statesOk rows.length (-1) p with
    | false =>
      refine x_iteT rfl ?_
      walk_at "x"
      rw [verdict_no1 hst] at k
      exact k H1 F1 s1 O1
    | true =>
      refine x_iteF rfl ?_
      walk_at "x"
      obtain ⟨hsb, hsn⟩ := statesOk_lt hst
      refine x_dnew O1 (fun tb H2 hn2 O2 => ?_)
      walk_at "x"
      refine x_doS O2 (up s1 hw) (fun i σ F' m' => ∃ (kvs : List (Key × V)) (u3 u4 u5 u6 u7 : Option V), σ = [some (.ref at_), some wv, some (.ref tb), u3, u4, u5, u6, u7] ∧ m' = (tb, .dK kvs) :: m ∧ kvR rLens F' (p.take i) kvs ∧ ((p.take i).all fun r => pairsOk (-1) r.2) = true) ⟨[], _, _, _, _, _, rfl, rfl, .nil, rfl⟩ ?_ ?_
      · rintro i r z σ' H3 F3 m3 hi hz s3 O3 ⟨kvs, u3, u4, u5, u6, u7, rfl, rfl, hk, hall⟩
        refine x_gpair O3 hz (fun a1 a2 ha1 ha2 => ?_)
        have ha1 : a1 = .int r.1 := ha1
        subst ha1
        walk_at "x"
        have hrm := List.mem_of_getElem? hi
        have hil := (List.getElem?_eq_some_iff.mp hi).1
        have hr5 := hS.lens r hrm
        refine ⟨a2, r.2, F3, _, rfl, O3, ha2, fun H4 F4 s4 O4 => ?_⟩
        walk_at "x"
        cases hmay : pairsOk (-1) r.2 with
        | false =>
          refine x_iteT rfl ?_
          walk_at "x"
          rw [verdict_no2 hrm hmay] at k
          exact k H4 F4 (s1.trans (s3.trans s4)) O4.tail
        | true =>
          refine x_iteF rfl ?_
          walk_at "x"
          have s34 := s3.trans s4
          have hnd := (pairsOk_lt hmay).2
          refine x_dodS (S := rInt) O4 (up s4 ha2) (fun i2 F5 m5 ys => m5 = (tb, .dK kvs) :: m ∧ ys = (r.2.take i2).foldl (fun d p => putD d p.1 p.2) []) ⟨rfl, rfl⟩ ?_ ?_
          · rintro D kv5 i2 q z5 H5 F5 m5 ys hi2 hz5 s5 O5 hk5 hyl ⟨rfl, rfl⟩
            refine x_gpair O5 hz5 (fun b1 b2 hb1 hb2 => ?_)
            have hb1 : b1 = .int q.1 := hb1
            have hb2 : b2 = .int q.2 := hb2
            subst hb1 hb2
            walk_at "x"
            refine ⟨rfl, ?_⟩
            walk_at "x"
            refine x_iteT rfl ?_
            walk_at "x"
            refine x_putC (S := rInt) (x := q.1) (z := q.2) O5 s5 rfl hk5 hyl (by have := (List.getElem?_eq_some_iff.mp hi2).1; omega) ⟨rfl, ?_⟩
            rw [List.take_add_one, hi2, List.foldl_append]
            rfl
          · rintro dv H5 F5 m5 ys s5 O5 hdv ⟨rfl, rfl⟩
            rw [List.take_length, putAll r.2 hnd] at hdv
            walk_at "x"
            have hkl : (p.take i).length ≤ i := by
              rw [List.length_take]
              omega
            have hnot : r.1 ∉ (p.take i).map (·.1) := fun h => by
              obtain ⟨i2, hi2⟩ := List.getElem?_of_mem h
              have hi2' := (List.getElem?_eq_some_iff.mp hi2).1
              rw [List.length_map, List.length_take] at hi2'
              rw [List.map_take, List.getElem?_take_of_lt (by omega)] at hi2
              have h3 : (p.map (·.1))[i]? = some r.1 := by rw [List.getElem?_map, hi]; rfl
              have := nd_ix hsn hi2 h3
              omega
            refine x_dputO (R := rLens) (x := r.2) O5 (hk.up (s4.trans s5)) hdv (by omega) (fun kv6 H6 hk6 O6 => ?_)
            walk_at "x"
            have hput : putD (p.take i) r.1 r.2 = p.take (i + 1) := by
              unfold putD
              rw [if_neg, List.take_add_one, hi]
              · rfl
              · intro h
                obtain ⟨q, hq, e⟩ := List.any_eq_true.mp h
                exact hnot (List.mem_map.mpr ⟨q, hq, of_decide_eq_true e⟩)
            rw [hput] at hk6
            refine LI.mk (s34.trans s5) O6 ?_
            refine ⟨kv6, _, _, _, _, _, rfl, rfl, hk6, ?_⟩
            rw [List.take_add_one, hi, List.all_append, hall]
            show (true && ([r].all _)) = true
            rw [List.all_cons, hmay]
            rfl
      · rintro σ' H3 F3 m3 s3 O3 ⟨kvs, u3, u4, u5, u6, u7, rfl, rfl, hk, hall⟩
        rw [List.take_length] at hk hall
        have s13 := s1.trans s3
        obtain ⟨O4, s4, h4⟩ := freezeD O3 hk
        have s14 := s13.trans s4
        walk_at "x"
        refine mq_of (O4.frz (s14 _ _ hat)) (lk_ne (by decide +kernel)) ?_
        walk_at "x"
        refine ⟨_, rows, _, m, rfl, O4, up s14 hv, ?_⟩
        walk_at "x"
        refine x_dinF O4 (dictX h4) ?_
        walk_at "x"
        cases h0 : (getD p 0).isSome with
        | false =>
          refine x_iteT rfl ?_
          walk_at "x"
          rw [verdict_no3 h0] at k
          exact k H3 _ s14 O4
        | true =>
          refine x_iteF rfl ?_
          walk_at "x"
          refine x_docS (S := rBool) O4 (up s14 hw) (fun i F5 m5 ys => m5 = m ∧ ys = (p.take i).map (holdsB rows p)) ⟨rfl, by simp⟩ ?_ ?_
          · rintro D acc i r z H5 F5 m5 ys hi hz s5 O5 hacc hyl ⟨rfl, rfl⟩
            refine x_gpair O5 hz (fun b1 b2 hb1 hb2 => ?_)
            have hb1 : b1 = .int r.1 := hb1
            subst hb1
            walk_at "x"
            refine ⟨rfl, ?_⟩
            walk_at "x"
            refine x_iteT rfl ?_
            walk_at "x"
            have hrm := List.mem_of_getElem? hi
            have hb := hsb r hrm
            obtain ⟨j, hj⟩ : ∃ j : Nat, r.1 = (j : Int) := ⟨r.1.toNat, by omega⟩
            rw [hj]
            refine ⟨.ref at_, .ref tb, rows, p, j, r.2, F5, _, rfl, O5, up (s14.trans s5) hv, up s5 h4, hS, by omega, getD_of hsn (by rw [← hj]; exact hrm), fun H6 F6 s6 O6 => ?_⟩
            refine x_keep (S := rBool) (z := holdsB rows p r) O6 (s5.trans s6) (by rw [← hj]; rfl) (all2_up s6 hacc) hyl (by have := (List.getElem?_eq_some_iff.mp hi).1; omega) ⟨rfl, ?_⟩
            rw [List.take_add_one, hi, List.map_append]
            rfl
          · rintro v5 H5 F5 m5 ys s5 O5 hv5 ⟨rfl, rfl⟩
            rw [List.take_length] at hv5
            walk_at "x"
            refine x_all O5 hv5 ?_
            have e : ((p.map (holdsB rows p)).all id) = verdict rows p := by
              rw [verdict_yes hst hall h0, List.all_map]
              rfl
            rw [e]
            exact k H5 F5 (s14.trans s5) O5
end
end Tf
namespace Tf
open PySem PySem.Spec PyProof.Rows L2
section
variable {P : Program} {w : World} {K : PySem.W.Frag} {mg : Str → Option Value} {base : Heap}
abbrev sCo : Stmt := top 25
abbrev NCo : List Str := ["pool"]
theorem scCo : FnScope NCo ["pool"] (defScope sCo) := ⟨rfl, rfl, rfl, by decide +kernel, rfl, by decide +kernel, by decide +kernel⟩
theorem ok_Co {f fC__law_draw fC__law_rare : Addr} {fd fd__law_draw fd__law_rare : FuncData} (F : Fun K "_law_cost" "_law_cost" sCo f fd) (T : Bi mg) (C__law_draw : Cal P w K mg base "_law_draw" 1 fC__law_draw fd__law_draw ["pool", "many"] spDraw)
    (C__law_rare : Cal P w K mg base "_law_rare" 2 fC__law_rare fd__law_rare ["pool", "many"] spRare) : FnOk P w K mg base CX0 3 f fd ["pool"] spCost := by
  refine F.ok scCo (fun vs H Q E h => ?_) (fun cdv A outer s H vs Q E hr h => ?_)
  · obtain ⟨p, o, F, m, rfl, _⟩ := h
    rfl
  · obtain ⟨p, o, F, m, rfl, O, hp, k⟩ := h
    refine ⟨_, 
    (pss_cons (ps_if (pt_val (pe_call C__law_rare.ok (hr.mono (by first | decide | omega)) rfl C__law_rare.mg C__law_rare.kp C__law_rare.bi .nil pass0 (pa_cons (pv 0) (pa_cons pe_int pa_nil)))) 
      (pss_one (ps_ret (pe_call C__law_draw.ok (hr.mono (by first | decide | omega)) rfl C__law_draw.mg C__law_draw.kp C__law_draw.bi .nil pass0 (pa_cons (pv 0) (pa_cons (pe_op op_pow pe_int pe_int) pa_nil))))) pss_nil)
    (pss_one (ps_ret (pe_call C__law_draw.ok (hr.mono (by first | decide | omega)) rfl C__law_draw.mg C__law_draw.kp C__law_draw.bi .nil pass0 (pa_cons (pv 0) (pa_cons pe_int pa_nil)))))), ?_⟩
    walk_at "x"
    refine ⟨p, o, _, F, m, rfl, O, hp, by decide, by decide, fun b H' o' O' hp' => ?_⟩
    walk_at "x"
    refine x_ite (fun _ => ?_) (fun _ => ?_)
    · walk_at "x"
      refine ⟨p, o', _, F, m, rfl, O', hp', by decide, by decide, fun r H2 o2 h1 h2 O2 hp2 => ?_⟩
      exact k r H2 o2 h1 O2 hp2
    · walk_at "x"
      refine ⟨p, o', _, F, m, rfl, O', hp', by decide, by decide, fun r H2 o2 h1 h2 O2 hp2 => ?_⟩
      exact k r H2 o2 h1 O2 hp2
abbrev sRo : Stmt := top 26
abbrev NRo : List Str := ["pool", "many", "k", "rows", "row", "n", "far"]
theorem scRo : FnScope NRo ["pool"] (defScope sRo) := ⟨rfl, rfl, rfl, by decide +kernel, rfl, by decide +kernel, by decide +kernel⟩
theorem ok_Ro {f f1 f2 f3 f4 f5 : Addr} {fd fd1 fd2 fd3 fd4 fd5 : FuncData} (F : Fun K "_law_rows" "_law_rows" sRo f fd) (T : Bi mg) (C__law_draw : Cal P w K mg base "_law_draw" 1 f1 fd1 ["pool", "many"] spDraw)
    (C__law_rare : Cal P w K mg base "_law_rare" 2 f2 fd2 ["pool", "many"] spRare) (C__law_pick : Cal P w K mg base "_law_pick" 2 f3 fd3 ["pool", "row"] spPick) (C__law_few : Cal P w K mg base "_law_few" 3 f4 fd4 ["pool", "usual", "most"] spFew)
    (C__law_cost : Cal P w K mg base "_law_cost" 3 f5 fd5 ["pool"] spCost) : FnOk P w K mg base CX0 4 f fd ["pool"] spRows := by
  refine F.ok scRo (fun vs H Q E h => ?_) (fun cdv A outer s H vs Q E hr h => ?_)
  · obtain ⟨p, o, F, m, rfl, _⟩ := h
    rfl
  · obtain ⟨p, o, F, m, rfl, O, hp, k⟩ := h
    refine ⟨_, 
    (pss_cons (ps_if (pt_val (pe_call C__law_rare.ok (hr.mono (by first | decide | omega)) rfl C__law_rare.mg C__law_rare.kp C__law_rare.bi .nil pass0 (pa_cons (pv 0) (pa_cons pe_int pa_nil)))) 
      (pss_cons (ps_set (i := 1) scRo.nd rfl (Or.inl rfl) (pe_op op_add pe_int (pe_call C__law_draw.ok (hr.mono (by first | decide | omega)) rfl C__law_draw.mg C__law_draw.kp C__law_draw.bi .nil pass0 (pa_cons (pv 0) (pa_cons pe_int pa_nil)))))
      (pss_one (ps_ret (pe_op op_cat (pe_lc (own := [("k", 2)]) (g := (gName 2)) (tt := tYes) rfl scRo.nd (pi_range1 (by rfl) T.b_range (pa_cons (pe_op op_sub (pv 1) pe_int) pa_nil)) (blkOk_by (N := NRo) (sc := defScope sRo) (by decide +kernel)) (fun _ _ _ _ _ => (pg_name (i := 2) scRo.nd rfl (by first | exact Or.inl rfl | exact Or.inr rfl))) (fun _ _ _ _ _ => pts_nil) (fun _ _ _ _ _ => (pe_lst (pa_cons (pe_tup (pa_cons (pe_call C__law_draw.ok (hr.mono (by first | decide | omega)) rfl C__law_draw.mg C__law_draw.kp C__law_draw.bi .nil pass0 (pa_cons (pv 0) (pa_cons pe_int pa_nil))) (pa_cons (pe_op op_add (pv 2) pe_int) pa_nil))) pa_nil)))) (pe_lst (pa_cons (pe_lst pa_nil) pa_nil)))))) pss_nil)
    (pss_cons (ps_set (i := 1) scRo.nd rfl (Or.inl rfl) (pe_op op_add pe_int (pe_call C__law_few.ok (hr.mono (by first | decide | omega)) rfl C__law_few.mg C__law_few.kp C__law_few.bi .nil pass0 (pa_cons (pv 0) (pa_cons pe_int (pa_cons pe_int pa_nil))))))
    (pss_cons (ps_set (i := 3) scRo.nd rfl (Or.inl rfl) (pe_lst pa_nil))
    (pss_cons (ps_for PassesOwn.never rfl (pi_range1 (by rfl) T.b_range (pa_cons (pe_op op_sub (pv 1) pe_int) pa_nil)) (pg_name (i := 2) scRo.nd rfl (Or.inl rfl)) 
      (pss_cons (ps_set (i := 4) scRo.nd rfl (Or.inl rfl) (pe_lst pa_nil))
      (pss_cons (ps_for PassesOwn.never rfl (pi_range1 (by rfl) T.b_range (pa_cons (pe_call C__law_pick.ok (hr.mono (by first | decide | omega)) rfl C__law_pick.mg C__law_pick.kp C__law_pick.bi .nil pass0 (pa_cons (pv 0) (pa_cons (pe_lst (pa_cons pe_int (pa_cons pe_int (pa_cons pe_int (pa_cons pe_int (pa_cons pe_int (pa_cons pe_int (pa_cons pe_int pa_nil)))))))) pa_nil))) pa_nil)) (pg_name (i := 5) scRo.nd rfl (Or.inl rfl)) 
        (pss_cons (ps_set (i := 6) scRo.nd rfl (Or.inl rfl) (pe_callB (cr_min2 rfl) (by rfl) T.b_min (by decide +kernel) (pa_cons (pe_op op_sub (pe_op op_sub (pv 1) pe_int) (pv 2)) (pa_cons (pe_call C__law_pick.ok (hr.mono (by first | decide | omega)) rfl C__law_pick.mg C__law_pick.kp C__law_pick.bi .nil pass0 (pa_cons (pv 0) (pa_cons (pe_lst (pa_cons pe_int (pa_cons pe_int (pa_cons pe_int (pa_cons (pv 1) pa_nil))))) pa_nil))) pa_nil))))
        (pss_one (ps_expr (pe_bm PySem.F.plainAttrs_list PySem.F.slot_list_append PySem.F.type_list_append mt_append (pv 4) (pa_cons (pe_tup (pa_cons (pe_call C__law_cost.ok (hr.mono (by first | decide | omega)) rfl C__law_cost.mg C__law_cost.kp C__law_cost.bi .nil pass0 (pa_cons (pv 0) pa_nil)) (pa_cons (pe_op op_add (pe_op op_add (pv 2) pe_int) (pe_call C__law_draw.ok (hr.mono (by first | decide | omega)) rfl C__law_draw.mg C__law_draw.kp C__law_draw.bi .nil pass0 (pa_cons (pv 0) (pa_cons (pv 6) pa_nil)))) pa_nil))) pa_nil))))))
      (pss_one (ps_expr (pe_bm PySem.F.plainAttrs_list PySem.F.slot_list_append PySem.F.type_list_append mt_append (pv 3) (pa_cons (pv 4) pa_nil)))))))
    (pss_one (ps_ret (pe_op op_cat (pv 3) (pe_lst (pa_cons (pe_lst pa_nil) pa_nil))))))))), ?_⟩
    walk_at "x"
    refine ⟨p, o, _, F, m, rfl, O, hp, by decide, by decide, fun b H1 o1 O1 hp1 => ?_⟩
    walk_at "x"
    refine x_ite (fun _ => ?_) (fun _ => ?_)
    · walk_at "x"
      refine ⟨p, o1, _, F, m, rfl, O1, hp1, by decide, by decide, fun r H2 o2 r0 r1 O2 hp2 => ?_⟩
      walk_at "x"
      obtain ⟨n, hn⟩ : ∃ n : Nat, (1050 + r - 1).toNat = n := ⟨_, rfl⟩
      refine x_docR1 (S := rRow) (n := n) O2 hn (by omega) (by omega) (fun i F5 m5 ys => ∃ o5, m5 = (p, o5) :: m ∧ PoolOk F5 o5 ∧ ys.length = i ∧ RowsTo (n + 1) ys) ⟨o2, rfl, hp2, rfl, .nil⟩ ?_ ?_ ?_
      · rintro D acc i H5 F5 m5 ys hi s5 O5 hacc hyl ⟨o5, rfl, hp5, hyi, hto⟩
        walk_at "x"
        refine ⟨rfl, ?_⟩
        walk_at "x"
        refine x_iteT rfl ?_
        walk_at "x"
        refine ⟨p, o5, _, F5, _, rfl, O5.swap, hp5, by decide, by decide, fun c H6 o6 c0 c1 O6 hp6 => ?_⟩
        walk_at "x"
        refine x_newPair (R := rInt) (S := rNat) (x := c) (y := i + 1) O6 rfl (by show V.int _ = V.int _; congr 1) (fun v7 H7 F7 s7 O7 hv7 => ?_)
        walk_at "x"
        refine x_newL (R := rPair rInt rNat) (xs := [(c, i + 1)]) O7 (by show 1 ≤ _; decide) (.cons hv7 .nil) (fun v8 H8 F8 s8 O8 hv8 => ?_)
        refine x_keep O8.swap (s5.trans (s7.trans s8)) hv8 (all2_up (s7.trans s8) hacc) hyl (by omega) ⟨o6, rfl, hp6.up (s7.trans s8), by rw [List.length_append, hyi]; rfl, hto.snoc (by simp) (fun q hq => ?_)⟩
        rw [List.mem_singleton.mp hq, hyi]
        exact ⟨c0, by show i < i + 1; omega, by show i + 1 < n + 1; omega⟩
      · rintro v5 H5 F5 m5 ys s5 O5 hv5 ⟨o5, rfl, hp5, hyi, hto⟩
        walk_at "x"
        refine x_newL (R := rPair rInt rNat) (xs := []) O5 (Nat.zero_le _) .nil (fun v6 H6 F6 s6 O6 hv6 => ?_)
        walk_at "x"
        refine x_newL (R := rRow) (xs := [[]]) O6 (by show 1 ≤ _; decide) (.cons hv6 .nil) (fun v7 H7 F7 s7 O7 hv7 => ?_)
        walk_at "x"
        refine x_cat (R := rRow) O7 (up (s6.trans s7) hv5) hv7 (by show _ + 1 ≤ _; omega) (fun v8 H8 F8 s8 O8 hv8 => ?_)
        walk_at "x"
        exact k v8 H8 F8 o5 _ (s5.trans (s6.trans (s7.trans s8))) O8 (hp5.up (s6.trans (s7.trans s8))) hv8 (hto.done (by omega) (by omega))
      · rintro F6 F7 m6 ys j s6 ⟨o6, e6, h6, h7⟩
        exact ⟨o6, e6, h6.up s6, h7⟩
    · walk_at "x"
      refine ⟨p, o1, _, _, F, m, rfl, O1, hp1, by decide, by decide, by decide, by decide, fun r H2 o2 r0 r1 O2 hp2 => ?_⟩
      walk_at "x"
      refine x_ownL (vs := []) O2 (Nat.zero_le _) (fun rl H3 hn3 O3 => ?_)
      walk_at "x"
      obtain ⟨n, hn⟩ : ∃ n : Nat, (1 + r - 1).toNat = n := ⟨_, rfl⟩
      have er : 1 + r = ((n + 1 : Nat) : Int) := by omega
      refine x_doR1 O3 hn (by omega) (by omega) (fun i σ F' m' => ∃ (us : List V) (rs : List Row) (o' : HO) (u1 u2 u3 u4 : Option V), σ = [some (.ref p), some (.int (1 + r)), u1, some (.ref rl), u2, u3, u4] ∧ m' = (rl, .lst us) :: (p, o') :: m ∧ PoolOk F' o' ∧ All2 (rRow F') rs us ∧ rs.length = i ∧ RowsTo (n + 1) rs)
        ⟨[], [], o2, _, _, _, _, rfl, rfl, hp2, .nil, rfl, .nil⟩ ?_ ?_
      · rintro i σ' H4 F4 m4 hi s4 O4 ⟨us, rs, o4, u1, u2, u3, u4, rfl, rfl, hp4, hus, hrs, hto⟩
        walk_at "x"
        refine x_ownL (vs := []) O4 (Nat.zero_le _) (fun rw H5 hn5 O5 => ?_)
        walk_at "x"
        have hmenu : ∀ {F' : Hp}, All2 (rInt F') [(0 : Int), 1, 1, 2, 2, 3, 4] [V.int 0, V.int 1, V.int 1, V.int 2, V.int 2, V.int 3, V.int 4] := All2.ofmap (f := V.int)
        refine x_newL (R := rInt) (xs := [0, 1, 1, 2, 2, 3, 4]) O5 (by show 7 ≤ _; decide) hmenu (fun v6 H6 F6 s6 O6 hv6 => ?_)
        obtain ⟨a6, us6, rfl, ha6, hus6⟩ := hv6
        have eus6 := ints_of hus6
        subst eus6
        walk_at "x"
        refine ⟨p, o4, a6, _, F6, _, rfl, O6.rot3, hp4.up s6, ha6, by simp, by simp, fun w7 H7 o7 hw7 O7 hp7 => ?_⟩
        obtain ⟨z, hz, rfl⟩ := List.mem_map.mp hw7
        have hz6 : 0 ≤ z ∧ z ≤ 6 := by
          simp at hz
          omega
        walk_at "x"
        refine x_doR1 (n := z.toNat) O7 rfl (by omega) (by omega) (fun j σ F' m' => ∃ (qs : List V) (row : Row) (o' : HO) (u1 u2 : Option V), σ = [some (.ref p), some (.int (1 + r)), some (.int (i : Int)), some (.ref rl), some (.ref rw), u1, u2] ∧ m' = (p, o') :: (rw, .lst qs) :: (rl, .lst us) :: m ∧ PoolOk F' o' ∧ All2 (rPair rInt rNat F') row qs ∧ row.length = j ∧ RowTo i (n + 1) row)
          ⟨[], [], o7, _, _, rfl, rfl, hp7, .nil, rfl, fun q hq => (nomatch hq)⟩ ?_ ?_
        · rintro j σ' H8 F8 m8 hj s8 O8 ⟨qs, row, o8, u5, u6, rfl, rfl, hp8, hqs, hjl, hrow⟩
          walk_at "x"
          have hmenu2 : ∀ {F' : Hp}, All2 (rInt F') [1, 2, 3, 1 + r] [V.int 1, V.int 2, V.int 3, V.int (1 + r)] := All2.ofmap (f := V.int)
          refine x_newL (R := rInt) (xs := [1, 2, 3, 1 + r]) O8 (by show 4 ≤ _; decide) hmenu2 (fun v9 H9 F9 s9 O9 hv9 => ?_)
          obtain ⟨a9, us9, rfl, ha9, hus9⟩ := hv9
          have eus9 := ints_of hus9
          subst eus9
          walk_at "x"
          refine ⟨p, o8, a9, _, F9, _, rfl, O9, hp8.up s9, ha9, by simp, by simp, fun wa Ha oa hwa Oa hpa => ?_⟩
          obtain ⟨z2, hz2, rfl⟩ := List.mem_map.mp hwa
          have hz2' : 0 < z2 ∧ z2 < 1000 := by
            simp at hz2
            omega
          walk_at "x"
          refine ⟨ty_list (Oa.swap.at0), ?_⟩
          walk_at "x"
          refine ⟨p, oa, F9, _, rfl, Oa, hpa, fun c Hb ob c0 Ob hpb => ?_⟩
          walk_at "x"
          have hfar : (0 : Int) < (if z2 < 1 + r - 1 - (i : Int) then z2 else 1 + r - 1 - (i : Int)) ∧ (if z2 < 1 + r - 1 - (i : Int) then z2 else 1 + r - 1 - (i : Int)) ≤ 1 + r - 1 - (i : Int) := by
            split <;> omega
          refine ⟨p, ob, _, F9, _, rfl, Ob, hpb, hfar.1, by omega, fun d Hc oc d0 d1 Oc hpc => ?_⟩
          walk_at "x"
          obtain ⟨b, hb⟩ : ∃ b : Nat, (i : Int) + 1 + d = (b : Int) := ⟨((i : Int) + 1 + d).toNat, by omega⟩
          rw [hb]
          refine x_newPair (R := rInt) (S := rNat) (x := c) (y := b) Oc rfl rfl (fun ve He Fe se Oe hve => ?_)
          walk_at "x"
          have hql : qs.length = j := by rw [← hqs.length]; exact hjl
          refine x_append Oe.swap (by omega) (fun Hf Of => ?_)
          walk_at "x"
          refine LI.mk (s8.trans (s9.trans se)) Of.swap ?_
          exact ⟨qs ++ [ve], row ++ [(c, b)], oc, _, _, rfl, rfl, hpc.up se, (all2_up (s9.trans se) hqs).snoc hve, by rw [List.length_append]; exact congrArg (· + 1) hjl, hrow.snoc c0 (by omega) (by omega)⟩
        · rintro σ' H8 F8 m8 s8 O8 ⟨qs, row, o8, u5, u6, rfl, rfl, hp8, hqs, hjl, hrow⟩
          walk_at "x"
          have hql : qs.length = row.length := hqs.length.symm
          have hul : us.length = i := by rw [← hus.length]; exact hrs
          have Oa := O8.swap.freeze
          have sa := O8.swap.freeze_same
          refine ⟨ty_list Oa.swap.at0, ?_⟩
          walk_at "x"
          refine x_append Oa.swap (by omega) (fun Hb Ob => ?_)
          walk_at "x"
          have sall := s6.trans (s8.trans sa)
          refine LI.mk (s4.trans sall) Ob ?_
          refine ⟨us ++ [.ref rw], rs ++ [row], o8, _, _, _, _, rfl, rfl, hp8.up sa, (all2_up sall hus).snoc ⟨rw, qs, rfl, upd_same, all2_up sa hqs⟩, by rw [List.length_append]; exact congrArg (· + 1) hrs, hto.snoc (by omega) ?_⟩
          rw [hrs]
          exact hrow
      · rintro σ' H4 F4 m4 s4 O4 ⟨us, rs, o4, u1, u2, u3, u4, rfl, rfl, hp4, hus, hrs, hto⟩
        walk_at "x"
        have O5 := O4.freeze
        have s5 := O4.freeze_same
        walk_at "x"
        refine x_newL (R := rPair rInt rNat) (xs := []) O5 (Nat.zero_le _) .nil (fun v6 H6 F6 s6 O6 hv6 => ?_)
        walk_at "x"
        refine x_newL (R := rRow) (xs := [[]]) O6 (by show 1 ≤ _; decide) (.cons hv6 .nil) (fun v7 H7 F7 s7 O7 hv7 => ?_)
        walk_at "x"
        have hrl : rRows (upd F4 rl (.lst us)) rs (.ref rl) := ⟨rl, us, rfl, upd_same, all2_up s5 hus⟩
        refine x_cat (R := rRow) O7 (up (s6.trans s7) hrl) hv7 (by show _ + 1 ≤ _; omega) (fun v8 H8 F8 s8 O8 hv8 => ?_)
        walk_at "x"
        exact k v8 H8 F8 o4 _ (s4.trans (s5.trans (s6.trans (s7.trans s8)))) O8 (hp4.up (s5.trans (s6.trans (s7.trans s8)))) hv8 (hto.done (by omega) (by omega))
abbrev sSu : Stmt := top 27
abbrev NSu : List Str := ["row", "table", "best", "step", "m", "total"]
theorem scSu : FnScope NSu ["row", "table"] (defScope sSu) := ⟨rfl, rfl, rfl, by decide +kernel, rfl, by decide +kernel, by decide +kernel⟩
theorem ok_Su {f : Addr} {fd : FuncData} (F : Fun K "_law_sums" "_law_sums" sSu f fd) : FnOk P w K mg base CX0 1 f fd ["row", "table"] spLeastG := by
  refine F.ok scSu (fun vs H Q E h => ?_) (fun cdv A outer s H vs Q E hr h => ?_)
  · obtain ⟨v, w, row, tab, look, F, m, rfl, _⟩ := h
    rfl
  · obtain ⟨v, w, row, tab, look, F, m, rfl, O, hv, hw, hrow, hB, k⟩ := h
    have hu := hu_of hr
    refine ⟨_, 
    (pss_cons (ps_set (i := 2) scSu.nd rfl (Or.inl rfl) pe_dnewK)
    (pss_cons (ps_for PassesOwn.never rfl (pi_list (pv 0)) (pg_name (i := 3) scSu.nd rfl (Or.inl rfl)) 
      (pss_one (ps_lock (ps_for PassesOwn.never rfl (pi_keys (pe_dget hu (pv 1) (pe_ix (r := rIxT K) ix_tup (pv 3) pe_int (fun _ _ => rfl)) (fun _ _ => rfl))) (pg_name (i := 4) scSu.nd rfl (Or.inl rfl)) 
        (pss_cons (ps_set (i := 5) scSu.nd rfl (Or.inl rfl) (pe_op op_add (pe_ix (r := rIxT K) ix_tup (pv 3) pe_int (fun _ _ => rfl)) (pe_dget hu (pe_dget hu (pv 1) (pe_ix (r := rIxT K) ix_tup (pv 3) pe_int (fun _ _ => rfl)) (fun _ _ => rfl)) (pv 4) (fun _ _ => rfl))))
        (pss_one (ps_if (PW.pt (pw_or (pt_cmp (pc_dnotin hu (pe_op op_add (pv 4) pe_int) (pv 2))) (pw_or1 (pt_cmpR op_lt (pv 5) (pe_dget hu (pv 2) (pe_op op_add (pv 4) pe_int) (fun _ _ => rfl)) (nomark _))))) 
          (pss_one (ps_dput hu (pv 2) (pe_op op_add (pv 4) pe_int) (pv 5) rfl)) pss_nil)))))))
    (pss_one (ps_ret (pv 2))))), ?_⟩
    walk_at "x"
    refine x_dnew O (fun ld H1 hn1 O1 => ?_)
    walk_at "x"
    refine x_doL O1 hv (fun i σ F' m' => F' = F ∧ ∃ (kvs : List (Key × V)) (u1 u2 u3 : Option V), σ = [some v, some w, some (.ref ld), u1, u2, u3] ∧ m' = (ld, .dK kvs) :: m ∧ kvR rInt F (leastOf (row.take i) look) kvs)
      ⟨rfl, [], _, _, _, rfl, rfl, .nil⟩ ?_ ?_
    · rintro i p z σ' H' F' m' hi hz s O' ⟨rfl, kvs, u1, u2, u3, rfl, rfl, hk⟩
      walk_at "x"
      obtain ⟨hg, hkeys⟩ := hrow p (List.mem_of_getElem? hi)
      obtain ⟨tb, kvT, _, rfl, htb, hvT, a, kv1, rfl, ha, hkv⟩ := dict_at hw hg
      have hacc := len_of (row.take i) (look := look) fun q hq => (hrow q (List.mem_of_mem_take hq)).2
      have hil := (List.getElem?_eq_some_iff.mp hi).1
      rw [List.length_take] at hacc
      refine x_lock O' ha (fun od H2 F2 O2 le2 hf2 back => ?_)
      have hR2 : Rd F2 tb (.dK kvT) := le2.dk _ _ htb
      have hz2 : rPair rInt rNat F2 p z := Mono.le le2 hz
      walk_at "x"
      refine x_snd O2 hz2 (fun a2 ha2 => ?_)
      have ha2 : a2 = .int (p.2 : Int) := ha2
      subst ha2
      refine x_dgetR O2 hR2 hvT ?_
      refine x_doK O2 hf2 hkv (fun j σ F3 m3 => ∃ (kvs : List (Key × V)) (u1 u2 : Option V), σ = [some v, some (.ref tb), some (.ref ld), some z, u1, u2] ∧ m3 = (ld, .dK kvs) :: m ∧
        kvR rInt F2 ((((look p.2).take j).map (·.1)).foldl (leastStep p.1 (look p.2)) (leastOf (row.take i) look)) kvs) ⟨kvs, _, _, rfl, rfl, hk⟩ ?_ ?_
      · rintro j q σ' H3 F3 m3 hj s3 O3 ⟨kvs3, u5, u6, rfl, rfl, hk3⟩
        walk_at "x"
        refine x_fst O3 (up s3 hz2) (fun a1 ha1 => ?_)
        have ha1 : a1 = .int p.1 := ha1
        subst ha1
        walk_at "x"
        refine x_snd O3 (up s3 hz2) (fun a2 ha2 => ?_)
        have ha2 : a2 = .int (p.2 : Int) := ha2
        subst ha2
        refine x_dgetR O3 (rd_same s3 hR2) hvT ?_
        walk_at "x"
        have hqm : q.1 ∈ (look p.2).map (·.1) := List.mem_map_of_mem (List.mem_of_getElem? hj)
        obtain ⟨c, hc⟩ := getD_some hqm
        have hvc : valV kv1 (Sum.inl q.1) = some (.int c) := by
          rcases hkv.get q.1 with ⟨e1, _⟩ | ⟨y, w1, e1, e2, hr⟩
          · rw [hc] at e1
            cases e1
          · rw [hc] at e1
            cases e1
            cases hr
            exact e2
        refine x_dgetR O3 (.inr ⟨od, s3 _ _ hf2⟩) hvc ?_
        walk_at "x"
        have hk3' := hk3.up s3
        have hstep : (((look p.2).take (j + 1)).map (·.1)).foldl (leastStep p.1 (look p.2)) (leastOf (row.take i) look) = leastStep p.1 (look p.2) ((((look p.2).take j).map (·.1)).foldl (leastStep p.1 (look p.2)) (leastOf (row.take i) look)) q.1 := by
          rw [List.take_add_one, hj, List.map_append, List.foldl_append]
          rfl
        have hK := len_fold (c := p.1) (ls := look p.2) (((look p.2).take j).map (·.1)) (acc := leastOf (row.take i) look)
        have hjl := (List.getElem?_eq_some_iff.mp hj).1
        rw [List.length_map, List.length_take] at hK
        generalize hA : (((look p.2).take j).map (·.1)).foldl (leastStep p.1 (look p.2)) (leastOf (row.take i) look) = acc at hk3 hk3' hstep hK
        refine x_dinO O3 hk3' ?_
        walk_at "x"
        cases hg1 : getD acc (q.1 + 1) with
        | none =>
          refine x_iteT rfl ?_
          walk_at "x"
          refine x_iteT rfl ?_
          walk_at "x"
          refine x_dputO O3 hk3' (x := p.1 + c) (R := rInt) rfl (by omega) (fun kvs4 H4 hk4 O4 => ?_)
          walk_at "x"
          refine LI.mk s3 O4 ?_
          refine ⟨kvs4, _, _, rfl, rfl, ?_⟩
          rw [hstep]
          unfold leastStep
          rw [hg1, hc]
          exact hk4.mono fun _ _ h => h
        | some x =>
          refine x_iteF rfl ?_
          walk_at "x"
          refine x_dgetO O3 hk3' hg1 (fun wx hwx => ?_)
          have hwx : wx = .int x := hwx
          subst hwx
          walk_at "x"
          refine x_iteD (fun hlt => ?_) (fun hlt => ?_)
          · walk_at "x"
            refine x_dputO O3 hk3' (x := p.1 + c) (R := rInt) rfl (by omega) (fun kvs4 H4 hk4 O4 => ?_)
            walk_at "x"
            refine LI.mk s3 O4 ?_
            refine ⟨kvs4, _, _, rfl, rfl, ?_⟩
            rw [hstep]
            unfold leastStep
            rw [hg1, hc]
            dsimp only [Option.getD_some]
            rw [if_pos hlt]
            exact hk4.mono fun _ _ h => h
          · walk_at "x"
            refine LI.mk s3 O3 ?_
            refine ⟨kvs3, _, _, rfl, rfl, ?_⟩
            rw [hstep]
            unfold leastStep
            rw [hg1, hc]
            dsimp only [Option.getD_some]
            rw [if_neg hlt]
            exact hk3.mono fun _ _ h => h
      · rintro σ' H3 F3 m3 s3 O3 ⟨kvs3, u5, u6, rfl, rfl, hk3⟩
        rw [List.take_length] at hk3
        refine x_unlock O3 hf2 back s3 (fun H4 F4 s4 le4 O4 => ?_)
        walk_at "x"
        refine LI.mk (Same.refl _) (O4.back s4) ⟨rfl, kvs3, _, _, _, rfl, rfl, ?_⟩
        rw [List.take_add_one, hi]
        show kvR rInt _ (leastOf (row.take i ++ [p]) look) kvs3
        unfold leastOf
        rw [List.foldl_append]
        exact hk3.mono fun _ _ h => h
    · rintro σ' H' F' m' s O' ⟨rfl, kvs, u1, u2, u3, rfl, rfl, hk⟩
      rw [List.take_length] at hk
      walk_at "x"
      exact k ld kvs H' O' hk
end
end Tf
namespace Tf
open PySem PySem.Spec PyProof.Rows L2
def spAsc : Sp := fun vs H Q _ => ∃ (v : V) (ps : List (Int × Int)) (F : Hp) (m : Mem), vs = [v] ∧ Own H F m ∧ rPairsL F ps v ∧ ∀ H' F', Same F F' → Own H' F' m → Q (.bl (pairsOk (-1) ps)) H'
section
variable {P : Program} {w : World} {K : PySem.W.Frag} {mg : Str → Option Value} {base : Heap}
abbrev sLq : Stmt := top 32
abbrev NLq : List Str := ["pairs", "last", "pair"]
theorem scLq : FnScope NLq ["pairs"] (defScope sLq) := ⟨rfl, rfl, rfl, by decide +kernel, rfl, by decide +kernel, by decide +kernel⟩
theorem ok_Lq {f : Addr} {fd : FuncData} (F : Fun K "_law_ascends" "_law_ascends" sLq f fd) : FnOk P w K mg base CX0 1 f fd ["pairs"] spAsc := by
  refine F.ok scLq (fun vs H Q E h => ?_) (fun cdv A outer s H vs Q E hr h => ?_)
  · obtain ⟨v, ps, F, m, rfl, _⟩ := h
    rfl
  · obtain ⟨v, ps, F, m, rfl, O, hv, k⟩ := h
    refine ⟨_, 
    (pss_cons (ps_set (i := 1) scLq.nd rfl (Or.inl rfl) (pe_un un_neg pe_int))
    (pss_cons (ps_for PassesOwn.never rfl (pi_list (pv 0)) (pg_name (i := 2) scLq.nd rfl (Or.inl rfl)) 
      (pss_cons (ps_if (PW.pt (pw_or (pt_cmpR op_le (pe_ix (r := rIxT K) ix_tup (pv 2) pe_int (fun _ _ => rfl)) (pv 1) (nomark _)) (pw_or1 (pt_cmpR op_lt (pe_ix (r := rIxT K) ix_tup (pv 2) pe_int (fun _ _ => rfl)) pe_int (nomark _))))) 
        (pss_one (ps_ret pe_bl)) pss_nil)
      (pss_one (ps_set (i := 1) scLq.nd rfl (Or.inl rfl) (pe_ix (r := rIxT K) ix_tup (pv 2) pe_int (fun _ _ => rfl))))))
    (pss_one (ps_ret pe_bl)))), ?_⟩
    walk_at "x"
    refine x_doL O hv (fun i σ F' m' => ∃ (last : Int) (u1 : Option V), σ = [some v, some (.int last), u1] ∧ m' = m ∧ pairsOk (-1) ps = pairsOk last (ps.drop i)) ⟨-1, _, rfl, rfl, rfl⟩ ?_ ?_
    · rintro i p z σ' H1 F1 m1 hi hz s1 O1 ⟨last, u1, rfl, rfl, hl⟩
      have hd : ps.drop i = p :: ps.drop (i + 1) := by
        have il := (List.getElem?_eq_some_iff.mp hi).1
        rw [List.drop_eq_getElem_cons il, (List.getElem?_eq_some_iff.mp hi).2]
      rw [hd, pairsOk_cons] at hl
      walk_at "x"
      refine x_fst O1 hz (fun a1 ha1 => ?_)
      have ha1 : a1 = .int p.1 := ha1
      subst ha1
      walk_at "x"
      refine x_iteD (fun h => ?_) (fun h => ?_)
      · refine x_iteT rfl ?_
        walk_at "x"
        have e : pairsOk (-1) ps = false := by
          rw [hl, decide_eq_false (show ¬ last < p.1 by omega)]
          rfl
        rw [e] at k
        exact k H1 F1 s1 O1
      · walk_at "x"
        refine x_snd O1 hz (fun a2 ha2 => ?_)
        have ha2 : a2 = .int p.2 := ha2
        subst ha2
        walk_at "x"
        refine x_iteD (fun h2 => ?_) (fun h2 => ?_)
        · walk_at "x"
          have e : pairsOk (-1) ps = false := by
            rw [hl, decide_eq_false (show ¬ 0 ≤ p.2 by omega), Bool.and_false]
            rfl
          rw [e] at k
          exact k H1 F1 s1 O1
        · walk_at "x"
          refine x_fst O1 hz (fun a1 ha1 => ?_)
          have ha1 : a1 = .int p.1 := ha1
          subst ha1
          walk_at "x"
          refine LI.mk s1 O1 ?_
          refine ⟨p.1, _, rfl, rfl, ?_⟩
          rw [hl, decide_eq_true (show last < p.1 by omega), decide_eq_true (show 0 ≤ p.2 by omega)]
          rfl
    · rintro σ' H1 F1 m1 s1 O1 ⟨last, u1, rfl, rfl, hl⟩
      rw [List.drop_length] at hl
      walk_at "x"
      have e : pairsOk (-1) ps = true := hl
      rw [e] at k
      exact k H1 F1 s1 O1
end
end Tf
namespace Tf
open PySem PySem.Spec PyProof.Rows L2
theorem pi_listK {X : Cx} {K : PySem.W.Frag} {tg e : Expr} {tl : TE} (he : PE X e tl) (hK : X.K = K) : PI X tg e (iList K tl) := hK ▸ pi_list he
def spRight : Sp := fun vs H Q _ => ∃ (p : Addr) (o : HO) (v : V) (rows : List Row) (F : Hp) (m : Mem), vs = [.ref p, v] ∧ Own H F ((p, o) :: m) ∧ PoolOk F o ∧ rRows F rows v ∧ RowsOk rows ∧ ∀ w H' F' o' pap, Same F F' → Own H' F' ((p, o') :: m) → PoolOk F' o' → rPapL F' pap w → RightP rows pap → Q w H'
/-- the states of the paper so far: those below i have told of their next ones -/
structure RSeen (rows : List Row) (i : Nat) (ks : List Int) : Prop where
  nd : ks.Nodup
  rng : ∀ x ∈ ks, 0 ≤ x ∧ x < (rows.length : Int)
  zero : (0 : Int) ∈ ks
  next : ∀ (j : Nat) (row : Row), j < i → (j : Int) ∈ ks → rows[j]? = some row → ∀ p ∈ row, (p.2 : Int) ∈ ks
theorem putB_mem {d : List (Int × Bool)} {k x : Int} : x ∈ (putD d k true).map (·.1) ↔ x ∈ d.map (·.1) ∨ x = k := by
  rw [putD_keys]
  split
  · next hk => exact ⟨.inl, fun h => h.elim id fun e => e ▸ hk⟩
  · rw [List.mem_append, List.mem_singleton]
theorem RSeen.start {rows : List Row} (w : WF rows) : RSeen rows 0 ([(0 : Int)]) := ⟨by simp, fun x hx => by
  rw [List.mem_singleton.mp hx]
  have := w.1
  omega, by simp, fun j row h => absurd h (Nat.not_lt_zero _)⟩
theorem RSeen.put {rows : List Row} {i : Nat} {d : List (Int × Bool)} {k : Nat} (h : RSeen rows i (d.map (·.1))) (hk : k < rows.length) (hi : i ≤ k) : RSeen rows i ((putD d (k : Int) true).map (·.1)) :=
  ⟨putD_nodup h.nd, fun x hx => (putB_mem.mp hx).elim (h.rng x) fun e => by omega, putB_mem.mpr (.inl h.zero), fun j row hj hm hr p hp => putB_mem.mpr (.inl ((putB_mem.mp hm).elim (fun hm => h.next j row hj hm hr p hp) fun e => by omega))⟩
theorem x_newTwo {α β : Type} {R : Rp α} {S : Rp β} {H F : Hp} {m : Mem} {Q : VK} [MonoS R] [MonoS S] {x : α} {y : β} {a b : V} (O : Own H F m) (hR : R F x a) (hS : S F y b)
    (k : ∀ v H' F', Same F F' → Own H' F' m → rTwo R S F' (x, y) v → Q v H') : NewL [a, b] Q H :=
  ⟨by show 2 ≤ sizeLine; decide, fun p hp => k _ _ _ (same_new (O.fresh hp)) (O.new hp) ⟨p, a, b, rfl, upd_same, up (same_new (O.fresh hp)) hR, up (same_new (O.fresh hp)) hS⟩⟩
abbrev paperOf (rows : List Row) (ks : List Int) (n : Nat) : Pap := ((List.range n).filter fun k : Nat => decide ((k : Int) ∈ ks)).map fun k : Nat => ((k : Int), told (lens rows k))
theorem paperOf_yes {rows : List Row} {ks : List Int} {n : Nat} (h : (n : Int) ∈ ks) : paperOf rows ks (n + 1) = paperOf rows ks n ++ [((n : Int), told (lens rows n))] := by
  unfold paperOf
  rw [List.range_succ, List.filter_append, List.filter_cons, if_pos (decide_eq_true h), List.filter_nil, List.map_append]
  rfl
theorem paperOf_no {rows : List Row} {ks : List Int} {n : Nat} (h : ¬ (n : Int) ∈ ks) : paperOf rows ks (n + 1) = paperOf rows ks n := by
  unfold paperOf
  rw [List.range_succ, List.filter_append, List.filter_cons, if_neg (by simpa using h), List.filter_nil, List.append_nil]
theorem RSeen.right {rows : List Row} {ks : List Int} (h : RSeen rows rows.length ks) : RightP rows (paperOf rows ks rows.length) := by
  refine ⟨((List.range rows.length).filter fun k : Nat => decide ((k : Int) ∈ ks)).map fun k : Nat => (k : Int), ?_, fun x hx => ?_, ?_, fun k row hk hr q hq => ?_, ?_⟩
  · refine List.Pairwise.map _ (fun a b hab => ?_) ((List.pairwise_lt_range (n := rows.length)).filter _)
    exact Int.ofNat_lt.mpr hab
  · obtain ⟨k, hk, rfl⟩ := List.mem_map.mp hx
    have := List.mem_range.mp (List.mem_filter.mp hk).1
    omega
  · refine List.mem_map.mpr ⟨0, List.mem_filter.mpr ⟨List.mem_range.mpr ?_, decide_eq_true h.zero⟩, rfl⟩
    have := h.rng 0 h.zero
    omega
  · obtain ⟨k2, hk2, e⟩ := List.mem_map.mp hk
    have e : (k2 : Int) = (k : Int) := e
    have e : k2 = k := by omega
    subst e
    obtain ⟨h1, h2⟩ := List.mem_filter.mp hk2
    have h3 := h.next k2 row (List.mem_range.mp h1) (of_decide_eq_true h2) hr q hq
    have h4 := h.rng _ h3
    exact List.mem_map.mpr ⟨q.2, List.mem_filter.mpr ⟨List.mem_range.mpr (by omega), decide_eq_true h3⟩, rfl⟩
  · unfold paperOf
    rw [List.map_map]
    exact List.map_congr_left fun k _ => by
      show ((k : Int), told (lens rows k)) = ((k : Int), told (lens rows (k : Int).toNat))
      rw [Int.toNat_natCast]
section
variable {P : Program} {w : World} {K : PySem.W.Frag} {mg : Str → Option Value} {base : Heap}
abbrev sRi : Stmt := top 28
abbrev NRi : List Str := ["pool", "rows", "table", "k", "seen", "every", "step", "m"]
theorem scRi : FnScope NRi ["pool", "rows"] (defScope sRi) := ⟨rfl, rfl, rfl, by decide +kernel, rfl, by decide +kernel, by decide +kernel⟩
theorem ok_Ri {f f1 f2 : Addr} {fd fd1 fd2 : FuncData} (F : Fun K "_law_right" "_law_right" sRi f fd) (T : Bi mg) (C__law_draw : Cal P w K mg base "_law_draw" 1 f1 fd1 ["pool", "many"] spDraw) (C__law_sums : Cal P w K mg base "_law_sums" 1 f2 fd2 ["row", "table"] spLeastG) : FnOk P w K mg base CX0 2 f fd ["pool", "rows"] spRight := by
  refine F.ok scRi (fun vs H Q E h => ?_) (fun cdv A outer s H vs Q E hr h => ?_)
  · obtain ⟨p, o, v, rows, F, m, rfl, _⟩ := h
    rfl
  · obtain ⟨p, o, v, rows, F, m, rfl, O, hp, hv, ok, k⟩ := h
    have hu := hu_of hr
    refine ⟨_, 
    (pss_cons (ps_set (i := 2) scRi.nd rfl (Or.inr rfl) pe_dnewK)
    (pss_cons (ps_for PassesOwn.never rfl (pi_range3 (by rfl) T.b_range (pa_cons (pe_op op_sub (pe_callB cr_len (by rfl) T.b_len (by decide +kernel) (pa_cons (pv 1) pa_nil)) pe_int) (pa_cons (pe_un un_neg pe_int) (pa_cons (pe_un un_neg pe_int) pa_nil)))) (pg_name (i := 3) scRi.nd rfl (Or.inl rfl)) 
      (pss_cons (ps_dput hu (pv 2) (pv 3) (pe_call C__law_sums.ok (hr.mono (by first | decide | omega)) rfl C__law_sums.mg C__law_sums.kp C__law_sums.bi .nil pass0 (pa_cons (pe_ix (r := rIxL K) ix_list (pv 1) (pv 3) (fun _ _ => rfl)) (pa_cons (pv 2) pa_nil))) rfl)
      (pss_one (ps_if (pt_cmpR op_eq (pv 3) (pe_op op_sub (pe_callB cr_len (by rfl) T.b_len (by decide +kernel) (pa_cons (pv 1) pa_nil)) pe_int) (nomark _)) 
        (pss_cons (ps_dput hu (pv 2) (pv 3) pe_dnewK rfl)
        (pss_one (ps_dput hu (pe_dget hu (pv 2) (pv 3) (fun _ _ => rfl)) pe_int pe_int rfl))) pss_nil))))
    (pss_cons (ps_set (i := 4) scRi.nd rfl (Or.inr rfl) pe_dnewK)
    (pss_cons (ps_dput hu (pv 4) pe_int pe_bl rfl)
    (pss_cons (ps_set (i := 5) scRi.nd rfl (Or.inl rfl) (pe_cmpR op_eq (pe_call C__law_draw.ok (hr.mono (by first | decide | omega)) rfl C__law_draw.mg C__law_draw.kp C__law_draw.bi .nil pass0 (pa_cons (pv 0) (pa_cons pe_int pa_nil))) pe_int (nomark _)))
    (pss_cons (ps_for PassesOwn.never rfl (pi_range1 (by rfl) T.b_range (pa_cons (pe_callB cr_len (by rfl) T.b_len (by decide +kernel) (pa_cons (pv 1) pa_nil)) pa_nil)) (pg_name (i := 3) scRi.nd rfl (Or.inl rfl)) 
      (pss_one (ps_if (PW.pt (pw_or (pt_cmp (pc_din hu (pv 3) (pv 4))) (pw_or1 (pt_val (pv 5))))) 
        (pss_cons (ps_dput hu (pv 4) (pv 3) pe_bl rfl)
        (pss_one (ps_for PassesOwn.never rfl (pi_list (pe_ix (r := rIxL K) ix_list (pv 1) (pv 3) (fun _ _ => rfl))) (pg_name (i := 6) scRi.nd rfl (Or.inl rfl)) 
          (pss_one (ps_dput hu (pv 4) (pe_ix (r := rIxT K) ix_tup (pv 6) pe_int (fun _ _ => rfl)) pe_bl rfl))))) pss_nil)))
    (pss_one (ps_ret (pe_lc (own := [("k", 3)]) (g := (gName 3)) rfl scRi.nd (pi_range1 (by rfl) T.b_range (pa_cons (pe_callB cr_len (by rfl) T.b_len (by decide +kernel) (pa_cons (pv 1) pa_nil)) pa_nil)) (blkOk_by (N := NRi) (sc := defScope sRi) (by decide +kernel)) (fun _ _ _ _ _ => (pg_name (i := 3) scRi.nd rfl (by first | exact Or.inl rfl | exact Or.inr rfl))) (fun _ _ _ _ _ => (pts_one (pt_cmp (pc_din hu (pv 3) (pv 4))))) (fun _ _ _ _ _ => (pe_lst (pa_cons (pv 3) (pa_cons (pe_lc (own := [("m", 7)]) (g := (gName 7)) (tt := tYes) rfl scRi.nd (Tf.pi_listK (K := K) (pe_callB (cr_sortedDI rfl) (by rfl) T.b_sorted (by decide +kernel) (pa_cons (pe_dget hu (pv 2) (pv 3) (fun _ _ => rfl)) pa_nil)) rfl) (blkOk_by (N := NRi) (by rfl)) (fun _ _ _ _ _ => (pg_name (i := 7) scRi.nd rfl (by first | exact Or.inl rfl | exact Or.inr rfl))) (fun _ _ _ _ _ => pts_nil) (fun _ _ _ _ _ => (pe_tup (pa_cons (pv 7) (pa_cons (pe_dget hu (pe_dget hu (pv 2) (pv 3) (fun _ _ => rfl)) (pv 7) (fun _ _ => rfl)) pa_nil))))) pa_nil))))))))))))), ?_⟩
    walk_at "x"
    have wf := ok.wf
    have hN := ok.len
    have hrl : ∀ row ∈ rows, row.length ≤ 1000 := fun row h => by
      have := ok.few row h
      omega
    refine x_dnew O (fun tb H1 hn1 O1 => ?_)
    walk_at "x"
    refine x_lenL O1 hv ?_
    walk_at "x"
    refine x_doDown (n := rows.length) O1 rfl (by omega) (fun i σ F' m' => ∃ (kvs : List (Key × V)) (tab : List (Int × List (Int × Int))) (u1 u2 u3 u4 u5 : Option V), σ = [some (.ref p), some v, some (.ref tb), u1, u2, u3, u4, u5] ∧ m' = (tb, .dK kvs) :: (p, o) :: m ∧ kvR rLens F' tab kvs ∧ tab.length ≤ i ∧
      (i = 0 → tab = []) ∧ ∀ j : Nat, rows.length - i ≤ j → j < rows.length → getD tab (j : Int) = some (lens rows j)) ⟨[], [], _, _, _, _, _, rfl, rfl, .nil, Nat.le_refl _, fun _ => rfl, fun j h1 h2 => by omega⟩ ?_ ?_
    · rintro i j σ' H2 F2 m2 hij s2 O2 ⟨kvs, tab, u1, u2, u3, u4, u5, rfl, rfl, hk, htl, ht0, hall⟩
      walk_at "x"
      have jl : j < rows.length := by omega
      obtain ⟨row, hrow⟩ := wf.row jl
      refine x_ixL (R := rRow) (j := j) O2 (up s2 hv) rfl hrow (fun rv hrv => ?_)
      walk_at "x"
      have Of := O2.freeze
      have sf := O2.freeze_same
      have hfree : F2 tb = none := O2.fr0
      have hlook : ∀ q ∈ row, getD tab (q.2 : Int) = some (lens rows q.2) ∧ (lens rows q.2).length ≤ 5000 := fun q hq => by
        have hw := wf.2 j row hrow q hq
        have := (lens_nd wf hw.2.2).len
        exact ⟨hall q.2 (by omega) hw.2.2, by omega⟩
      refine ⟨rv, .ref tb, row, tab, lens rows, _, _, rfl, Of, up sf hrv, dictX ⟨tb, kvs, rfl, upd_same, hk.up sf⟩, hlook, hrl row (List.mem_of_getElem? hrow), fun pd kl H9 O9 hkl => ?_⟩
      have O10 := O9.thaw hfree
      obtain ⟨O11, s11, h11⟩ := freezeD (R := rInt) (d := leastOf row (lens rows)) O10.swap (hkl.mono fun _ _ h => h)
      walk_at "x"
      refine x_dputO O11 (hk.up s11) h11 (by omega) (fun kvs2 H11 hk2 O12 => ?_)
      walk_at "x"
      have s211 := s2.trans s11
      refine x_lenL O12 (up s211 hv) ?_
      walk_at "x"
      refine x_iteD (fun hend => ?_) (fun hend => ?_)
      · have ei : i = 0 := by omega
        have et := ht0 ei
        subst et
        have er := wf.last hrow (by omega)
        subst er
        cases hk2 with
        | @cons _ q2 _ _ hq hr2 =>
          cases hr2
          obtain ⟨k2, w2⟩ := q2
          have hq1 : k2 = Sum.inl (j : Int) := hq.1
          subst hq1
          walk_at "x"
          refine x_dnew O12 (fun pe H12 hn12 O13 => ?_)
          walk_at "x"
          refine ⟨tb, _, rfl, .inl ⟨_, Sum.inl (j : Int), O13.swap.at0, rfl, by show 1 < sizeLine; rw [sizeLine_eq]; decide, rfl⟩, ?_⟩
          have O14 := O13.swap.set (.dK (putK [(Sum.inl (j : Int), w2)] (Sum.inl (j : Int)) (.ref pe)))
          have ep : putK [((Sum.inl (j : Int) : Key), w2)] (Sum.inl (j : Int)) (.ref pe) = [((Sum.inl (j : Int) : Key), V.ref pe)] := by
            unfold putK
            simp
          rw [ep] at O14 ⊢
          generalize upd H12 tb (.dK [((Sum.inl (j : Int) : Key), V.ref pe)]) = H14 at O14 ⊢
          walk_at "x"
          have hval : valV [((Sum.inl (j : Int) : Key), V.ref pe)] (Sum.inl (j : Int)) = some (V.ref pe) := by
            unfold valV
            simp
          refine ⟨tb, .ref pe, rfl, .inl ⟨_, Sum.inl (j : Int), .inl O14.at0, rfl, hval.symm⟩, ?_⟩
          walk_at "x"
          refine x_dputO (R := rInt) (d := []) (x := 0) O14.swap .nil rfl (by simp) (fun kvs6 H15 hk6 O15 => ?_)
          walk_at "x"
          obtain ⟨O16, s16, h16⟩ := freezeD O15 hk6
          refine LI.mk (s211.trans s16) O16 ?_
          refine ⟨_, [((j : Int), [(0, 0)])], _, _, _, _, _, rfl, rfl, .cons ⟨rfl, h16⟩ .nil, by simp, fun h => absurd h (by omega), fun j2 h1 h2 => ?_⟩
          have : j2 = j := by omega
          subst this
          rw [getD_cons, if_pos rfl, lens_last (by omega)]
      · walk_at "x"
        refine LI.mk s211 O12 ?_
        refine ⟨kvs2, _, _, _, _, _, _, rfl, rfl, hk2, ?_, fun h => absurd h (by omega), fun j2 h1 h2 => ?_⟩
        · have := putD_len (d := tab) (k := (j : Int)) (x := leastOf row (lens rows))
          omega
        · rw [getD_put]
          split
          · next e =>
            have : j2 = j := by omega
            subst this
            rw [lens_row wf hrow (by omega)]
          · next e => exact hall j2 (by omega) h2
    · rintro σ' H2 F2 m2 s2 O2 ⟨kvs, tab, u1, u2, u3, u4, u5, rfl, rfl, hk, htl, ht0, hall⟩
      obtain ⟨O3, s3, h3⟩ := freezeD O2 hk
      have s23 := s2.trans s3
      walk_at "x"
      refine x_dnew O3 (fun sn H4 hn4 O4 => ?_)
      walk_at "x"
      refine x_dputO (R := rBool) (d := []) (x := true) O4 .nil rfl (by simp) (fun kv5 H5 hk5 O5 => ?_)
      walk_at "x"
      refine ⟨p, o, _, _, _, rfl, O5.swap, hp.up s23, by decide, by decide, fun r H6 o6 r0 r1 O6 hp6 => ?_⟩
      walk_at "x"
      refine x_lenL O6 (up s23 hv) ?_
      walk_at "x"
      refine x_doR1 (n := rows.length) O6 rfl (by omega) (by omega) (fun i σ F' m' => ∃ (kvs : List (Key × V)) (d : List (Int × Bool)) (u1 u2 u3 : Option V), σ = [some (.ref p), some v, some (.ref tb), u1, some (.ref sn), some (.bl (decide (r = 1))), u2, u3] ∧ m' = (p, o6) :: (sn, .dK kvs) :: m ∧ kvR rBool F' d kvs ∧ RSeen rows i (d.map fun q : Int × Bool => q.1))
        ⟨kv5, _, _, _, _, rfl, rfl, hk5, RSeen.start wf⟩ ?_ ?_
      · rintro i σ' H7 F7 m7 hi s7 O7 ⟨kv7, d, u1, u2, u3, rfl, rfl, hk7, hs7⟩
        walk_at "x"
        obtain ⟨row, hrow⟩ := wf.row hi
        have s27 := s23.trans s7
        have hdl : d.length ≤ rows.length := by
          have := nodup_len rows.length _ hs7.nd hs7.rng
          rwa [List.length_map] at this
        refine x_dinO O7.swap hk7 ?_
        walk_at "x"
        refine x_orC (c := decide (r = 1)) (fun h => ?_) ?_
        · walk_at "x"
          exact h
        refine x_ite (fun hin => ?_) (fun hin => ?_)
        · walk_at "x"
          refine x_dputO (R := rBool) (x := true) O7.swap hk7 rfl (by omega) (fun kv8 H8 hk8 O8 => ?_)
          walk_at "x"
          refine x_ixL (R := rRow) (j := i) O8 (up s27 hv) rfl hrow (fun rv hrv => ?_)
          have hrl2 := hrl row (List.mem_of_getElem? hrow)
          refine x_doL O8 hrv (fun j σ F' m' => ∃ (kvs : List (Key × V)) (d : List (Int × Bool)) (u1 u2 : Option V), σ = [some (.ref p), some v, some (.ref tb), some (.int (i : Int)), some (.ref sn), some (.bl (decide (r = 1))), u1, u2] ∧ m' = (sn, .dK kvs) :: (p, o6) :: m ∧ kvR rBool F' d kvs ∧ RSeen rows i (d.map fun q : Int × Bool => q.1) ∧ (i : Int) ∈ (d.map fun q : Int × Bool => q.1) ∧ ∀ q ∈ row.take j, (q.2 : Int) ∈ (d.map fun q : Int × Bool => q.1))
            ⟨kv8, _, _, _, rfl, rfl, hk8, hs7.put hi (Nat.le_refl _), putB_mem.mpr (.inr rfl), fun q hq => by simp at hq⟩ ?_ ?_
          · rintro j q z σ' H9 F9 m9 hj hz s9 O9 ⟨kv9, d9, u4, u5, rfl, rfl, hk9, hs9, hi9, hq9⟩
            walk_at "x"
            refine x_snd O9 hz (fun a2 ha2 => ?_)
            have ha2 : a2 = .int (q.2 : Int) := ha2
            subst ha2
            have hw := wf.2 i row hrow q (List.mem_of_getElem? hj)
            have hdl9 : d9.length ≤ rows.length := by
              have := nodup_len rows.length _ hs9.nd hs9.rng
              rwa [List.length_map] at this
            refine x_dputO (R := rBool) (x := true) O9 hk9 rfl (by omega) (fun kv10 H10 hk10 O10 => ?_)
            walk_at "x"
            refine LI.mk s9 O10 ?_
            refine ⟨kv10, _, _, _, rfl, rfl, hk10, hs9.put hw.2.2 (by omega), putB_mem.mpr (.inl hi9), fun q2 hq2 => ?_⟩
            rw [List.take_add_one, hj] at hq2
            rcases List.mem_append.mp hq2 with h | h
            · exact putB_mem.mpr (.inl (hq9 q2 h))
            · have : q2 = q := by simpa using h
              subst this
              exact putB_mem.mpr (.inr rfl)
          · rintro σ' H9 F9 m9 s9 O9 ⟨kv9, d9, u4, u5, rfl, rfl, hk9, hs9, hi9, hq9⟩
            rw [List.take_length] at hq9
            walk_at "x"
            refine LI.mk (s7.trans s9) O9.swap ?_
            refine ⟨kv9, d9, _, _, _, rfl, rfl, hk9, hs9.nd, hs9.rng, hs9.zero, fun j row2 hj hm hr2 q hq => ?_⟩
            by_cases e : j = i
            · subst e
              rw [hrow] at hr2
              cases hr2
              exact hq9 q hq
            · exact hs9.next j row2 (by omega) hm hr2 q hq
        · walk_at "x"
          refine LI.mk s7 O7 ?_
          refine ⟨kv7, d, _, _, _, rfl, rfl, hk7, hs7.nd, hs7.rng, hs7.zero, fun j row2 hj hm hr2 q hq => ?_⟩
          by_cases e : j = i
          · subst e
            obtain ⟨x, hx⟩ := getD_some hm
            rw [hx] at hin
            cases hin
          · exact hs7.next j row2 (by omega) hm hr2 q hq
      · rintro σ' H7 F7 m7 s7 O7 ⟨kv7, d, u1, u2, u3, rfl, rfl, hk7, hs7⟩
        obtain ⟨O8, s8, h8⟩ := freezeD O7.swap hk7
        have s28 := s23.trans (s7.trans s8)
        have h38 := up (s7.trans s8) h3
        walk_at "x"
        refine x_lenL O8 (up s28 hv) ?_
        walk_at "x"
        refine x_docR1 (S := rTwo rInt rPairsL) (n := rows.length) O8 rfl (by omega) (by omega) (fun i F' m' ys => m' = (p, o6) :: m ∧ ys = paperOf rows (d.map fun q : Int × Bool => q.1) i) ⟨rfl, rfl⟩ ?_ ?_
        · rintro D acc i H9 F9 m9 ys hi s9 O9 hacc hyl ⟨rfl, rfl⟩
          walk_at "x"
          refine ⟨rfl, ?_⟩
          walk_at "x"
          refine x_dinF O9 (dictX (up s9 h8)) ?_
          walk_at "x"
          cases hg : getD d (i : Int) with
          | none =>
            refine x_iteF rfl ?_
            refine x_skip O9 s9 hacc hyl ⟨rfl, ?_⟩
            rw [paperOf_no (getD_none.mp hg)]
          | some bv =>
            refine x_iteT rfl ?_
            walk_at "x"
            have hdi := hall i (by omega) hi
            refine x_dgetF O9 (dictX (up s9 h38)) hdi (fun lv hlv => ?_)
            have hlv : rLens F9 (lens rows i) lv := hlv
            have hKl := (lens_nd wf hi).len
            walk_at "x"
            refine x_sortedD O9 (dictX hlv) (fun ns w2 H10 F10 hp2 hs2 s10 O10 hw2 => ?_)
            have hns := sortI_eq hp2 hs2
            subst hns
            refine x_docL (S := rPair rInt rInt) O10 hw2 (fun j F3 m3 ys => m3 = (D, .lst acc) :: (p, o6) :: m ∧ ys = ((sortI ((lens rows i).map (·.1))).take j).map fun q => (q, (getD (lens rows i) q).getD 0)) ⟨rfl, by simp⟩ ?_ ?_
            · rintro D2 acc2 j q w3 H11 F11 m11 ys2 hj hw3 s11 O11 hacc2 hyl2 ⟨rfl, rfl⟩
              have hw3 : w3 = .int q := hw3
              subst hw3
              walk_at "x"
              refine ⟨rfl, ?_⟩
              walk_at "x"
              refine x_iteT rfl ?_
              walk_at "x"
              have hqm : q ∈ (lens rows i).map (·.1) := (sortI_perm _).mem_iff.mp (List.mem_of_getElem? hj)
              obtain ⟨c, hc⟩ := getD_some hqm
              refine x_dgetF O11 (dictX (up (s9.trans (s10.trans s11)) h38)) hdi (fun lv2 hlv2 => ?_)
              have hlv2 : rLens F11 (lens rows i) lv2 := hlv2
              walk_at "x"
              refine x_dgetF O11 (dictX hlv2) hc (fun w4 hw4 => ?_)
              have hw4 : w4 = .int c := hw4
              subst hw4
              walk_at "x"
              refine x_newPair (R := rInt) (S := rInt) (x := q) (y := c) O11 rfl rfl (fun v4 H12 F12 s12 O12 hv4 => ?_)
              have jl := (List.getElem?_eq_some_iff.mp hj).1
              rw [(sortI_perm _).length_eq, List.length_map] at jl
              refine x_keep O12 (s11.trans s12) hv4 (all2_up s12 hacc2) hyl2 (by omega) ⟨rfl, ?_⟩
              rw [List.take_add_one, hj, List.map_append]
              simp [hc]
            · rintro v4 H11 F11 m11 ys2 s11 O11 hv4 ⟨rfl, rfl⟩
              rw [List.take_length] at hv4
              walk_at "x"
              refine x_newTwo (R := rInt) (S := rPairsL) (x := (i : Int)) (y := told (lens rows i)) O11 rfl hv4 (fun v5 H12 F12 s12 O12 hv5 => ?_)
              refine x_keep O12 (s9.trans (s10.trans (s11.trans s12))) hv5 (all2_up (s10.trans (s11.trans s12)) hacc) hyl (by omega) ⟨rfl, ?_⟩
              rw [paperOf_yes (List.mem_map.mpr ⟨_, getD_mem hg, rfl⟩)]
        · rintro v9 H9 F9 m9 ys s9 O9 hv9 ⟨rfl, rfl⟩
          walk_at "x"
          exact k v9 H9 F9 o6 _ (s28.trans s9) O9 (hp6.up (s7.trans (s8.trans s9))) hv9 hs7.right
end
end Tf
namespace Tf
open PySem PySem.Spec PyProof.Rows L2
section
variable {P : Program} {w : World} {K : PySem.W.Frag} {mg : Str → Option Value} {base : Heap}
theorem ok_PiO {f fC__law_draw : Addr} {fd fd__law_draw : FuncData} (F : Fun K "_law_pick" "_law_pick" sPi f fd) (T : Bi mg) (C__law_draw : Cal P w K mg base "_law_draw" 1 fC__law_draw fd__law_draw ["pool", "many"] spDraw) : FnOk P w K mg base CX0 2 f fd ["pool", "row"] spPickO := by
  refine F.ok scPi (fun vs H Q E h => ?_) (fun cdv A outer s H vs Q E hr h => ?_)
  · obtain ⟨p, o, a, us, F, m, rfl, _⟩ := h
    rfl
  · obtain ⟨p, o, a, us, F, m, rfl, O, hp, ha, hn, hl, k⟩ := h
    refine ⟨_, 
    (pss_one (ps_ret (pe_ix (r := rIxL K) ix_list (pv 1) (pe_call C__law_draw.ok (hr.mono (by first | decide | omega)) rfl C__law_draw.mg C__law_draw.kp C__law_draw.bi .nil pass0 (pa_cons (pv 0) (pa_cons (pe_callB cr_len (by rfl) T.b_len (by decide +kernel) (pa_cons (pv 1) pa_nil)) pa_nil))) (fun _ _ => rfl)))), ?_⟩
    walk_at "x"
    have hsq : ∀ {H' : Hp} {o' : HO}, Own H' F ((p, o') :: m) → H' a = some (.lst us) := fun O' => ha.elim O'.frz fun h => O'.get (List.mem_cons_of_mem _ h)
    refine ⟨a, us, rfl, .inl (.inl (.inl (hsq O))), ?_⟩
    walk_at "x"
    have h0 : 0 < us.length := List.length_pos_iff.mpr hn
    refine ⟨p, o, _, F, m, rfl, O, hp, by omega, by omega, fun r H' o' h1 h2 O' hp' => ?_⟩
    have hr' : r.toNat < us.length := by omega
    refine ⟨a, us, r, us[r.toNat], rfl, rfl, .inl (.inl (hsq O')), atI_of (j := r.toNat) (by omega) (List.getElem?_eq_getElem hr'), ?_⟩
    exact k _ H' o' (List.getElem_mem hr') O' hp'
abbrev sBe : Stmt := top 29
abbrev NBe : List Str := ["pool", "paper", "kind", "at", "other", "one"]
theorem scBe : FnScope NBe ["pool", "paper", "kind", "at"] (defScope sBe) := ⟨rfl, rfl, rfl, by decide +kernel, rfl, by decide +kernel, by decide +kernel⟩
theorem ok_Be {f f1 f2 : Addr} {fd fd1 fd2 : FuncData} (F : Fun K "_law_bend_states" "_law_bend_states" sBe f fd) (T : Bi mg) (C__law_draw : Cal P w K mg base "_law_draw" 1 f1 fd1 ["pool", "many"] spDraw) (C__law_pick : Cal P w K mg base "_law_pick" 2 f2 fd2 ["pool", "row"] spPickO) :
    FnOk P w K mg base CX0 3 f fd ["pool", "paper", "kind", "at"] spBend := by
  refine F.ok scBe (fun vs H Q E h => ?_) (fun cdv A outer s H vs Q E hr h => ?_)
  · obtain ⟨p, o, b, kind, at_, zs, pap, n, F, m, rfl, _⟩ := h
    rfl
  · obtain ⟨p, o, b, kind, j, zs, pap, n, F, m, rfl, O, hp, hR, hS, hn4, hn, hj, k⟩ := h
    refine ⟨_, 
    (pss_one (ps_if (pt_cmpR op_eq (pv 2) pe_int (nomark _)) 
      (pss_one (ps_expr (pe_bm PySem.F.plainAttrs_list PySem.F.slot_list_insert PySem.F.type_list_insert Tf.mt_ins (pv 1) (pa_cons (pe_callB cr_len (by rfl) T.b_len (by decide +kernel) (pa_cons (pv 1) pa_nil)) (pa_cons (pe_lst (pa_cons (pe_op op_add (pe_op op_add (pe_ix (r := rIxL K) ix_list (pe_ix (r := rIxL K) ix_list (pv 1) (pe_un un_neg pe_int) (fun _ _ => rfl)) pe_int (fun _ _ => rfl)) pe_int) (pe_call C__law_draw.ok (hr.mono (by first | decide | omega)) rfl C__law_draw.mg C__law_draw.kp C__law_draw.bi .nil pass0 (pa_cons (pv 0) (pa_cons pe_int pa_nil)))) (pa_cons (pe_call C__law_pick.ok (hr.mono (by first | decide | omega)) rfl C__law_pick.mg C__law_pick.kp C__law_pick.bi .nil pass0 (pa_cons (pv 0) (pa_cons (pe_lst (pa_cons (pe_lst pa_nil) (pa_cons (pe_lst (pa_cons (pe_tup (pa_cons pe_int (pa_cons pe_int pa_nil))) pa_nil)) (pa_cons (pe_lst (pa_cons (pe_tup (pa_cons pe_int (pa_cons pe_int pa_nil))) pa_nil)) pa_nil)))) pa_nil))) pa_nil))) pa_nil))))) 
      (pss_one (ps_if (pt_cmpR op_eq (pv 2) pe_int (nomark _)) 
        (pss_one (ps_expr (pe_bm PySem.F.plainAttrs_list PySem.F.slot_list_insert PySem.F.type_list_insert Tf.mt_ins (pv 1) (pa_cons pe_int (pa_cons (pe_lst (pa_cons (pe_op op_sub (pe_un un_neg pe_int) (pe_call C__law_draw.ok (hr.mono (by first | decide | omega)) rfl C__law_draw.mg C__law_draw.kp C__law_draw.bi .nil pass0 (pa_cons (pv 0) (pa_cons pe_int pa_nil)))) (pa_cons (pe_callTy (T := "list") (r := rListOf K) cr_list (by rfl) T.b_list (by decide +kernel) (pa_cons (pe_ix (r := rIxL K) ix_list (pe_call C__law_pick.ok (hr.mono (by first | decide | omega)) rfl C__law_pick.mg C__law_pick.kp C__law_pick.bi .nil pass0 (pa_cons (pv 0) (pa_cons (pv 1) pa_nil))) pe_int (fun _ _ => rfl)) pa_nil)) pa_nil))) pa_nil))))) 
        (pss_one (ps_if (pt_cmpR op_eq (pv 2) pe_int (nomark _)) 
          (pss_one (ps_expr (pe_bm PySem.F.plainAttrs_list PySem.F.slot_list_pop PySem.F.type_list_pop mt_popAt (pv 1) (pa_cons (pv 3) pa_nil)))) 
          (pss_one (ps_if (pt_cmpR op_eq (pv 2) pe_int (nomark _)) 
            (pss_one (ps_expr (pe_bm PySem.F.plainAttrs_list PySem.F.slot_list_insert PySem.F.type_list_insert Tf.mt_ins (pv 1) (pa_cons (pv 3) (pa_cons (pe_lst (pa_cons (pe_ix (r := rIxL K) ix_list (pe_ix (r := rIxL K) ix_list (pv 1) (pv 3) (fun _ _ => rfl)) pe_int (fun _ _ => rfl)) (pa_cons (pe_callTy (T := "list") (r := rListOf K) cr_list (by rfl) T.b_list (by decide +kernel) (pa_cons (pe_ix (r := rIxL K) ix_list (pe_ix (r := rIxL K) ix_list (pv 1) (pv 3) (fun _ _ => rfl)) pe_int (fun _ _ => rfl)) pa_nil)) pa_nil))) pa_nil))))) 
            (pss_cons (ps_set (i := 4) scBe.nd rfl (Or.inl rfl) (pe_call C__law_draw.ok (hr.mono (by first | decide | omega)) rfl C__law_draw.mg C__law_draw.kp C__law_draw.bi .nil pass0 (pa_cons (pv 0) (pa_cons (pe_callB cr_len (by rfl) T.b_len (by decide +kernel) (pa_cons (pv 1) pa_nil)) pa_nil))))
            (pss_cons (ps_set (i := 5) scBe.nd rfl (Or.inl rfl) (pe_ix (r := rIxL K) ix_list (pv 1) (pv 3) (fun _ _ => rfl)))
            (pss_cons (ps_asg (pe_ix (r := rIxL K) ix_list (pv 1) (pv 4) (fun _ _ => rfl)) (pg_sub (pv 1) (pv 3) set_list))
            (pss_one (ps_asg (pv 5) (pg_sub (pv 1) (pv 4) set_list)))))))))))))), ?_⟩
    have hzl : pap.length = zs.length := hR.length
    have hul : (zs.map (·.1)).length = zs.length := List.length_map _
    have hSl := hS.len
    have hbm : (b, HO.lst (zs.map (·.1))) ∈ bentM p o b zs m := List.mem_cons_of_mem _ List.mem_cons_self
    walk_at "x"
    refine x_iteD (fun h0 => ?_) (fun h0 => ?_)
    · walk_at "x"
      refine ⟨ty_list (O.get hbm), ?_⟩
      walk_at "x"
      refine x_lenM O hbm ?_
      walk_at "x"
      obtain ⟨z, hz⟩ : ∃ z, zs[zs.length - 1]? = some z := ⟨_, List.getElem?_eq_getElem (by omega)⟩
      refine x_endM O hbm (w := z.1) (by rw [hul, List.getElem?_map, hz]; rfl) ?_
      obtain ⟨r, hr, a, q, ws, rfl, ha, hw⟩ := hR.get' hz
      walk_at "x"
      refine x_ixF O ha (j := 0) rfl rfl ?_
      walk_at "x"
      refine ⟨p, o, _, F, _, rfl, O, hp, by decide, by decide, fun d H1 o1 d0 d1 O1 hp1 => ?_⟩
      walk_at "x"
      refine x_ownL (vs := []) O1 (Nat.zero_le _) (fun l1 H2 hn2 O2 => ?_)
      walk_at "x"
      refine x_newPair (R := rInt) (S := rInt) (x := 0) (y := 0) O2 rfl rfl (fun v3 H3 F3 s3 O3 hv3 => ?_)
      walk_at "x"
      refine x_ownL (vs := [v3]) O3 (by show 1 ≤ _; decide) (fun l2 H4 hn4 O4 => ?_)
      walk_at "x"
      refine x_newPair (R := rInt) (S := rInt) (x := 1) (y := 0) O4 rfl rfl (fun v5 H5 F5 s5 O5 hv5 => ?_)
      walk_at "x"
      refine x_ownL (vs := [v5]) O5 (by show 1 ≤ _; decide) (fun l3 H6 hn6 O6 => ?_)
      walk_at "x"
      refine x_rawL O6 (by show 3 ≤ _; decide) (fun pl H7 F7 s7 h7 O7 => ?_)
      walk_at "x"
      have O7' := O7.perm (List.perm_middle (l₁ := [(l3, HO.lst [v5]), (l2, HO.lst [v3]), (l1, HO.lst [])]))
      have s37 := s3.trans (s5.trans s7)
      refine ⟨p, o1, pl, _, F7, _, rfl, O7', hp1.up s37, .inl h7, by simp, by simp, fun w8 H8 o8 hw8 O8 hp8 => ?_⟩
      have hw8' : w8 ∈ ([(l3, HO.lst [v5]), (l2, HO.lst [v3]), (l1, HO.lst [])] : Mem).map (fun c => V.ref c.1) := by
        simp only [List.map_cons, List.map_nil, List.mem_cons, List.not_mem_nil, or_false] at hw8 ⊢
        rcases hw8 with h | h | h
        · exact .inr (.inr h)
        · exact .inr (.inl h)
        · exact .inl h
      obtain ⟨q2, ws2, ps2, rfl, O9, hps, hl4⟩ := pick_cell (cells := [(l3, HO.lst [v5]), (l2, HO.lst [v3]), (l1, HO.lst [])]) (O8.perm List.perm_middle.symm)
        (w := w8) hw8'
        (fun c hc => by
          simp at hc
          rcases hc with rfl | rfl | rfl
          · exact ⟨_, [(1, 0)], rfl, .cons (up s7 hv5) .nil, by decide⟩
          · exact ⟨_, [(0, 0)], rfl, .cons (up (s5.trans s7) hv3) .nil, by decide⟩
          · exact ⟨_, [], rfl, .nil, by decide⟩)
      walk_at "x"
      refine x_rawL O9 (by show 2 ≤ _; decide) (fun ra H10 F10 s10 h10 O10 => ?_)
      walk_at "x"
      refine x_insert (j := (zs.map (·.1)).length) O10.rot3 rfl (by omega) (by omega) (fun H11 O11 => ?_)
      walk_at "x"
      have sA := s37.trans s10
      exact k H11 F10 o8 _ _ sA (bent_ins (z := (.ref ra, (q2, .lst ws2))) O11) (hp8.up s10) ((hR.up sA).ins (x := (r.1 + 1 + d, ps2)) ⟨ra, q2, ws2, rfl, h10, all2_up s10 hps⟩) (hS.ins (by show ps2.length ≤ _; omega))
    · walk_at "x"
      refine x_iteD (fun h1 => ?_) (fun h1 => ?_)
      · walk_at "x"
        refine ⟨ty_list (O.get hbm), ?_⟩
        walk_at "x"
        refine ⟨p, o, _, F, _, rfl, O, hp, by decide, by decide, fun d H1 o1 d0 d1 O1 hp1 => ?_⟩
        walk_at "x"
        refine ⟨p, o1, b, _, F, _, rfl, O1, hp1, .inr List.mem_cons_self, fun e => ?_, by omega, fun w2 H2 o2 hw2 O2 hp2 => ?_⟩
        · rw [e] at hul
          simp at hul
          omega
        obtain ⟨z, hz, rfl⟩ := List.mem_map.mp hw2
        obtain ⟨jz, hjz⟩ := List.getElem?_of_mem hz
        obtain ⟨r, hr, a, q, ws, rfl, ha, hw⟩ := hR.get' hjz
        walk_at "x"
        refine x_ixF O2 ha (j := 1) rfl rfl ?_
        walk_at "x"
        refine x_listM O2 (vs := ws) (List.mem_cons_of_mem _ (List.mem_cons_of_mem _ (List.mem_append_left _ (List.mem_map.mpr ⟨_, hz, rfl⟩)))) (fun q2 H3 hn3 O3 => ?_)
        walk_at "x"
        refine x_rawL O3 (by show 2 ≤ _; decide) (fun ra H10 F10 s10 h10 O10 => ?_)
        walk_at "x"
        refine x_insert (j := 0) O10.rot3 rfl (by omega) (by omega) (fun H11 O11 => ?_)
        walk_at "x"
        exact k H11 F10 o2 _ _ s10 (bent_ins (z := (.ref ra, (q2, .lst ws))) O11) (hp2.up s10) ((hR.up s10).ins (x := (-1 - d, r.2)) ⟨ra, q2, ws, rfl, h10, all2_up s10 hw⟩) (hS.ins (by have := hS.lens r (List.mem_of_getElem? hr); show r.2.length ≤ _; omega))
      · walk_at "x"
        refine x_iteD (fun h2 => ?_) (fun h2 => ?_)
        · walk_at "x"
          refine ⟨ty_list (O.get hbm), ?_⟩
          walk_at "x"
          obtain ⟨z, hz⟩ : ∃ z, zs[j]? = some z := ⟨_, List.getElem?_eq_getElem hj⟩
          refine x_popAt (j := j) (w := z.1) O.swap rfl (by rw [List.getElem?_map, hz]; rfl) (by omega) (fun H1 O1 => ?_)
          walk_at "x"
          exact k H1 F o _ _ (Same.refl F) (bent_pop O1) hp hR.eraseIdx (hS.sub (by have := List.length_eraseIdx_le pap j; omega) fun r hr => List.mem_of_mem_eraseIdx hr)
        · walk_at "x"
          refine x_iteD (fun h3 => ?_) (fun h3 => ?_)
          · walk_at "x"
            refine ⟨ty_list (O.get hbm), ?_⟩
            walk_at "x"
            obtain ⟨z, hz⟩ : ∃ z, zs[j]? = some z := ⟨_, List.getElem?_eq_getElem hj⟩
            refine x_ixM O hbm (j := j) (w := z.1) rfl (by rw [List.getElem?_map, hz]; rfl) ?_
            obtain ⟨r, hr, a, q, ws, rfl, ha, hw⟩ := hR.get' hz
            walk_at "x"
            refine x_ixF O ha (j := 0) rfl rfl ?_
            walk_at "x"
            refine x_ixM O hbm (j := j) (w := .ref a) rfl (by rw [List.getElem?_map, hz]; rfl) ?_
            walk_at "x"
            refine x_ixF O ha (j := 1) rfl rfl ?_
            walk_at "x"
            refine x_listM O (vs := ws) (List.mem_cons_of_mem _ (List.mem_cons_of_mem _ (List.mem_append_left _ (List.mem_map.mpr ⟨_, List.mem_of_getElem? hz, rfl⟩)))) (fun q2 H3 hn3 O3 => ?_)
            walk_at "x"
            refine x_rawL O3 (by show 2 ≤ _; decide) (fun ra H10 F10 s10 h10 O10 => ?_)
            walk_at "x"
            refine x_insert (j := j) O10.rot3 rfl (by omega) (by omega) (fun H11 O11 => ?_)
            walk_at "x"
            exact k H11 F10 o _ _ s10 (bent_ins (z := (.ref ra, (q2, .lst ws))) O11) (hp.up s10) ((hR.up s10).ins (x := (r.1, r.2)) ⟨ra, q2, ws, rfl, h10, all2_up s10 hw⟩) (hS.ins (by have := hS.lens r (List.mem_of_getElem? hr); show r.2.length ≤ _; omega))
          · walk_at "x"
            refine x_lenM O hbm ?_
            walk_at "x"
            refine ⟨p, o, _, F, _, rfl, O, hp, by omega, by omega, fun d H1 o1 d0 d1 O1 hp1 => ?_⟩
            walk_at "x"
            obtain ⟨dn, rfl⟩ : ∃ dn : Nat, d = (dn : Int) := ⟨d.toNat, by omega⟩
            have hdn : dn < zs.length := by omega
            obtain ⟨z, hz⟩ : ∃ z, zs[j]? = some z := ⟨_, List.getElem?_eq_getElem hj⟩
            obtain ⟨y, hy⟩ : ∃ z, zs[dn]? = some z := ⟨_, List.getElem?_eq_getElem hdn⟩
            have hbm1 : (b, HO.lst (zs.map (·.1))) ∈ bentM p o1 b zs m := List.mem_cons_of_mem _ List.mem_cons_self
            refine x_ixM O1 hbm1 (j := j) (w := z.1) rfl (by rw [List.getElem?_map, hz]; rfl) ?_
            walk_at "x"
            refine x_ixM O1 hbm1 (j := dn) (w := y.1) rfl (by rw [List.getElem?_map, hy]; rfl) ?_
            walk_at "x"
            refine x_setN (j := j) O1.swap (ixN_at rfl (by omega)) (fun H2 O2 => ?_)
            walk_at "x"
            refine x_setN (j := dn) O2 (ixN_at rfl (by rw [List.length_set]; omega)) (fun H3 O3 => ?_)
            walk_at "x"
            obtain ⟨r, hr, hrz⟩ := hR.get' hz
            obtain ⟨r2, hr2, hrz2⟩ := hR.get' hy
            exact k H3 F o1 _ _ (Same.refl F) (bent_swap hz hy O3) hp1 ((hR.set j hrz2).set dn hrz) (hS.sub (by rw [List.length_set, List.length_set]; exact Nat.le_refl _) fun x hx => by
              rcases List.mem_or_eq_of_mem_set hx with hx | rfl
              · rcases List.mem_or_eq_of_mem_set hx with hx | rfl
                · exact hx
                · exact List.mem_of_getElem? hr2
              · exact List.mem_of_getElem? hr)
abbrev sBp : Stmt := top 30
abbrev NBp : List Str := ["pool", "paper", "kind", "at", "pairs", "length", "spot", "m", "cost", "other"]
theorem scBp : FnScope NBp ["pool", "paper", "kind", "at"] (defScope sBp) := ⟨rfl, rfl, rfl, by decide +kernel, rfl, by decide +kernel, by decide +kernel⟩
theorem ok_Bp {f f1 f2 : Addr} {fd fd1 fd2 : FuncData} (F : Fun K "_law_bend_pairs" "_law_bend_pairs" sBp f fd) (T : Bi mg) (C__law_draw : Cal P w K mg base "_law_draw" 1 f1 fd1 ["pool", "many"] spDraw) (C__law_pick : Cal P w K mg base "_law_pick" 2 f2 fd2 ["pool", "row"] spPickO) :
    FnOk P w K mg base CX0 3 f fd ["pool", "paper", "kind", "at"] spBend := by
  refine F.ok scBp (fun vs H Q E h => ?_) (fun cdv A outer s H vs Q E hr h => ?_)
  · obtain ⟨p, o, b, kind, at_, zs, pap, n, F, m, rfl, _⟩ := h
    rfl
  · obtain ⟨p, o, b, kind, j, zs, pap, n, F, m, rfl, O, hp, hR, hS, hn4, hn, hj, k⟩ := h
    refine ⟨_, 
    (pss_cons (ps_set (i := 4) scBp.nd rfl (Or.inl rfl) (pe_ix (r := rIxL K) ix_list (pe_ix (r := rIxL K) ix_list (pv 1) (pv 3) (fun _ _ => rfl)) pe_int (fun _ _ => rfl)))
    (pss_cons (ps_if (PW.pt (pw_or (pt_cmpR op_eq (pv 2) pe_int (nomark _)) (pw_or1 (pt_not (pt_tru (pv 4) (by intro _; rfl)))))) 
      (pss_cons (ps_set (i := 5) scBp.nd rfl (Or.inl rfl) (pe_call C__law_draw.ok (hr.mono (by first | decide | omega)) rfl C__law_draw.mg C__law_draw.kp C__law_draw.bi .nil pass0 (pa_cons (pv 0) (pa_cons pe_int pa_nil))))
      (Tf.pss_cut (ps_if (pt_tru (pv 4) (by intro _; rfl)) 
        (pss_one (ps_set (i := 5) scBp.nd rfl (Or.inl rfl) (pe_op op_add (pe_ix (r := rIxT K) ix_tup (pe_ix (r := rIxL K) ix_list (pv 4) (pe_un un_neg pe_int) (fun _ _ => rfl)) pe_int (fun _ _ => rfl)) pe_int))) pss_nil)
      (pss_cons (ps_expr (pe_bm PySem.F.plainAttrs_list PySem.F.slot_list_append PySem.F.type_list_append mt_append (pv 4) (pa_cons (pe_tup (pa_cons (pv 5) (pa_cons (pe_call C__law_draw.ok (hr.mono (by first | decide | omega)) rfl C__law_draw.mg C__law_draw.kp C__law_draw.bi .nil pass0 (pa_cons (pv 0) (pa_cons pe_int pa_nil))) pa_nil))) pa_nil)))
      (pss_one ps_retN)))) pss_nil)
    (pss_cons (ps_set (i := 6) scBp.nd rfl (Or.inl rfl) (pe_call C__law_draw.ok (hr.mono (by first | decide | omega)) rfl C__law_draw.mg C__law_draw.kp C__law_draw.bi .nil pass0 (pa_cons (pv 0) (pa_cons (pe_callB cr_len (by rfl) T.b_len (by decide +kernel) (pa_cons (pv 4) pa_nil)) pa_nil))))
    (pss_cons (ps_set (i := 7) scBp.nd rfl (Or.inl rfl) (pe_ix (r := rIxT K) ix_tup (pe_ix (r := rIxL K) ix_list (pv 4) (pv 6) (fun _ _ => rfl)) pe_int (fun _ _ => rfl)))
    (pss_cons (ps_set (i := 8) scBp.nd rfl (Or.inl rfl) (pe_ix (r := rIxT K) ix_tup (pe_ix (r := rIxL K) ix_list (pv 4) (pv 6) (fun _ _ => rfl)) pe_int (fun _ _ => rfl)))
    (pss_one (ps_if (pt_cmpR op_eq (pv 2) pe_int (nomark _)) 
      (pss_one (ps_expr (pe_bm PySem.F.plainAttrs_list PySem.F.slot_list_pop PySem.F.type_list_pop mt_popAt (pv 4) (pa_cons (pv 6) pa_nil)))) 
      (pss_one (ps_if (pt_cmpR op_eq (pv 2) pe_int (nomark _)) 
        (pss_cons (ps_set (i := 9) scBp.nd rfl (Or.inl rfl) (pe_ix (r := rIxL K) ix_list (pv 4) pe_int (fun _ _ => rfl)))
        (pss_cons (ps_asg (pe_ix (r := rIxL K) ix_list (pv 4) (pe_un un_neg pe_int) (fun _ _ => rfl)) (pg_sub (pv 4) pe_int set_list))
        (pss_one (ps_asg (pv 9) (pg_sub (pv 4) (pe_un un_neg pe_int) set_list))))) 
        (pss_one (ps_if (pt_cmpR op_eq (pv 2) pe_int (nomark _)) 
          (pss_one (ps_asg (pe_tup (pa_cons (pe_op op_add (pv 7) pe_int) (pa_cons (pv 8) pa_nil))) (pg_sub (pv 4) (pv 6) set_list))) 
          (pss_one (ps_if (pt_cmpR op_eq (pv 2) pe_int (nomark _)) 
            (pss_one (ps_asg (pe_tup (pa_cons (pe_op op_sub (pe_op op_sub (pv 7) pe_int) (pe_call C__law_draw.ok (hr.mono (by first | decide | omega)) rfl C__law_draw.mg C__law_draw.kp C__law_draw.bi .nil pass0 (pa_cons (pv 0) (pa_cons pe_int pa_nil)))) (pa_cons (pv 8) pa_nil))) (pg_sub (pv 4) (pv 6) set_list))) 
            (pss_one (ps_if (pt_cmpR op_eq (pv 2) pe_int (nomark _)) 
              (pss_one (ps_expr (pe_bm PySem.F.plainAttrs_list PySem.F.slot_list_insert PySem.F.type_list_insert Tf.mt_ins (pv 4) (pa_cons (pv 6) (pa_cons (pe_tup (pa_cons (pv 7) (pa_cons (pe_op op_add (pv 8) (pe_call C__law_draw.ok (hr.mono (by first | decide | omega)) rfl C__law_draw.mg C__law_draw.kp C__law_draw.bi .nil pass0 (pa_cons (pv 0) (pa_cons pe_int pa_nil)))) pa_nil))) pa_nil))))) 
              (pss_one (ps_asg (pe_tup (pa_cons (pv 7) (pa_cons (pe_call C__law_pick.ok (hr.mono (by first | decide | omega)) rfl C__law_pick.mg C__law_pick.kp C__law_pick.bi .nil pass0 (pa_cons (pv 0) (pa_cons (pe_lst (pa_cons (pe_op op_add (pv 8) pe_int) (pa_cons (pe_op op_sub (pv 8) pe_int) (pa_cons (pe_un un_neg pe_int) (pa_cons pe_int (pa_cons (pe_op op_add (pv 8) pe_int) (pa_cons (pe_call C__law_draw.ok (hr.mono (by first | decide | omega)) rfl C__law_draw.mg C__law_draw.kp C__law_draw.bi .nil pass0 (pa_cons (pv 0) (pa_cons pe_int pa_nil))) pa_nil))))))) pa_nil))) pa_nil))) (pg_sub (pv 4) (pv 6) set_list)))))))))))))))))), ?_⟩
    have hzl : pap.length = zs.length := hR.length
    have hul : (zs.map (·.1)).length = zs.length := List.length_map _
    have hbm : (b, HO.lst (zs.map (·.1))) ∈ bentM p o b zs m := List.mem_cons_of_mem _ List.mem_cons_self
    obtain ⟨z, hz⟩ : ∃ z, zs[j]? = some z := ⟨_, List.getElem?_eq_getElem hj⟩
    walk_at "x"
    refine x_ixM O hbm (j := j) (w := z.1) rfl (by rw [List.getElem?_map, hz]; rfl) ?_
    obtain ⟨rest, O1, hbr, back⟩ := bent_out O hz
    obtain ⟨r, hr, a, q, ws, rfl, ha, hw⟩ := hR.get' hz
    have hrl := hS.lens r (List.mem_of_getElem? hr)
    have hwl : r.2.length = ws.length := hw.length
    have fin : ∀ (H' F' : Hp) (o' : HO) (ws' : List V) (ps' : List (Int × Int)), Same F F' → Own H' F' ((p, o') :: (q, .lst ws') :: rest) → PoolOk F' o' → All2 (rPair rInt rInt F') ps' ws' → ps'.length ≤ n + 1 → Q .non H' := fun H' F' o' ws' ps' s' O' hp' h1 h2 =>
      k H' F' o' _ _ s' (back H' F' o' (.ref a, (q, .lst ws')) rfl O') hp' ((hR.up s').set j (x := (r.1, ps')) ⟨a, q, ws', rfl, s' _ _ ha, h1⟩) (hS.set h2)
    have hqm : ∀ {o' : HO}, (q, HO.lst ws) ∈ (p, o') :: (q, HO.lst ws) :: rest := List.mem_cons_of_mem _ List.mem_cons_self
    walk_at "x"
    refine x_ixF O ha (j := 1) rfl rfl ?_
    walk_at "x"
    refine x_orC (c := !(!ws.isEmpty)) (fun h => ?_) ?_
    · walk_at "x"
      refine tq_listM O1 hqm ?_
      exact h
    refine x_ite (fun hc => ?_) (fun hc => ?_)
    · walk_at "x"
      refine ⟨p, o, _, F, _, rfl, O1, hp, by decide, by decide, fun d H1 o1 d0 d1 O2 hp1 => ?_⟩
      walk_at "x"
      refine x_cut (fun σ' H' => H' = H1 ∧ ∃ L : Int, σ' = [some (.ref p), some (.ref b), some (.int kind), some (.int (j : Int)), some (.ref q), some (.int L), none, none, none, none]) ?_ ?_
      · walk_at "x"
        refine tq_listM O2 hqm ?_
        refine x_ite (fun he => ?_) (fun he => ?_)
        · walk_at "x"
          have hne : ws ≠ [] := by
            intro e
            subst e
            simp at he
          have hpos : 0 < ws.length := List.length_pos_iff.mpr hne
          obtain ⟨yl, hyl⟩ : ∃ y, ws[ws.length - 1]? = some y := ⟨_, List.getElem?_eq_getElem (by omega)⟩
          obtain ⟨pl, hpl, hylr⟩ := hw.get' hyl
          refine x_endM O2 hqm hyl ?_
          walk_at "x"
          refine x_fst O2 hylr (fun a1 ha1 => ?_)
          have ha1 : a1 = .int pl.1 := ha1
          subst ha1
          walk_at "x"
          exact ⟨rfl, _, rfl⟩
        · walk_at "x"
          exact ⟨rfl, _, rfl⟩
      · rintro σ' H' ⟨rfl, L, rfl⟩
        walk_at "x"
        refine ⟨ty_list (O2.get hqm), ?_⟩
        walk_at "x"
        refine ⟨p, o1, _, F, _, rfl, O2, hp1, by decide, by decide, fun e H5 o5 e0 e1 O5 hp5 => ?_⟩
        walk_at "x"
        refine x_newPair (R := rInt) (S := rInt) (x := L) (y := e) O5 rfl rfl (fun v3 H3 F3 s3 O3 hv3 => ?_)
        walk_at "x"
        refine x_append O3.swap (by omega) (fun H4 O4 => ?_)
        walk_at "x"
        exact fin H4 F3 o5 _ _ s3 O4.swap (hp5.up s3) ((all2_up s3 hw).snoc hv3) (by rw [List.length_append]; exact Nat.succ_le_succ hrl)
    · have hne : ws ≠ [] := by
        intro e
        subst e
        simp at hc
      have hpos : 0 < ws.length := List.length_pos_iff.mpr hne
      walk_at "x"
      refine x_lenM O1 hqm ?_
      walk_at "x"
      refine ⟨p, o, _, F, _, rfl, O1, hp, by omega, by omega, fun d H1 o1 d0 d1 O2 hp1 => ?_⟩
      obtain ⟨t, rfl⟩ : ∃ t : Nat, d = (t : Int) := ⟨d.toNat, by omega⟩
      have ht : t < ws.length := by omega
      obtain ⟨y, hy⟩ : ∃ y, ws[t]? = some y := ⟨_, List.getElem?_eq_getElem ht⟩
      obtain ⟨pr, hpr, hyr⟩ := hw.get' hy
      walk_at "x"
      refine x_ixM O2 hqm (j := t) rfl hy ?_
      walk_at "x"
      refine x_fst O2 hyr (fun a1 ha1 => ?_)
      have ha1 : a1 = .int pr.1 := ha1
      subst ha1
      walk_at "x"
      refine x_ixM O2 hqm (j := t) rfl hy ?_
      walk_at "x"
      refine x_snd O2 hyr (fun a2 ha2 => ?_)
      have ha2 : a2 = .int pr.2 := ha2
      subst ha2
      walk_at "x"
      have hsetl : ∀ (x : Int × Int), (r.2.set t x).length ≤ n + 1 := fun x => by
        rw [List.length_set]
        omega
      refine x_iteD (fun h6 => ?_) (fun h6 => ?_)
      · walk_at "x"
        refine ⟨ty_list (O2.get hqm), ?_⟩
        walk_at "x"
        refine x_popAt (j := t) (w := y) O2.swap rfl hy (by omega) (fun H3 O3 => ?_)
        walk_at "x"
        exact fin H3 F o1 _ _ (Same.refl F) O3.swap hp1 hw.eraseIdx (by have := List.length_eraseIdx_le r.2 t; omega)
      walk_at "x"
      refine x_iteD (fun h7 => ?_) (fun h7 => ?_)
      · walk_at "x"
        obtain ⟨y0, hy0⟩ : ∃ y, ws[0]? = some y := ⟨_, List.getElem?_eq_getElem hpos⟩
        obtain ⟨yl, hyl⟩ : ∃ y, ws[ws.length - 1]? = some y := ⟨_, List.getElem?_eq_getElem (by omega)⟩
        obtain ⟨p0, hp0, hy0r⟩ := hw.get' hy0
        obtain ⟨pl, hpl, hylr⟩ := hw.get' hyl
        refine x_ixM O2 hqm (j := 0) rfl hy0 ?_
        walk_at "x"
        refine x_endM O2 hqm hyl ?_
        walk_at "x"
        refine x_setN (j := 0) O2.swap (ixN_at rfl (by omega)) (fun H3 O3 => ?_)
        walk_at "x"
        refine x_setN (j := (ws.set 0 yl).length - 1) O3 (ixN_end (by rw [List.length_set]; omega)) (fun H4 O4 => ?_)
        walk_at "x"
        exact fin H4 F o1 _ _ (Same.refl F) O4.swap hp1 ((hw.set 0 hylr).set _ hy0r) (by rw [List.length_set, List.length_set]; omega)
      walk_at "x"
      refine x_iteD (fun h8 => ?_) (fun h8 => ?_)
      · walk_at "x"
        refine x_newPair (R := rInt) (S := rInt) (x := pr.1 + 1) (y := pr.2) O2 rfl rfl (fun v3 H3 F3 s3 O3 hv3 => ?_)
        walk_at "x"
        refine x_setN (j := t) O3.swap (ixN_at rfl ht) (fun H4 O4 => ?_)
        walk_at "x"
        exact fin H4 F3 o1 _ _ s3 O4.swap (hp1.up s3) ((all2_up s3 hw).set t hv3) (hsetl _)
      walk_at "x"
      refine x_iteD (fun h9 => ?_) (fun h9 => ?_)
      · walk_at "x"
        refine ⟨p, o1, _, F, _, rfl, O2, hp1, by decide, by decide, fun e H5 o5 e0 e1 O5 hp5 => ?_⟩
        walk_at "x"
        refine x_newPair (R := rInt) (S := rInt) (x := pr.1 - 1 - e) (y := pr.2) O5 rfl rfl (fun v3 H3 F3 s3 O3 hv3 => ?_)
        walk_at "x"
        refine x_setN (j := t) O3.swap (ixN_at rfl ht) (fun H4 O4 => ?_)
        walk_at "x"
        exact fin H4 F3 o5 _ _ s3 O4.swap (hp5.up s3) ((all2_up s3 hw).set t hv3) (hsetl _)
      walk_at "x"
      refine x_iteD (fun h10 => ?_) (fun h10 => ?_)
      · walk_at "x"
        refine ⟨ty_list (O2.get hqm), ?_⟩
        walk_at "x"
        refine ⟨p, o1, _, F, _, rfl, O2, hp1, by decide, by decide, fun e H5 o5 e0 e1 O5 hp5 => ?_⟩
        walk_at "x"
        refine x_newPair (R := rInt) (S := rInt) (x := pr.1) (y := pr.2 + e) O5 rfl rfl (fun v3 H3 F3 s3 O3 hv3 => ?_)
        walk_at "x"
        refine x_insert (j := t) O3.swap rfl (by omega) (by omega) (fun H4 O4 => ?_)
        walk_at "x"
        exact fin H4 F3 o5 _ _ s3 O4.swap (hp5.up s3) ((all2_up s3 hw).ins hv3) (by rw [(perm_ins _ _).length_eq, List.length_cons]; omega)
      · walk_at "x"
        refine ⟨p, o1, _, F, _, rfl, O2, hp1, by decide, by decide, fun e H5 o5 e0 e1 O5 hp5 => ?_⟩
        walk_at "x"
        refine x_rawL O5 (by show 6 ≤ _; decide) (fun pl H7 F7 s7 h7 O7 => ?_)
        walk_at "x"
        refine ⟨p, o5, pl, _, F7, _, rfl, O7, hp5.up s7, .inl h7, by simp, by simp, fun w8 H8 o8 hw8 O8 hp8 => ?_⟩
        obtain ⟨c, rfl⟩ : ∃ c, w8 = V.int c := by
          simp at hw8
          rcases hw8 with h | h | h | h | h | h <;> exact ⟨_, h⟩
        walk_at "x"
        refine x_newPair (R := rInt) (S := rInt) (x := pr.1) (y := c) O8 rfl rfl (fun v3 H3 F3 s3 O3 hv3 => ?_)
        walk_at "x"
        refine x_setN (j := t) O3.swap (ixN_at rfl ht) (fun H4 O4 => ?_)
        walk_at "x"
        exact fin H4 F3 o8 _ _ (s7.trans s3) O4.swap (hp8.up s3) ((all2_up (s7.trans s3) hw).set t hv3) (hsetl _)
end
end Tf
namespace Tf
open PySem PySem.Spec PyProof.Rows L2
section
variable {P : Program} {w : World} {K : PySem.W.Frag} {mg : Str → Option Value} {base : Heap}
abbrev sBt : Stmt := top 31
abbrev NBt : List Str := ["pool", "paper", "bent", "k", "kind", "at", "row"]
theorem scBt : FnScope NBt ["pool", "paper"] (defScope sBt) := ⟨rfl, rfl, rfl, by decide +kernel, rfl, by decide +kernel, by decide +kernel⟩
theorem ok_Bt {f f1 f2 f3 f4 : Addr} {fd fd1 fd2 fd3 fd4 : FuncData} (F : Fun K "_law_bent" "_law_bent" sBt f fd) (T : Bi mg) (C__law_draw : Cal P w K mg base "_law_draw" 1 f1 fd1 ["pool", "many"] spDraw) (C__law_pick : Cal P w K mg base "_law_pick" 2 f2 fd2 ["pool", "row"] spPickO)
    (C__law_bend_states : Cal P w K mg base "_law_bend_states" 3 f3 fd3 ["pool", "paper", "kind", "at"] spBend) (C__law_bend_pairs : Cal P w K mg base "_law_bend_pairs" 3 f4 fd4 ["pool", "paper", "kind", "at"] spBend) :
    FnOk P w K mg base CX0 4 f fd ["pool", "paper"] spBent := by
  refine F.ok scBt (fun vs H Q E h => ?_) (fun cdv A outer s H vs Q E hr h => ?_)
  · obtain ⟨p, o, v, pap, F, m, rfl, _⟩ := h
    rfl
  · obtain ⟨p, o, v, pap, F, m, rfl, O, hp, hv, hS, k⟩ := h
    refine ⟨_, 
    (pss_cons (ps_setLc (i := 2) (own := [("row", 6)]) (g := (gName 6)) (tt := tYes) rfl scBt.nd rfl rfl (sw_true rfl rfl rfl (by decide +kernel)) (pi_list (pv 1)) (blkOk_by (N := NBt) (sc := defScope sBt) (by decide +kernel)) (fun _ _ _ _ _ => (pg_name (i := 6) scBt.nd rfl (by first | exact Or.inl rfl | exact Or.inr rfl))) (fun _ _ _ _ _ => pts_nil) (fun _ _ _ _ _ => (pe_lst (pa_cons (pe_ix (r := rIxL K) ix_list (pv 6) pe_int (fun _ _ => rfl)) (pa_cons (pe_callTy (T := "list") (r := rListOf K) cr_list (by rfl) T.b_list (by decide +kernel) (pa_cons (pe_ix (r := rIxL K) ix_list (pv 6) pe_int (fun _ _ => rfl)) pa_nil)) pa_nil)))))
    (pss_cons (ps_for PassesOwn.never rfl (pi_range1 (by rfl) T.b_range (pa_cons (pe_op op_add pe_int (pe_callTy (T := "int") cr_int (by rfl) T.b_int (by decide +kernel) (pa_cons (pe_cmpR op_eq (pe_call C__law_draw.ok (hr.mono (by first | decide | omega)) rfl C__law_draw.mg C__law_draw.kp C__law_draw.bi .nil pass0 (pa_cons (pv 0) (pa_cons pe_int pa_nil))) pe_int (nomark _)) pa_nil))) pa_nil)) (pg_name (i := 3) scBt.nd rfl (Or.inl rfl)) 
      (pss_one (ps_if (pt_tru (pv 2) (by intro _; rfl)) 
        (pss_cons (ps_set (i := 4) scBt.nd rfl (Or.inl rfl) (pe_call C__law_draw.ok (hr.mono (by first | decide | omega)) rfl C__law_draw.mg C__law_draw.kp C__law_draw.bi .nil pass0 (pa_cons (pv 0) (pa_cons pe_int pa_nil))))
        (pss_cons (ps_set (i := 5) scBt.nd rfl (Or.inl rfl) (pe_call C__law_pick.ok (hr.mono (by first | decide | omega)) rfl C__law_pick.mg C__law_pick.kp C__law_pick.bi .nil pass0 (pa_cons (pv 0) (pa_cons (pe_lst (pa_cons pe_int (pa_cons (pe_op op_sub (pe_callB cr_len (by rfl) T.b_len (by decide +kernel) (pa_cons (pv 2) pa_nil)) pe_int) (pa_cons (pe_call C__law_draw.ok (hr.mono (by first | decide | omega)) rfl C__law_draw.mg C__law_draw.kp C__law_draw.bi .nil pass0 (pa_cons (pv 0) (pa_cons (pe_callB cr_len (by rfl) T.b_len (by decide +kernel) (pa_cons (pv 2) pa_nil)) pa_nil))) pa_nil)))) pa_nil))))
        (pss_one (ps_if (pt_cmpR op_lt (pv 4) pe_int (nomark _)) 
          (pss_one (ps_expr (pe_call C__law_bend_states.ok (hr.mono (by first | decide | omega)) rfl C__law_bend_states.mg C__law_bend_states.kp C__law_bend_states.bi .nil pass0 (pa_cons (pv 0) (pa_cons (pv 2) (pa_cons (pv 4) (pa_cons (pv 5) pa_nil))))))) 
          (pss_one (ps_if (pt_cmpR op_lt (pv 4) pe_int (nomark _)) 
            (pss_one (ps_expr (pe_call C__law_bend_pairs.ok (hr.mono (by first | decide | omega)) rfl C__law_bend_pairs.mg C__law_bend_pairs.kp C__law_bend_pairs.bi .nil pass0 (pa_cons (pv 0) (pa_cons (pv 2) (pa_cons (pv 4) (pa_cons (pv 5) pa_nil))))))) 
            (pss_one (ps_if (pt_cmpR op_eq (pv 4) pe_int (nomark _)) 
              (pss_one (ps_asg (pe_lst (pa_cons (pe_ix (r := rIxL K) ix_list (pe_ix (r := rIxL K) ix_list (pv 2) (pv 5) (fun _ _ => rfl)) pe_int (fun _ _ => rfl)) (pa_cons (pe_call C__law_pick.ok (hr.mono (by first | decide | omega)) rfl C__law_pick.mg C__law_pick.kp C__law_pick.bi .nil pass0 (pa_cons (pv 0) (pa_cons (pe_lst (pa_cons (pe_lst pa_nil) (pa_cons (pe_lst (pa_cons (pe_tup (pa_cons pe_int (pa_cons pe_int pa_nil))) pa_nil)) (pa_cons (pe_lst (pa_cons (pe_tup (pa_cons pe_int (pa_cons pe_int pa_nil))) (pa_cons (pe_tup (pa_cons pe_int (pa_cons pe_int pa_nil))) pa_nil))) (pa_cons (pe_lst (pa_cons (pe_tup (pa_cons pe_int (pa_cons pe_int pa_nil))) pa_nil)) (pa_cons (pe_lst (pa_cons (pe_tup (pa_cons pe_int (pa_cons pe_int pa_nil))) pa_nil)) pa_nil)))))) pa_nil))) pa_nil))) (pg_sub (pv 2) (pv 5) set_list))) 
              (pss_one (ps_asg (pe_lst (pa_cons (pe_ix (r := rIxL K) ix_list (pe_ix (r := rIxL K) ix_list (pv 2) (pv 5) (fun _ _ => rfl)) pe_int (fun _ _ => rfl)) (pa_cons (pe_callTy (T := "list") (r := rListOf K) cr_list (by rfl) T.b_list (by decide +kernel) (pa_cons (pe_ix (r := rIxL K) ix_list (pe_call C__law_pick.ok (hr.mono (by first | decide | omega)) rfl C__law_pick.mg C__law_pick.kp C__law_pick.bi .nil pass0 (pa_cons (pv 0) (pa_cons (pv 2) pa_nil))) pe_int (fun _ _ => rfl)) pa_nil)) pa_nil))) (pg_sub (pv 2) (pv 5) set_list))))))))))) pss_nil)))
    (pss_one (ps_ret (pv 2))))), ?_⟩
    walk_at "x"
    have hSl := hS.len
    refine x_docLO (S := rRaw) O hv (fun i F' m' ys => ∃ zs : List BZ, m' = zs.map (·.2) ++ ((p, o) :: m) ∧ ys = zs.map (·.1) ∧ RBs F' (pap.take i) zs) ⟨[], rfl, rfl, .nil⟩ ?_ ?_
    · rintro D acc i r z H1 F1 m1 ys hi hz s1 O1 hacc hyl ⟨zs, rfl, rfl, hR⟩
      walk_at "x"
      refine ⟨rfl, ?_⟩
      walk_at "x"
      refine x_iteT rfl ?_
      walk_at "x"
      refine x_two0 O1 hz (fun a1 ha1 => ?_)
      have ha1 : a1 = .int r.1 := ha1
      subst ha1
      walk_at "x"
      refine x_two1 O1 hz (fun a2 ha2 => ?_)
      walk_at "x"
      refine x_listFO (R := rPair rInt rInt) O1 ha2 (fun l ws H2 hn2 O2 hws => ?_)
      walk_at "x"
      refine x_rawL O2 (by show 2 ≤ _; decide) (fun ra H3 F3 s3 h3 O3 => ?_)
      have il := (List.getElem?_eq_some_iff.mp hi).1
      have O4 : Own H3 F3 ((D, .lst acc) :: ((zs ++ [((.ref ra, (l, .lst ws)) : BZ)]).map (·.2) ++ ((p, o) :: m))) := by
        refine O3.swap.perm (List.Perm.cons _ ?_)
        rw [List.map_append]
        exact perm_snoc _ _ _
      refine x_keep (S := rRaw) (z := .ref ra) O4 (s1.trans s3) rfl (all2_up s3 hacc) hyl (by omega) ⟨zs ++ [(.ref ra, (l, .lst ws))], rfl, ?_, ?_⟩
      · rw [List.map_append]
        rfl
      · rw [List.take_add_one, hi]
        exact (hR.up s3).snoc ⟨ra, l, ws, rfl, h3, all2_up s3 hws⟩
    · rintro D acc H1 F1 m1 ys s1 O1 hacc ⟨zs, rfl, rfl, hR⟩
      have e := raw_of hacc
      subst e
      rw [List.take_length] at hR
      have O2 : Own H1 F1 (bentM p o D zs m) := by
        refine O1.perm ?_
        refine List.Perm.trans (List.Perm.cons _ List.perm_middle) (List.Perm.swap _ _ _)
      walk_at "x"
      refine ⟨p, o, _, F1, _, rfl, O2, hp.up s1, by decide, by decide, fun d H3 o3 d0 d1 O3 hp3 => ?_⟩
      walk_at "x"
      obtain ⟨n, hn, hn2⟩ : ∃ n : Nat, (1 + (if decide (d = 3) = true then 1 else 0) : Int).toNat = n ∧ n ≤ 2 := ⟨_, rfl, by split <;> decide⟩
      refine x_doR1 (n := n) O3 hn (by split <;> decide) (by split <;> decide) (fun i σ F' m' => ∃ (zs : List BZ) (pap : Pap) (o' : HO) (u1 u2 u3 u4 : Option V), σ = [some (.ref p), some v, some (.ref D), u1, u2, u3, u4] ∧ m' = bentM p o' D zs m ∧ PoolOk F' o' ∧ RBs F' pap zs ∧ BSize (2000 + i) pap)
        ⟨zs, pap, o3, _, _, _, _, rfl, rfl, hp3, hR, hS⟩ ?_ ?_
      · rintro i σ' H4 F4 m4 hi s4 O4 ⟨zs4, pap4, o4, u1, u2, u3, u4, rfl, rfl, hp4, hR4, hS4⟩
        have hbm : ∀ {o' : HO}, (D, HO.lst (zs4.map (·.1))) ∈ bentM p o' D zs4 m := List.mem_cons_of_mem _ List.mem_cons_self
        have hul : (zs4.map (·.1)).length = zs4.length := List.length_map _
        have hzl : pap4.length = zs4.length := hR4.length
        have hSl4 := hS4.len
        walk_at "x"
        refine tq_listM O4 hbm ?_
        refine x_ite (fun he => ?_) (fun he => ?_)
        · have hne : 0 < zs4.length := by
            cases zs4 with
            | nil => simp at he
            | cons _ _ => simp
          walk_at "x"
          refine ⟨p, o4, _, F4, _, rfl, O4, hp4, by decide, by decide, fun kd H5 o5 k0 k1 O5 hp5 => ?_⟩
          walk_at "x"
          refine x_lenM O5 hbm ?_
          walk_at "x"
          refine x_lenM O5 hbm ?_
          walk_at "x"
          refine ⟨p, o5, _, F4, _, rfl, O5, hp5, by omega, by omega, fun d6 H6 o6 d60 d61 O6 hp6 => ?_⟩
          walk_at "x"
          refine x_rawL O6 (by show 3 ≤ _; decide) (fun pl H7 F7 s7 h7 O7 => ?_)
          walk_at "x"
          refine ⟨p, o6, pl, _, F7, _, rfl, O7, hp6.up s7, .inl h7, by simp, by simp, fun w8 H8 o8 hw8 O8 hp8 => ?_⟩
          obtain ⟨at_, rfl, hat⟩ : ∃ n : Nat, w8 = V.int (n : Int) ∧ n < zs4.length := by
            simp only [List.mem_cons, List.not_mem_nil, or_false] at hw8
            rcases hw8 with rfl | rfl | rfl
            · exact ⟨0, rfl, hne⟩
            · exact ⟨zs4.length - 1, by congr 1; omega, by omega⟩
            · exact ⟨d6.toNat, by congr 1; omega, by omega⟩
          have hR8 := hR4.up s7
          walk_at "x"
          refine x_iteD (fun h5 => ?_) (fun h5 => ?_)
          · walk_at "x"
            refine ⟨p, o8, D, kd, at_, zs4, pap4, 2000 + i, F7, m, rfl, O8, hp8, hR8, hS4, by omega, by omega, hat, fun H9 F9 o9 zs9 pap9 s9 O9 hp9 hR9 hS9 => ?_⟩
            walk_at "x"
            refine LI.mk (s4.trans (s7.trans s9)) O9 ?_
            exact ⟨zs9, pap9, o9, _, _, _, _, rfl, rfl, hp9, hR9, hS9⟩
          walk_at "x"
          refine x_iteD (fun h14 => ?_) (fun h14 => ?_)
          · walk_at "x"
            refine ⟨p, o8, D, kd, at_, zs4, pap4, 2000 + i, F7, m, rfl, O8, hp8, hR8, hS4, by omega, by omega, hat, fun H9 F9 o9 zs9 pap9 s9 O9 hp9 hR9 hS9 => ?_⟩
            walk_at "x"
            refine LI.mk (s4.trans (s7.trans s9)) O9 ?_
            exact ⟨zs9, pap9, o9, _, _, _, _, rfl, rfl, hp9, hR9, hS9⟩
          obtain ⟨z, hz⟩ : ∃ z, zs4[at_]? = some z := ⟨_, List.getElem?_eq_getElem hat⟩
          obtain ⟨r, hr, a, q, ws, rfl, ha, hw⟩ := hR8.get' hz
          walk_at "x"
          refine x_iteD (fun h15 => ?_) (fun h15 => ?_)
          · walk_at "x"
            refine x_ixM O8 hbm (j := at_) (w := .ref a) rfl (by rw [List.getElem?_map, hz]; rfl) ?_
            walk_at "x"
            refine x_ixF O8 ha (j := 0) rfl rfl ?_
            walk_at "x"
            refine x_ownL (vs := []) O8 (Nat.zero_le _) (fun l1 Ha hna Oa => ?_)
            walk_at "x"
            refine x_newPair (R := rInt) (S := rInt) (x := 0) (y := 0) Oa rfl rfl (fun vb Hb Fb sb Ob hvb => ?_)
            walk_at "x"
            refine x_ownL (vs := [vb]) Ob (by show 1 ≤ _; decide) (fun l2 Hc hnc Oc => ?_)
            walk_at "x"
            refine x_newPair (R := rInt) (S := rInt) (x := 0) (y := 0) Oc rfl rfl (fun vd Hd Fd sd Od hvd => ?_)
            walk_at "x"
            refine x_newPair (R := rInt) (S := rInt) (x := 1) (y := 0) Od rfl rfl (fun ve He Fe se Oe hve => ?_)
            walk_at "x"
            refine x_ownL (vs := [vd, ve]) Oe (by show 2 ≤ _; decide) (fun l3 Hf hnf Of => ?_)
            walk_at "x"
            refine x_newPair (R := rInt) (S := rInt) (x := 0) (y := 1) Of rfl rfl (fun vg Hg Fg sg Og hvg => ?_)
            walk_at "x"
            refine x_ownL (vs := [vg]) Og (by show 1 ≤ _; decide) (fun l4 Hh hnh Oh => ?_)
            walk_at "x"
            refine x_newPair (R := rInt) (S := rInt) (x := 1) (y := 0) Oh rfl rfl (fun vi Hi Fi si Oi hvi => ?_)
            walk_at "x"
            refine x_ownL (vs := [vi]) Oi (by show 1 ≤ _; decide) (fun l5 Hj hnj Oj => ?_)
            walk_at "x"
            refine x_rawL Oj (by show 5 ≤ _; decide) (fun pk Hk Fk sk hk Ok => ?_)
            walk_at "x"
            have sei := sg.trans (si.trans sk)
            have sall := sb.trans (sd.trans (se.trans sei))
            have Ok' := Ok.perm (List.perm_middle (l₁ := [(l5, HO.lst [vi]), (l4, HO.lst [vg]), (l3, HO.lst [vd, ve]), (l2, HO.lst [vb]), (l1, HO.lst [])]))
            refine ⟨p, o8, pk, _, Fk, _, rfl, Ok', hp8.up sall, .inl hk, by simp, by simp, fun wl Hl ol hwl Ol hpl => ?_⟩
            have hwl' : wl ∈ ([(l5, HO.lst [vi]), (l4, HO.lst [vg]), (l3, HO.lst [vd, ve]), (l2, HO.lst [vb]), (l1, HO.lst [])] : Mem).map (fun c => V.ref c.1) := by
              simp only [List.map_cons, List.map_nil, List.mem_cons, List.not_mem_nil, or_false] at hwl ⊢
              rcases hwl with h | h | h | h | h
              · exact .inr (.inr (.inr (.inr h)))
              · exact .inr (.inr (.inr (.inl h)))
              · exact .inr (.inr (.inl h))
              · exact .inr (.inl h)
              · exact .inl h
            obtain ⟨q2, ws2, ps2, rfl, O9, hps, hl4⟩ := pick_cell (cells := [(l5, HO.lst [vi]), (l4, HO.lst [vg]), (l3, HO.lst [vd, ve]), (l2, HO.lst [vb]), (l1, HO.lst [])]) (w := wl) (Ol.perm List.perm_middle.symm) hwl'
              (fun c hc => by
                simp at hc
                rcases hc with rfl | rfl | rfl | rfl | rfl
                · exact ⟨_, [(1, 0)], rfl, .cons (up sk hvi) .nil, by decide⟩
                · exact ⟨_, [(0, 1)], rfl, .cons (up (si.trans sk) hvg) .nil, by decide⟩
                · exact ⟨_, [(0, 0), (1, 0)], rfl, .cons (up (se.trans sei) hvd) (.cons (up sei hve) .nil), by decide⟩
                · exact ⟨_, [(0, 0)], rfl, .cons (up (sd.trans (se.trans sei)) hvb) .nil, by decide⟩
                · exact ⟨_, [], rfl, .nil, by decide⟩)
            walk_at "x"
            refine x_rawL O9 (by show 2 ≤ _; decide) (fun ra Hm Fm sm hm Om => ?_)
            walk_at "x"
            refine x_setN (j := at_) Om.rot3 (ixN_at rfl (by omega)) (fun Hn On => ?_)
            walk_at "x"
            have s7m := sall.trans sm
            refine LI.mk (s4.trans (s7.trans s7m)) (bent_set (z' := (.ref ra, (q2, .lst ws2))) hz On) ?_
            exact ⟨_, pap4.set at_ (r.1, ps2), ol, _, _, _, _, rfl, rfl, hpl.up sm, (hR8.up s7m).set at_ ⟨ra, q2, ws2, rfl, hm, all2_up sm hps⟩, hS4.set (by show ps2.length ≤ _; omega)⟩
          · walk_at "x"
            refine x_ixM O8 hbm (j := at_) (w := .ref a) rfl (by rw [List.getElem?_map, hz]; rfl) ?_
            walk_at "x"
            refine x_ixF O8 ha (j := 0) rfl rfl ?_
            walk_at "x"
            refine ⟨p, o8, D, _, F7, _, rfl, O8, hp8, .inr List.mem_cons_self, fun e => ?_, by omega, fun w2 H2 o2 hw2 O2 hp2 => ?_⟩
            · rw [e] at hul
              simp at hul
              omega
            obtain ⟨z2, hz2, rfl⟩ := List.mem_map.mp hw2
            obtain ⟨jz, hjz⟩ := List.getElem?_of_mem hz2
            obtain ⟨r2, hr2, a2, q2, ws2, rfl, ha2, hw2⟩ := hR8.get' hjz
            walk_at "x"
            refine x_ixF O2 ha2 (j := 1) rfl rfl ?_
            walk_at "x"
            refine x_listM O2 (vs := ws2) (List.mem_cons_of_mem _ (List.mem_cons_of_mem _ (List.mem_append_left _ (List.mem_map.mpr ⟨_, hz2, rfl⟩)))) (fun q3 H3 hn3 O3 => ?_)
            walk_at "x"
            refine x_rawL O3 (by show 2 ≤ _; decide) (fun ra Hm Fm sm hm Om => ?_)
            walk_at "x"
            refine x_setN (j := at_) Om.rot3 (ixN_at rfl (by omega)) (fun Hn On => ?_)
            walk_at "x"
            refine LI.mk (s4.trans (s7.trans sm)) (bent_set (z' := (.ref ra, (q3, .lst ws2))) hz On) ?_
            exact ⟨_, pap4.set at_ (r.1, r2.2), o2, _, _, _, _, rfl, rfl, hp2.up sm, (hR8.up sm).set at_ ⟨ra, q3, ws2, rfl, hm, all2_up sm hw2⟩, hS4.set (by have := hS4.lens r2 (List.mem_of_getElem? hr2); show r2.2.length ≤ _; omega)⟩
        · walk_at "x"
          refine LI.mk s4 O4 ?_
          exact ⟨zs4, pap4, o4, _, _, _, _, rfl, rfl, hp4, hR4, hS4.mono (by omega)⟩
      · rintro σ' H4 F4 m4 s4 O4 ⟨zs4, pap4, o4, u1, u2, u3, u4, rfl, rfl, hp4, hR4, hS4⟩
        walk_at "x"
        obtain ⟨F5, s5, O5, hv5⟩ := bent_all O4 hR4
        exact k _ H4 F5 o4 pap4 (s1.trans (s4.trans s5)) O5 (hp4.up s5) hv5 (hS4.mono (by omega))
end
end Tf
namespace Tf
open PySem PySem.Spec PyProof.Rows L2
theorem kvR.raw {α : Type} {R : Rp α} {F : Hp} : ∀ {d : List (Int × α)} {kvs : List (Key × V)}, kvR R F d kvs → ∃ dr : List (Int × V), (∀ F', kvR rRaw F' dr kvs) ∧ dr.map (·.1) = d.map (·.1)
  | _, _, .nil => ⟨[], fun _ => .nil, rfl⟩
  | _, _, .cons (x := p) (y := q) h t => by
    obtain ⟨dr, h1, h2⟩ := kvR.raw t
    exact ⟨(p.1, q.2) :: dr, fun F' => .cons ⟨h.1, rfl⟩ (h1 F'), by rw [List.map_cons, List.map_cons, h2]⟩
theorem putK_new {α : Type} {R : Rp α} {F : Hp} {d : List (Int × α)} {kvs : List (Key × V)} {k : Int} {v : V} (h : kvR R F d kvs) (hn : k ∉ d.map (·.1)) : putK kvs (Sum.inl k) v = kvs ++ [(Sum.inl k, v)] := by
  unfold putK
  rw [h.any k, if_neg]
  intro e
  obtain ⟨p, hp, e⟩ := List.any_eq_true.mp e
  exact hn (List.mem_map.mpr ⟨p, hp, of_decide_eq_true e⟩)
theorem x_dinR {α : Type} {R : Rp α} {H F F0 : Hp} {m : Mem} {a : Addr} {kvs : List (Key × V)} {d : List (Int × α)} {z : Int} {Q : Bool → Hp → Prop} (O : Own H F m) (h : Rd F a (.dK kvs)) (hk : kvR R F0 d kvs) (k : Q (Tf.getD d z).isSome H) : DIQ (.ref a) (.int z) Q H := by
  refine ⟨a, _, rfl, .inl ⟨kvs, .inl z, rd_own O h, rfl, rfl⟩, ?_⟩
  rcases hk.get z with ⟨e1, e2⟩ | ⟨y, w, e1, e2, hr⟩
  · rw [e2]
    rw [e1] at k
    exact k
  · rw [e2]
    rw [e1] at k
    exact k
theorem verdict_no4 {rows : List Row} {p : Pap} {r : Int × List (Int × Int)} (hr : r ∈ p) (h : holdsB rows p r = false) : verdict rows p = false := by
  have : p.all (holdsB rows p) = false := by
    rw [Bool.eq_false_iff]
    intro h2
    rw [List.all_eq_true.mp h2 r hr] at h
    cases h
  unfold verdict
  rw [this, Bool.and_false]
def spAccepts : Sp := fun vs H Q _ => ∃ (v w : V) (rows : List Row) (p : Pap) (F : Hp) (m : Mem), vs = [v, w] ∧ Own H F m ∧ rRows F rows v ∧ rPapL F p w ∧ Small rows p ∧ ∀ H' F', Same F F' → Own H' F' m → Q (.bl (verdict rows p)) H'
section
variable {P : Program} {w : World} {K : PySem.W.Frag} {mg : Str → Option Value} {base : Heap}
abbrev sAc : Stmt := top 33
abbrev NAc : List Str := ["rows", "paper", "table", "last", "row", "pair", "k", "due", "step", "m"]
theorem scAc : FnScope NAc ["rows", "paper"] (defScope sAc) := ⟨rfl, rfl, rfl, by decide +kernel, rfl, by decide +kernel, by decide +kernel⟩
theorem ok_Ac {f f1 f2 : Addr} {fd fd1 fd2 : FuncData} (F : Fun K "_law_accepts" "_law_accepts" sAc f fd) (T : Bi mg) (C__law_ascends : Cal P w K mg base "_law_ascends" 1 f1 fd1 ["pairs"] spAsc) (C__law_sums : Cal P w K mg base "_law_sums" 1 f2 fd2 ["row", "table"] spLeastG) :
    FnOk P w K mg base CX0 2 f fd ["rows", "paper"] spAccepts := by
  refine F.ok scAc (fun vs H Q E h => ?_) (fun cdv A outer s H vs Q E hr h => ?_)
  · obtain ⟨v, w, rows, p, F, m, rfl, _⟩ := h
    rfl
  · obtain ⟨v, wv, rows, p, F, m, rfl, O, hv, hw, hS, k⟩ := h
    have hu := hu_of hr
    have hu64 := hr.units
    have wf := hS.wf
    have hpl := hS.len
    refine ⟨_, 
    (pss_cons (ps_set (i := 2) scAc.nd rfl (Or.inr rfl) pe_dnewK)
    (pss_cons (ps_set (i := 3) scAc.nd rfl (Or.inl rfl) (pe_un un_neg pe_int))
    (pss_cons (ps_for PassesOwn.never rfl (pi_list (pv 1)) (pg_name (i := 4) scAc.nd rfl (Or.inl rfl)) 
      (pss_cons (ps_if (PW.pt (pw_or (pt_not (pt_chain op_lt op_lt (pv 3) (pe_ix (r := rIxL K) ix_list (pv 4) pe_int (fun _ _ => rfl)) (pe_callB cr_len (by rfl) T.b_len (by decide +kernel) (pa_cons (pv 0) pa_nil)))) (pw_or1 (pt_not (pt_val (pe_call C__law_ascends.ok (hr.mono (by first | decide | omega)) rfl C__law_ascends.mg C__law_ascends.kp C__law_ascends.bi .nil pass0 (pa_cons (pe_ix (r := rIxL K) ix_list (pv 4) pe_int (fun _ _ => rfl)) pa_nil))))))) 
        (pss_one (ps_ret pe_bl)) pss_nil)
      (pss_cons (ps_set (i := 3) scAc.nd rfl (Or.inl rfl) (pe_ix (r := rIxL K) ix_list (pv 4) pe_int (fun _ _ => rfl)))
      (pss_cons (ps_dput hu (pv 2) (pv 3) pe_dnewK rfl)
      (pss_one (ps_for PassesOwn.never rfl (pi_list (pe_ix (r := rIxL K) ix_list (pv 4) pe_int (fun _ _ => rfl))) (pg_name (i := 5) scAc.nd rfl (Or.inl rfl)) 
        (pss_one (ps_dput hu (pe_dget hu (pv 2) (pv 3) (fun _ _ => rfl)) (pe_ix (r := rIxT K) ix_tup (pv 5) pe_int (fun _ _ => rfl)) (pe_ix (r := rIxT K) ix_tup (pv 5) pe_int (fun _ _ => rfl)) rfl))))))))
    (pss_cons (ps_if (pt_cmp (pc_dnotin hu pe_int (pv 2))) 
      (pss_one (ps_ret pe_bl)) pss_nil)
    (pss_cons (ps_lock (ps_for PassesOwn.never rfl (pi_keys (pv 2)) (pg_name (i := 6) scAc.nd rfl (Or.inr rfl)) 
      (pss_cons (ps_if (pt_tru (pe_lc (own := [("step", 8)]) (g := (gName 8)) rfl scAc.nd (pi_list (pe_ix (r := rIxL K) ix_list (pv 0) (pv 6) (fun _ _ => rfl))) (blkOk_by (N := NAc) (sc := defScope sAc) (by decide +kernel)) (fun _ _ _ _ _ => (pg_name (i := 8) scAc.nd rfl (by first | exact Or.inl rfl | exact Or.inr rfl))) (fun _ _ _ _ _ => (pts_one (pt_cmp (pc_dnotin hu (pe_ix (r := rIxT K) ix_tup (pv 8) pe_int (fun _ _ => rfl)) (pv 2))))) (fun _ _ _ _ _ => (pv 8))) (by intro _; rfl)) 
        (pss_one (ps_ret pe_bl)) pss_nil)
      (pss_cons (ps_set (i := 7) scAc.nd rfl (Or.inr rfl) (pe_call C__law_sums.ok (hr.mono (by first | decide | omega)) rfl C__law_sums.mg C__law_sums.kp C__law_sums.bi .nil pass0 (pa_cons (pe_ix (r := rIxL K) ix_list (pv 0) (pv 6) (fun _ _ => rfl)) (pa_cons (pv 2) pa_nil))))
      (Tf.pss_cut (ps_if (pt_cmpR op_eq (pv 6) (pe_op op_sub (pe_callB cr_len (by rfl) T.b_len (by decide +kernel) (pa_cons (pv 0) pa_nil)) pe_int) (nomark _)) 
        (pss_one (ps_dput hu (pv 7) pe_int pe_int rfl)) pss_nil)
      (pss_one (ps_if (PW.pt (pw_or (pt_cmpR (op_neD hu64) (pe_callB (cr_sortedDI rfl) (by rfl) T.b_sorted (by decide +kernel) (pa_cons (pv 7) pa_nil)) (pe_callB (cr_sortedDI rfl) (by rfl) T.b_sorted (by decide +kernel) (pa_cons (pe_dget hu (pv 2) (pv 6) (fun _ _ => rfl)) pa_nil)) (nomark _)) (pw_or1 (pt_tru (pe_lock (pe_lc (own := [("m", 9)]) (g := (gName 9)) rfl scAc.nd (pi_keys (pv 7)) (blkOk_by (N := NAc) (sc := defScope sAc) (by decide +kernel)) (fun _ _ _ _ _ => (pg_name (i := 9) scAc.nd rfl (by first | exact Or.inl rfl | exact Or.inr rfl))) (fun _ _ _ _ _ => (pts_one (pt_cmpR op_ne (pe_dget hu (pv 7) (pv 9) (fun _ _ => rfl)) (pe_dget hu (pe_dget hu (pv 2) (pv 6) (fun _ _ => rfl)) (pv 9) (fun _ _ => rfl)) (nomark _)))) (fun _ _ _ _ _ => (pv 9)))) (by intro _; rfl))))) 
        (pss_one (ps_ret pe_bl)) pss_nil)))))))
    (pss_one (ps_ret pe_bl))))))), ?_⟩
    walk_at "x"
    refine x_dnew O (fun tb H1 hn1 O1 => ?_)
    walk_at "x"
    refine x_doL O1 hw (fun i σ F' m' => ∃ (last : Int) (kvs : List (Key × V)) (u4 u5 u6 u7 u8 u9 : Option V), σ = [some v, some wv, some (.ref tb), some (.int last), u4, u5, u6, u7, u8, u9] ∧ m' = (tb, .dK kvs) :: m ∧ kvR rLens F' (p.take i) kvs ∧ -1 ≤ last ∧ (∀ q ∈ p.take i, q.1 ≤ last) ∧
      statesOk rows.length (-1) p = statesOk rows.length last (p.drop i) ∧ ((p.take i).all fun r => pairsOk (-1) r.2) = true) ⟨-1, [], _, _, _, _, _, _, rfl, rfl, .nil, by decide, fun q hq => by simp at hq, rfl, rfl⟩ ?_ ?_
    · rintro i r z σ' H3 F3 m3 hi hz s3 O3 ⟨last, kvs, u4, u5, u6, u7, u8, u9, rfl, rfl, hk, hl1, hl2, hl3, hall⟩
      have hrm := List.mem_of_getElem? hi
      have hil := (List.getElem?_eq_some_iff.mp hi).1
      have hr5 := hS.lens r hrm
      have hd : p.drop i = r :: p.drop (i + 1) := by
        rw [List.drop_eq_getElem_cons hil, (List.getElem?_eq_some_iff.mp hi).2]
      rw [hd, statesOk_cons] at hl3
      have bad : statesOk rows.length (-1) p = false → ∀ H' F', Same F3 F' → Own H' F' ((tb, .dK kvs) :: m) → Q (.bl false) H' := fun e H' F' s' O' => by
        rw [verdict_no1 e] at k
        exact k H' F' (s3.trans s') O'.tail
      walk_at "x"
      refine x_two0 O3 hz (fun a1 ha1 => ?_)
      have ha1 : a1 = .int r.1 := ha1
      subst ha1
      walk_at "x"
      refine x_iteD (fun h1 => ?_) (fun h1 => ?_)
      · walk_at "x"
        refine x_lenL O3 (up s3 hv) ?_
        walk_at "x"
        refine x_iteDn (fun h2 => ?_) (fun h2 => ?_)
        · refine x_iteT rfl ?_
          walk_at "x"
          exact bad (by rw [hl3, decide_eq_false h2, Bool.and_false]; rfl) H3 F3 (Same.refl _) O3
        walk_at "x"
        refine x_two1 O3 hz (fun a2 ha2 => ?_)
        walk_at "x"
        refine ⟨a2, r.2, F3, _, rfl, O3, ha2, fun H4 F4 s4 O4 => ?_⟩
        walk_at "x"
        cases hmay : pairsOk (-1) r.2 with
        | false =>
          refine x_iteT rfl ?_
          walk_at "x"
          rw [verdict_no2 hrm hmay] at k
          exact k H4 F4 (s3.trans s4) O4.tail
        | true =>
          refine x_iteF rfl ?_
          walk_at "x"
          have s34 := s3.trans s4
          have hnd := (pairsOk_lt hmay).2
          refine x_two0 O4 (up s4 hz) (fun a1 ha1 => ?_)
          have ha1 : a1 = .int r.1 := ha1
          subst ha1
          walk_at "x"
          refine x_dnew O4 (fun pd H5 hn5 O5 => ?_)
          walk_at "x"
          have hkl : kvs.length ≤ i := by
            rw [hk.len, List.length_take]
            omega
          have hnot : r.1 ∉ (p.take i).map (·.1) := fun h => by
            obtain ⟨q, hq, e⟩ := List.mem_map.mp h
            have e : q.1 = r.1 := e
            have := hl2 q hq
            omega
          refine ⟨tb, _, rfl, .inl ⟨kvs, Sum.inl r.1, O5.swap.at0, rfl, by rw [sizeLine_eq]; omega, rfl⟩, ?_⟩
          have O6 := O5.swap.set (.dK (putK kvs (Sum.inl r.1) (.ref pd)))
          rw [putK_new hk hnot] at O6 ⊢
          generalize upd H5 tb (.dK (kvs ++ [((Sum.inl r.1 : Key), V.ref pd)])) = H6 at O6 ⊢
          obtain ⟨dr, hdr, hdk⟩ := hk.raw
          have hraw : ∀ F', kvR rRaw F' (dr ++ [(r.1, V.ref pd)]) (kvs ++ [((Sum.inl r.1 : Key), V.ref pd)]) := fun F' => All2.snoc (hdr F') ⟨rfl, rfl⟩
          have hget : Tf.getD (dr ++ [(r.1, V.ref pd)]) r.1 = some (V.ref pd) := by
            rw [getD_app, getD_none.mpr (by rw [hdk]; exact hnot), getD_cons, if_pos rfl]
            rfl
          walk_at "x"
          refine x_two1 O6 (up s4 hz) (fun a2 ha2 => ?_)
          refine x_doL O6.swap ha2 (fun j σ F' m' => ∃ (kl : List (Key × V)) (u5 u6 u7 u8 u9 : Option V), σ = [some v, some wv, some (.ref tb), some (.int r.1), some z, u5, u6, u7, u8, u9] ∧ m' = (pd, .dK kl) :: (tb, .dK (kvs ++ [((Sum.inl r.1 : Key), V.ref pd)])) :: m ∧
            kvR rInt F' ((r.2.take j).foldl (fun d p => putD d p.1 p.2) []) kl ∧ ((r.2.take j).foldl (fun d p => putD d p.1 p.2) []).length ≤ j) ⟨[], _, _, _, _, _, rfl, rfl, .nil, Nat.le_refl _⟩ ?_ ?_
          · rintro j q zq σ' H7 F7 m7 hj hzq s7 O7 ⟨kl, u5, u6, u7, u8, u9, rfl, rfl, hkl7, hlen7⟩
            walk_at "x"
            refine x_snd O7 hzq (fun b2 hb2 => ?_)
            have hb2 : b2 = .int q.2 := hb2
            subst hb2
            walk_at "x"
            refine x_dgetO O7.swap (hraw F7) hget (fun wx hwx => ?_)
            have hwx : wx = .ref pd := hwx
            subst hwx
            walk_at "x"
            refine x_fst O7 hzq (fun b1 hb1 => ?_)
            have hb1 : b1 = .int q.1 := hb1
            subst hb1
            have hjl := (List.getElem?_eq_some_iff.mp hj).1
            refine x_dputO (R := rInt) (x := q.2) O7 hkl7 rfl (by omega) (fun kl8 H8 hk8 O8 => ?_)
            walk_at "x"
            refine LI.mk s7 O8 ?_
            refine ⟨kl8, _, _, _, _, _, rfl, rfl, ?_, ?_⟩
            · rw [List.take_add_one, hj, List.foldl_append]
              exact hk8
            · rw [List.take_add_one, hj, List.foldl_append]
              exact Nat.le_trans putD_len (Nat.succ_le_succ hlen7)
          · rintro σ' H7 F7 m7 s7 O7 ⟨kl, u5, u6, u7, u8, u9, rfl, rfl, hkl7, hlen7⟩
            rw [List.take_length, putAll r.2 hnd] at hkl7
            have O8 := O7.freeze
            have s8 := O7.freeze_same
            walk_at "x"
            refine LI.mk (s34.trans (s7.trans s8)) O8 ?_
            refine ⟨r.1, _, _, _, _, _, _, _, rfl, rfl, ?_, by omega, fun q hq => ?_, ?_, ?_⟩
            · rw [List.take_add_one, hi]
              exact All2.snoc (hk.up (s4.trans (s7.trans s8))) ⟨rfl, pd, kl, rfl, upd_same, hkl7.up s8⟩
            · rw [List.take_add_one, hi] at hq
              rcases List.mem_append.mp hq with hq | hq
              · have := hl2 q hq
                omega
              · have : q = r := by simpa using hq
                rw [this]
                exact Int.le_refl _
            · rw [hl3, decide_eq_true h1, decide_eq_true h2]
              rfl
            · rw [List.take_add_one, hi, List.all_append, hall]
              show (true && ([r].all _)) = true
              rw [List.all_cons, hmay]
              rfl
      · walk_at "x"
        refine x_iteT rfl ?_
        refine x_iteT rfl ?_
        walk_at "x"
        exact bad (by rw [hl3, decide_eq_false h1]; rfl) H3 F3 (Same.refl _) O3
    · rintro σ' H3 F3 m3 s3 O3 ⟨last, kvs, u4, u5, u6, u7, u8, u9, rfl, rfl, hk, hl1, hl2, hl3, hall⟩
      rw [List.take_length] at hk hall
      rw [List.drop_length] at hl3
      have hst : statesOk rows.length (-1) p = true := hl3
      obtain ⟨hsb, hsn⟩ := statesOk_lt hst
      obtain ⟨O4, s4, h4⟩ := freezeD O3 hk
      have s34 := s3.trans s4
      walk_at "x"
      refine x_dinF O4 (dictX h4) ?_
      walk_at "x"
      cases h0 : (getD p 0).isSome with
      | false =>
        refine x_iteT rfl ?_
        walk_at "x"
        rw [verdict_no3 h0] at k
        exact k H3 _ s34 O4
      | true =>
        refine x_iteF rfl ?_
        walk_at "x"
        obtain ⟨_, kv4, e4, h4a, hk4⟩ := id h4
        cases e4
        have hv4 := up s34 hv
        generalize upd F3 tb (.dK kvs) = F4 at *
        refine x_lock2 O4 h4a (fun od H5 F5 O5 le5 h5 hne5 back => ?_)
        walk_at "x"
        have hR5 : ∀ {F'}, Same F5 F' → Rd F' tb (.dK kv4) := fun s => .inr ⟨od, s _ _ h5⟩
        have hv5 : rRows F5 rows v := Mono.le le5 hv4
        have hk5 : ∀ {F'}, Same F5 F' → kvR rLens F' p kv4 := fun s => kvR.up s (kvR_lock h4a hk4 hne5)
        refine x_doK O5 h5 hk4 (fun i σ F' m' => ∃ (u4 u5 u6 u7 u8 u9 : Option V), σ = [some v, some wv, some (.ref tb), some (.int last), u4, u5, u6, u7, u8, u9] ∧ m' = m ∧ (p.take i).all (holdsB rows p) = true) ⟨_, _, _, _, _, _, rfl, rfl, rfl⟩ ?_ ?_
        · rintro i r σ' H6 F6 m6 hi s6 O6 ⟨u4, u5, u6, u7, u8, u9, rfl, rfl, hdone⟩
          have hrm := List.mem_of_getElem? hi
          have hb := hsb r hrm
          obtain ⟨j, hj⟩ : ∃ j : Nat, r.1 = (j : Int) := ⟨r.1.toNat, by omega⟩
          have hjl : j < rows.length := by omega
          obtain ⟨row, hrow⟩ := wf.row hjl
          have hrl := hS.few row (List.mem_of_getElem? hrow)
          have erow : rowAt rows r.1 = row := by
            unfold rowAt
            rw [hj, Int.toNat_natCast, hrow]
            rfl
          have hgr : getD p r.1 = some r.2 := getD_of hsn hrm
          have hmayr := (pairsOk_lt (List.all_eq_true.mp hall r hrm)).2
          walk_at "x"
          refine x_ixL (R := rRow) (j := j) O6 (up s6 hv5) hj hrow (fun rv hrv => ?_)
          refine x_docL (S := rPair rInt rNat) O6 hrv (fun i2 F' m' ys => m' = m6 ∧ ys = (row.take i2).filter fun q => !(getD p (q.2 : Int)).isSome) ⟨rfl, by simp⟩ ?_ ?_
          · rintro D acc i2 q z H7 F7 m7 ys hi2 hz s7 O7 hacc hyl ⟨rfl, rfl⟩
            have il2 := (List.getElem?_eq_some_iff.mp hi2).1
            walk_at "x"
            refine ⟨rfl, ?_⟩
            walk_at "x"
            refine x_snd O7 hz (fun a2 ha2 => ?_)
            have ha2 : a2 = .int (q.2 : Int) := ha2
            subst ha2
            walk_at "x"
            refine x_dinR (z := (q.2 : Int)) O7 (hR5 (s6.trans s7)) hk4 ?_
            walk_at "x"
            cases hg : (getD p (q.2 : Int)).isSome with
            | true =>
              refine x_iteF rfl ?_
              refine x_skip O7 s7 hacc hyl ⟨rfl, ?_⟩
              rw [filt_take_no hi2 (by rw [hg]; rfl)]
            | false =>
              refine x_iteT rfl ?_
              walk_at "x"
              refine x_keep O7 s7 hz hacc hyl (by omega) ⟨rfl, ?_⟩
              rw [filt_take_yes hi2 (by rw [hg]; rfl)]
          · rintro v7 H7 F7 m7 ys s7 O7 hv7 ⟨rfl, rfl⟩
            rw [List.take_length] at hv7
            have s57 := s6.trans s7
            obtain ⟨a7, us7, rfl, ha7, hu7⟩ := id hv7
            walk_at "x"
            refine tq_list (O7.frz ha7) ?_
            have hul := hu7.length
            cases hst : stepsIn rows p r.1 with
            | false =>
              have hne : us7.isEmpty = false := by
                cases us7 with
                | cons _ _ => rfl
                | nil =>
                  have hnil : (row.filter fun q => !(getD p (q.2 : Int)).isSome) = [] := List.eq_nil_of_length_eq_zero hul
                  have : stepsIn rows p r.1 = true := by
                    unfold stepsIn
                    rw [erow]
                    refine List.all_eq_true.mpr fun q hq => ?_
                    have := List.filter_eq_nil_iff.mp hnil q hq
                    cases hx : (getD p (q.2 : Int)).isSome with
                    | true => rfl
                    | false =>
                      rw [hx] at this
                      exact absurd rfl this
                  rw [hst] at this
                  cases this
              refine x_iteT (by rw [hne]; rfl) ?_
              refine x_ret (x_c ?_)
              refine x_unlockR O7 h5 back s57 (fun H8 F8 s8 le8 O8 => ?_)
              have e : holdsB rows p r = false := by
                unfold holdsB
                rw [hst]
                rfl
              rw [verdict_no4 hrm e] at k
              exact k H8 F8 (s34.trans s8) O8
            | true =>
              have hin : ∀ q ∈ row, getD p (q.2 : Int) = some (look p q.2) ∧ (look p q.2).length ≤ 5000 := fun q hq => by
                have hst := hst
                unfold stepsIn at hst
                rw [erow] at hst
                obtain ⟨d, hd⟩ := Option.isSome_iff_exists.mp (List.all_eq_true.mp hst q hq)
                have e : look p q.2 = d := by
                  unfold look
                  rw [hd]
                  rfl
                rw [e]
                exact ⟨hd, hS.lens _ (getD_mem hd)⟩
              have hye : us7.isEmpty = true := by
                have hnil : (row.filter fun q => !(getD p (q.2 : Int)).isSome) = [] := List.filter_eq_nil_iff.mpr fun q hq => by
                  rw [(hin q hq).1]
                  simp
                rw [hnil] at hul
                rw [List.isEmpty_iff]
                exact List.eq_nil_of_length_eq_zero hul.symm
              refine x_iteF (by rw [hye]; rfl) ?_
              walk_at "x"
              refine x_ixL (R := rRow) (j := j) O7 (up s57 hv5) hj hrow (fun rv2 hrv2 => ?_)
              walk_at "x"
              refine ⟨rv2, .ref tb, row, p, look p, F7, _, rfl, O7, hrv2, ⟨tb, kv4, rfl, hR5 s57, hk5 s57⟩, hin, hrl, fun pd kd H8 O8 hkd => ?_⟩
              walk_at "x"
              refine x_cut (fun σ' H' => ∃ kd, σ' = [some v, some wv, some (.ref tb), some (.int last), u4, u5, some (.int r.1), some (.ref pd), u8, u9] ∧ Own H' F7 ((pd, .dK kd) :: m7) ∧ kvR rInt F7 (dueOf rows p r.1) kd) ?_ ?_
              · walk_at "x"
                refine x_lenL O8 (up s57 hv5) ?_
                walk_at "x"
                refine x_iteD (fun hend => ?_) (fun hend => ?_)
                · have er := wf.last hrow (by omega)
                  subst er
                  walk_at "x"
                  refine x_dputO (R := rInt) (x := 0) O8 hkd rfl (by show 0 < _; decide) (fun kd2 H9 hkd2 O9 => ?_)
                  walk_at "x"
                  refine ⟨kd2, rfl, O9, ?_⟩
                  unfold dueOf
                  rw [if_pos (by omega)]
                  exact hkd2
                · walk_at "x"
                  refine ⟨kd, rfl, O8, ?_⟩
                  unfold dueOf
                  rw [if_neg (by omega), erow]
                  exact hkd
              · rintro σ' H9 ⟨kd9, rfl, O9, hk9⟩
                obtain ⟨O10, s10, h10⟩ := freezeD O9 hk9
                have s510 := s57.trans s10
                have hdnd := dueOf_nd (rows := rows) (paper := p) (k := r.1)
                obtain ⟨_, tab4, wv4, e4, htb4, hval4, hrl4⟩ := dict_at (⟨tb, kv4, rfl, hR5 s510, hk5 s510⟩ : rDict rLens _ p (.ref tb)) hgr
                cases e4
                generalize hdue : dueOf rows p r.1 = due at *
                walk_at "x"
                refine x_sortedD O10 (dictX h10) (fun ns w11 H11 F11 hp11 hs11 s11 O11 hw11 => ?_)
                have hns := sortI_eq hp11 hs11
                subst hns
                walk_at "x"
                refine x_dgetR O11 (rd_same s11 htb4) hval4 ?_
                walk_at "x"
                refine x_sortedD O11 (dictX (up s11 hrl4)) (fun ns w12 H12 F12 hp12 hs12 s12 O12 hw12 => ?_)
                have hns := sortI_eq hp12 hs12
                subst hns
                walk_at "x"
                refine x_neLI O12 (up s12 hw11) hw12 ?_
                walk_at "x"
                have s1012 := s11.trans s12
                have s512 := s510.trans s1012
                refine x_iteDn (fun hne => ?_) (fun heq => ?_)
                · refine x_iteT rfl ?_
                  refine x_ret (x_c ?_)
                  refine x_unlockR O12 h5 back s512 (fun H13 F13 s13 le13 O13 => ?_)
                  have e : holdsB rows p r = false := by
                    unfold holdsB
                    rw [hst, hdue, Bool.true_and, Bool.eq_false_iff]
                    intro h
                    exact hne ((law_same hmayr hdnd).mpr ((dictEq_same hmayr hdnd).mp h)).1
                  rw [verdict_no4 hrm e] at k
                  exact k H13 F13 (s34.trans s13) O13
                · walk_at "x"
                  obtain ⟨pdd, kdd, ed, h12a, h12k⟩ := up s1012 h10
                  cases ed
                  refine x_lockE O12 h12a (fun od2 H13 F13 O13 le13 h13 back13 => ?_)
                  walk_at "x"
                  have hR13 : ∀ {F'}, Same F13 F' → Rd F' tb (.dK tab4) := fun s => rd_same s (le13.dk _ _ (rd_same s1012 htb4))
                  have hrl13 : rDict rInt F13 r.2 wv4 := Mono.le le13 (dictX (up s1012 hrl4))
                  refine x_docK (S := rInt) (d := due) O13 h13 (h12k.mono fun _ _ h => h) (fun i3 F' m' ys => m' = m7 ∧ ys = ((due.take i3).filter fun q => !decide (getD r.2 q.1 = some q.2)).map (·.1)) ⟨rfl, by simp⟩ ?_ ?_
                  · rintro D acc i3 q H14 F14 m14 ys hi3 hd14 s14 O14 hacc hyl ⟨rfl, rfl⟩
                    have il3 := (List.getElem?_eq_some_iff.mp hi3).1
                    have hqm := List.mem_of_getElem? hi3
                    walk_at "x"
                    refine ⟨rfl, ?_⟩
                    walk_at "x"
                    refine x_dgetF O14 hd14 (getD_of hdnd hqm) (fun w15 hw15 => ?_)
                    have hw15 : w15 = .int q.2 := hw15
                    subst hw15
                    walk_at "x"
                    refine x_dgetR O14 (hR13 s14) hval4 ?_
                    walk_at "x"
                    have hqk : q.1 ∈ r.2.map (·.1) := by
                      have h1 : q.1 ∈ sortI (due.map (·.1)) := (sortI_perm _).mem_iff.mpr (List.mem_map_of_mem hqm)
                      rw [heq] at h1
                      exact (sortI_perm _).mem_iff.mp h1
                    obtain ⟨c, hc⟩ := getD_some hqk
                    refine x_dgetF O14 (up s14 hrl13) hc (fun w16 hw16 => ?_)
                    have hw16 : w16 = .int c := hw16
                    subst hw16
                    walk_at "x"
                    refine x_iteDn (fun hne => ?_) (fun he => ?_)
                    · walk_at "x"
                      refine x_keep (S := rInt) (z := q.1) O14 s14 rfl hacc hyl (by have := hS.lens r hrm; have := congrArg List.length heq; rw [(sortI_perm _).length_eq, (sortI_perm _).length_eq, List.length_map, List.length_map] at this; omega) ⟨rfl, ?_⟩
                      rw [filt_take_yes hi3 (by rw [hc, decide_eq_false fun z => hne (Option.some.inj z).symm]; rfl), List.map_append]
                      rfl
                    · refine x_skip O14 s14 hacc hyl ⟨rfl, ?_⟩
                      rw [filt_take_no hi3 (by rw [hc, he, decide_eq_true rfl]; rfl)]
                  · rintro v14 H14 F14 m14 ys s14 O14 hv14 ⟨rfl, rfl⟩
                    rw [List.take_length] at hv14
                    refine x_unlockE O14 h13 back13 s14 (fun H15 F15 s15 le15 O15 => ?_)
                    have hv15 := Mono.le le15 hv14
                    obtain ⟨a15, us15, rfl, ha15, hu15⟩ := id hv15
                    have hul15 := hu15.length
                    rw [List.length_map] at hul15
                    have s515 := s512.trans s15
                    refine tq_list (O15.frz ha15) ?_
                    cases hh : dictEqB r.2 due with
                    | false =>
                      have hne : us15.isEmpty = false := by
                        cases us15 with
                        | cons _ _ => rfl
                        | nil =>
                          have hnil : (due.filter fun q => !decide (getD r.2 q.1 = some q.2)) = [] := List.eq_nil_of_length_eq_zero hul15
                          have : dictEqB r.2 due = true := (dictEq_same hmayr hdnd).mpr ((law_same hmayr hdnd).mp ⟨heq, fun q hq => by
                            have := List.filter_eq_nil_iff.mp hnil q hq
                            simpa using this⟩)
                          rw [hh] at this
                          cases this
                      refine x_iteT (by rw [hne]; rfl) ?_
                      refine x_ret (x_c ?_)
                      refine x_unlockR O15 h5 back s515 (fun H16 F16 s16 le16 O16 => ?_)
                      have e : holdsB rows p r = false := by
                        unfold holdsB
                        rw [hst, hdue, hh]
                        rfl
                      rw [verdict_no4 hrm e] at k
                      exact k H16 F16 (s34.trans s16) O16
                    | true =>
                      have hye : us15.isEmpty = true := by
                        have hall2 := ((law_same hmayr hdnd).mpr ((dictEq_same hmayr hdnd).mp hh)).2
                        have hnil : (due.filter fun q => !decide (getD r.2 q.1 = some q.2)) = [] := List.filter_eq_nil_iff.mpr fun q hq => by
                          rw [hall2 q hq]
                          simp
                        rw [hnil] at hul15
                        rw [List.isEmpty_iff]
                        exact List.eq_nil_of_length_eq_zero hul15.symm
                      refine x_iteF (by rw [hye]; rfl) ?_
                      walk_at "x"
                      refine LI.mk (s6.trans (s7.trans (s10.trans (s1012.trans s15)))) O15 ?_
                      refine ⟨_, _, _, _, _, _, rfl, rfl, ?_⟩
                      rw [List.take_add_one, hi, List.all_append, hdone]
                      show (true && ([r].all _)) = true
                      rw [List.all_cons]
                      unfold holdsB
                      rw [hst, hdue, hh]
                      rfl
        · rintro σ' H6 F6 m6 s6 O6 ⟨u4, u5, u6, u7, u8, u9, rfl, rfl, hdone⟩
          rw [List.take_length] at hdone
          refine x_unlock O6 h5 back s6 (fun H7 F7 s7 le7 O7 => ?_)
          walk_at "x"
          have e : verdict rows p = true := (verdict_yes hst hall h0).trans hdone
          rw [e] at k
          exact k H7 F7 (s34.trans s7) O7
end
end Tf
namespace Tf
open PySem PySem.Spec PyProof.Rows L2
def rIsNotB : R2 := fun x y H Q => ∃ b, y = .bl b ∧ Q (.bl (!decide (x = .bl b))) H
theorem op_isNotB {X : Cx} : OpR X (compareOp .IsNot) rIsNotB := by
  intro pins s σ H x y v u Q I rx ry h
  obtain ⟨b, rfl, q⟩ := h
  cases (show u = Value.bool b from ry)
  cases x with
  | bl a =>
    cases (show v = Value.bool a from rx)
    by_cases e : a = b
    · subst e
      exact wpAny_isNot_self rfl ⟨.bl false, H, I, rfl, by simpa using q⟩
    · exact wpAny_isNot_other rfl (fun z => e (Value.bool.inj z)) ⟨.bl true, H, I, rfl, by simpa [e] using q⟩
  | non =>
    cases (show v = Value.none from rx)
    exact wpAny_pure ⟨.bl true, H, I, rfl, by simpa using q⟩
  | int i =>
    obtain ⟨t, rfl⟩ := rx
    exact wpAny_pure ⟨.bl true, H, I, rfl, by simpa using q⟩
  | str i =>
    obtain ⟨t, rfl⟩ := rx
    exact wpAny_pure ⟨.bl true, H, I, rfl, by simpa using q⟩
  | byt i =>
    obtain ⟨t, rfl⟩ := rx
    exact wpAny_pure ⟨.bl true, H, I, rfl, by simpa using q⟩
  | flt i =>
    obtain ⟨t, rfl⟩ := rx
    exact wpAny_pure ⟨.bl true, H, I, rfl, by simpa using q⟩
  | ref a =>
    cases (show v = Value.ref a from rx)
    exact wpAny_pure ⟨.bl true, H, I, rfl, by simpa using q⟩
  | ty n =>
    cases (show v = Value.type n from rx)
    exact wpAny_pure ⟨.bl true, H, I, rfl, by simpa using q⟩
theorem x_isNotB {v : V} {b : Bool} {H : Hp} {Q : VK} (k : Q (.bl (!decide (v = .bl b))) H) : rIsNotB v (.bl b) H Q := ⟨b, rfl, k⟩
def spFormed : Sp := fun vs H Q _ => ∃ (p : Addr) (o : HO) (v : V) (pap : Pap) (F : Hp) (m : Mem), vs = [.ref p, v] ∧ Own H F ((p, o) :: m) ∧ PoolOk F o ∧ rPapL F pap v ∧ pap.length ≤ 100000 ∧ ∀ w H' F' o', Same F F' → Own H' F' ((p, o') :: m) → PoolOk F' o' → rPapS F' pap w → Q w H'
def spJudged (CT : Addr) : Sp := fun vs H Q _ => ∃ (p : Addr) (o : HO) (tv v : V) (rows : List Row) (pap : Pap) (due : Bool) (F : Hp) (m : Mem), vs = [.ref p, tv, v, .bl due] ∧ due = verdict rows pap ∧ Own H F ((p, o) :: m) ∧ PoolOk F o ∧ rTask CT F rows tv ∧ rPapL F pap v ∧ Small rows pap ∧
  ∀ H' F' o', Same F F' → Own H' F' ((p, o') :: m) → PoolOk F' o' → Q (.bl true) H'
def spLaw (K : PySem.W.Frag) : Sp := fun vs H Q _ => ∃ (a : Addr) (ns : List Int), vs = [.ref a] ∧ SqL K H a (ns.map V.int) ∧ ns.length ≤ 63 ∧ ∀ H', Q (.bl true) H'
instance : SimR (rPair rInt rInt) 1 := sim_pair (n := 0) (fun h h' => SimR.sim h h') (fun h h' => SimR.sim h h')
theorem sim_pairsL {F : Hp} {ps : List (Int × Int)} {v w : V} (hl : ps.length < 16777216) : rPairsL F ps v → rPairsL F ps w → Sim F 2 v w := sim_list hl
theorem sim_papL {F : Hp} {p : Pap} {v w : V} (hl : p.length < 16777216) (hx : ∀ x ∈ p, x.2.length < 16777216) : rPapL F p v → rPapL F p w → Sim F 4 v w := fun ⟨a, vs, e, h, r⟩ ⟨a', vs', e', h', r'⟩ => by
  refine .inr ⟨a, a', vs, vs', e, e', all2_simX (fun x hm v w ⟨b, u, z, eb, hb, r1, r2⟩ ⟨b', u', z', eb', hb', r1', r2'⟩ => ?_) r r', by rw [← r.length]; exact hl, .inr ⟨h, h'⟩⟩
  exact .inr ⟨b, b', _, _, eb, eb', .cons ((SimR.sim r1 r1' : Sim F 0 _ _).le (by decide)) (.cons (sim_pairsL (hx x hm) r2 r2') .nil), by show 2 < _; decide, .inr ⟨hb, hb'⟩⟩
theorem RightP.size {rows : List Row} {p : Pap} (h : RightP rows p) (w : WF rows) (hn : rows.length ≤ 2000) : BSize 2000 p := by
  obtain ⟨ks, h1, h2, h3, h4, rfl⟩ := h
  have hnd : ks.Nodup := h1.imp fun h e => by omega
  refine ⟨?_, fun r hr => ?_⟩
  · rw [List.length_map]
    have := nodup_len rows.length ks hnd h2
    omega
  · obtain ⟨k, hk, rfl⟩ := List.mem_map.mp hr
    have hb := h2 k hk
    have := (lens_nd w (k := k.toNat) (by omega)).len
    show (told (lens rows k.toNat)).length ≤ 2000
    unfold told
    rw [List.length_map, (sortI_perm _).length_eq, List.length_map]
    omega
theorem BSize.small {n : Nat} {rows : List Row} {p : Pap} (h : BSize n p) (ok : RowsOk rows) (hn : n ≤ 5000) : Small rows p := ⟨ok.wf, fun r hr => Nat.le_trans (ok.few r hr) (by decide), Nat.le_trans h.len (by omega), fun r hr => Nat.le_trans (h.lens r hr) hn⟩
section
variable {P : Program} {w : World} {K : PySem.W.Frag} {mg : Str → Option Value} {base : Heap}
abbrev sFo : Stmt := top 34
abbrev NFo : List Str := ["pool", "paper", "rows", "row"]
theorem scFo : FnScope NFo ["pool", "paper"] (defScope sFo) := ⟨rfl, rfl, rfl, by decide +kernel, rfl, by decide +kernel, by decide +kernel⟩
theorem ok_Fo {f f1 : Addr} {fd fd1 : FuncData} (F : Fun K "_law_formed" "_law_formed" sFo f fd) (T : Bi mg) (C__law_draw : Cal P w K mg base "_law_draw" 1 f1 fd1 ["pool", "many"] spDraw) : FnOk P w K mg base CX0 2 f fd ["pool", "paper"] spFormed := by
  refine F.ok scFo (fun vs H Q E h => ?_) (fun cdv A outer s H vs Q E hr h => ?_)
  · obtain ⟨p, o, v, pap, F, m, rfl, _⟩ := h
    rfl
  · obtain ⟨p, o, v, pap, F, m, rfl, O, hp, hv, hl, k⟩ := h
    refine ⟨_, 
    (pss_cons (ps_setLc (i := 2) (own := [("row", 3)]) (g := (gName 3)) (tt := tYes) rfl scFo.nd rfl rfl (sw_true rfl rfl rfl (by decide +kernel)) (pi_list (pv 1)) (blkOk_by (N := NFo) (sc := defScope sFo) (by decide +kernel)) (fun _ _ _ _ _ => (pg_name (i := 3) scFo.nd rfl (by first | exact Or.inl rfl | exact Or.inr rfl))) (fun _ _ _ _ _ => pts_nil) (fun _ _ _ _ _ => (pe_tup (pa_cons (pe_ix (r := rIxL K) ix_list (pv 3) pe_int (fun _ _ => rfl)) (pa_cons (pe_callTy (T := "tuple") (r := rTupOf K) cr_tup (by rfl) T.b_tuple (by decide +kernel) (pa_cons (pe_ix (r := rIxL K) ix_list (pv 3) pe_int (fun _ _ => rfl)) pa_nil)) pa_nil)))))
    (Tf.pss_cut (ps_if (pt_cmpR op_eq (pe_call C__law_draw.ok (hr.mono (by first | decide | omega)) rfl C__law_draw.mg C__law_draw.kp C__law_draw.bi .nil pass0 (pa_cons (pv 0) (pa_cons pe_int pa_nil))) pe_int (nomark _)) 
      (pss_one (ps_setLc (i := 2) (own := [("row", 3)]) (g := (gName 3)) (tt := tYes) rfl scFo.nd rfl rfl (sw_true rfl rfl rfl (by decide +kernel)) (pi_list (pv 1)) (blkOk_by (N := NFo) (sc := defScope sFo) (by decide +kernel)) (fun _ _ _ _ _ => (pg_name (i := 3) scFo.nd rfl (by first | exact Or.inl rfl | exact Or.inr rfl))) (fun _ _ _ _ _ => pts_nil) (fun _ _ _ _ _ => (pe_tup (pa_cons (pe_ix (r := rIxL K) ix_list (pv 3) pe_int (fun _ _ => rfl)) (pa_cons (pe_callTy (T := "list") (r := rListOf K) cr_list (by rfl) T.b_list (by decide +kernel) (pa_cons (pe_ix (r := rIxL K) ix_list (pv 3) pe_int (fun _ _ => rfl)) pa_nil)) pa_nil)))))) pss_nil)
    (Tf.pss_cut (ps_if (pt_cmpR op_eq (pe_call C__law_draw.ok (hr.mono (by first | decide | omega)) rfl C__law_draw.mg C__law_draw.kp C__law_draw.bi .nil pass0 (pa_cons (pv 0) (pa_cons pe_int pa_nil))) pe_int (nomark _)) 
      (pss_one (ps_ret (pe_callTy (T := "tuple") (r := rTupOf K) cr_tup (by rfl) T.b_tuple (by decide +kernel) (pa_cons (pv 2) pa_nil)))) pss_nil)
    (pss_one (ps_ret (pv 2)))))), ?_⟩
    walk_at "x"
    refine x_docL (S := rPair rInt rPairsS) O hv (fun i F' m' ys => m' = (p, o) :: m ∧ ys = pap.take i) ⟨rfl, by simp⟩ ?_ ?_
    · rintro D acc i r z H1 F1 m1 ys hi hz s1 O1 hacc hyl ⟨rfl, rfl⟩
      walk_at "x"
      refine ⟨rfl, ?_⟩
      walk_at "x"
      refine x_iteT rfl ?_
      walk_at "x"
      refine x_two0 O1 hz (fun a1 ha1 => ?_)
      have ha1 : a1 = .int r.1 := ha1
      subst ha1
      walk_at "x"
      refine x_two1 O1 hz (fun a2 ha2 => ?_)
      walk_at "x"
      refine x_tupL O1 ha2 (fun w2 H2 F2 s2 O2 hw2 => ?_)
      walk_at "x"
      refine x_newPair (R := rInt) (S := rPairsS) (x := r.1) (y := r.2) O2 rfl (.inr hw2) (fun v3 H3 F3 s3 O3 hv3 => ?_)
      refine x_keep O3 (s1.trans (s2.trans s3)) hv3 (all2_up (s2.trans s3) hacc) hyl (by have := (List.getElem?_eq_some_iff.mp hi).1; omega) ⟨rfl, ?_⟩
      rw [List.take_add_one, hi]
      rfl
    · rintro v1 H1 F1 m1 ys s1 O1 hv1 ⟨rfl, rfl⟩
      rw [List.take_length] at hv1
      walk_at "x"
      refine x_cut (fun σ' H' => ∃ (wv : V) (F' : Hp) (o' : HO) (u3 : Option V), σ' = [some (.ref p), some v, some wv, u3] ∧ Same F F' ∧ Own H' F' ((p, o') :: m) ∧ PoolOk F' o' ∧ rList (rPair rInt rPairsS) F' pap wv) ?_ ?_
      · walk_at "x"
        refine ⟨p, o, _, F1, _, rfl, O1, hp.up s1, by decide, by decide, fun d H2 o2 d0 d1 O2 hp2 => ?_⟩
        walk_at "x"
        refine x_iteD (fun hd => ?_) (fun hd => ?_)
        · walk_at "x"
          refine x_docL (S := rPair rInt rPairsS) O2 (up s1 hv) (fun i F' m' ys => m' = (p, o2) :: m ∧ ys = pap.take i) ⟨rfl, by simp⟩ ?_ ?_
          · rintro D acc i r z H1 F3 m1 ys hi hz s3 O3 hacc hyl ⟨rfl, rfl⟩
            walk_at "x"
            refine ⟨rfl, ?_⟩
            walk_at "x"
            refine x_iteT rfl ?_
            walk_at "x"
            refine x_two0 O3 hz (fun a1 ha1 => ?_)
            have ha1 : a1 = .int r.1 := ha1
            subst ha1
            walk_at "x"
            refine x_two1 O3 hz (fun a2 ha2 => ?_)
            walk_at "x"
            refine x_listL O3 ha2 (fun w4 H4 F4 s4 O4 hw4 => ?_)
            walk_at "x"
            refine x_newPair (R := rInt) (S := rPairsS) (x := r.1) (y := r.2) O4 rfl (.inl hw4) (fun v5 H5 F5 s5 O5 hv5 => ?_)
            refine x_keep O5 (s3.trans (s4.trans s5)) hv5 (all2_up (s4.trans s5) hacc) hyl (by have := (List.getElem?_eq_some_iff.mp hi).1; omega) ⟨rfl, ?_⟩
            rw [List.take_add_one, hi]
            rfl
          · rintro v3 H3 F3 m3 ys s3 O3 hv3 ⟨rfl, rfl⟩
            rw [List.take_length] at hv3
            walk_at "x"
            exact ⟨v3, F3, o2, _, rfl, s1.trans s3, O3, hp2.up s3, hv3⟩
        · walk_at "x"
          exact ⟨v1, F1, o2, _, rfl, s1, O2, hp2, hv1⟩
      · rintro σ' H2 ⟨wv, F2, o2, u3, rfl, s2, O2, hp2, hwv⟩
        walk_at "x"
        refine x_cut (fun σ' H' => ∃ (o' : HO) (u3 : Option V), σ' = [some (.ref p), some v, some wv, u3] ∧ Own H' F2 ((p, o') :: m) ∧ PoolOk F2 o') ?_ ?_
        · walk_at "x"
          refine ⟨p, o2, _, F2, _, rfl, O2, hp2, by decide, by decide, fun d H3 o3 d0 d1 O3 hp3 => ?_⟩
          walk_at "x"
          refine x_iteD (fun hd => ?_) (fun hd => ?_)
          · walk_at "x"
            refine x_tupL O3 hwv (fun w4 H4 F4 s4 O4 hw4 => ?_)
            walk_at "x"
            exact k w4 H4 F4 o3 (s2.trans s4) O4 (hp3.up s4) (.inr hw4)
          · walk_at "x"
            exact ⟨o3, _, rfl, O3, hp3⟩
        · rintro σ' H3 ⟨o3, u3, rfl, O3, hp3⟩
          walk_at "x"
          exact k wv H3 F2 o3 s2 O3 hp3 (.inl hwv)
abbrev sJd : Stmt := top 35
abbrev NJd : List Str := ["pool", "task", "paper", "due", "given", "row"]
theorem scJd : FnScope NJd ["pool", "task", "paper", "due"] (defScope sJd) := ⟨rfl, rfl, rfl, by decide +kernel, rfl, by decide +kernel, by decide +kernel⟩
theorem ok_Jd {f CT f1 f2 f3 : Addr} {fd fd1 fd2 fd3 : FuncData} (F : Fun K "_law_judged" "_law_judged" sJd f fd) (T : Bi mg) (C__law_formed : Cal P w K mg base "_law_formed" 2 f1 fd1 ["pool", "paper"] spFormed) (C_judge_spectra : Cal P w K mg base "judge_spectra" 3 f2 fd2 ["task", "paper"] (spJudge CT))
    (C__law_same : Cal P w K mg base "_law_same" 5 f3 fd3 ["got", "due"] (spSame 5)) : FnOk P w K mg base CX0 6 f fd ["pool", "task", "paper", "due"] (spJudged CT) := by
  refine F.ok scJd (fun vs H Q E h => ?_) (fun cdv A outer s H vs Q E hr h => ?_)
  · obtain ⟨p, o, tv, v, rows, pap, due, F, m, rfl, _⟩ := h
    rfl
  · obtain ⟨p, o, tv, v, rows, pap, due, F, m, rfl, hdue, O, hp, ht, hv, hS, k⟩ := h
    have hpl := hS.len
    refine ⟨_, 
    (pss_cons (ps_set (i := 4) scJd.nd rfl (Or.inl rfl) (pe_call C__law_formed.ok (hr.mono (by first | decide | omega)) rfl C__law_formed.mg C__law_formed.kp C__law_formed.bi .nil pass0 (pa_cons (pv 0) (pa_cons (pv 2) pa_nil))))
    (pss_cons (ps_if (pt_not (pt_val (pe_call C__law_same.ok (hr.mono (by first | decide | omega)) rfl C__law_same.mg C__law_same.kp C__law_same.bi .nil pass0 (pa_cons (pe_call C_judge_spectra.ok (hr.mono (by first | decide | omega)) rfl C_judge_spectra.mg C_judge_spectra.kp C_judge_spectra.bi .nil pass0 (pa_cons (pv 1) (pa_cons (pv 4) pa_nil))) (pa_cons (pv 3) pa_nil))))) 
      (pss_one (ps_ret pe_bl)) pss_nil)
    (pss_one (ps_ret (pe_call C__law_same.ok (hr.mono (by first | decide | omega)) rfl C__law_same.mg C__law_same.kp C__law_same.bi .nil pass0 (pa_cons (pe_lc (own := [("row", 5)]) (g := (gName 5)) (tt := tYes) rfl scJd.nd (pi_seq (pv 4)) (blkOk_by (N := NJd) (sc := defScope sJd) (by decide +kernel)) (fun _ _ _ _ _ => (pg_name (i := 5) scJd.nd rfl (by first | exact Or.inl rfl | exact Or.inr rfl))) (fun _ _ _ _ _ => pts_nil) (fun _ _ _ _ _ => (pe_lst (pa_cons (pe_ix (r := rIxT K) ix_tup (pv 5) pe_int (fun _ _ => rfl)) (pa_cons (pe_callTy (T := "list") (r := rListOf K) cr_list (by rfl) T.b_list (by decide +kernel) (pa_cons (pe_ix (r := rIxT K) ix_tup (pv 5) pe_int (fun _ _ => rfl)) pa_nil)) pa_nil))))) (pa_cons (pv 2) pa_nil))))))), ?_⟩
    walk_at "x"
    refine ⟨p, o, v, pap, F, m, rfl, O, hp, hv, hpl, fun gv H1 F1 o1 s1 O1 hp1 hgv => ?_⟩
    walk_at "x"
    refine ⟨tv, gv, rows, pap, F1, _, rfl, O1, up s1 ht, hgv, hS, fun H2 F2 s2 O2 => ?_⟩
    walk_at "x"
    refine ⟨_, _, F2, _, rfl, O2, ?_, fun H3 O3 => ?_⟩
    · rw [hdue]
      exact .inl ⟨rfl, rfl⟩
    walk_at "x"
    refine x_iteF rfl ?_
    walk_at "x"
    refine x_docS (S := rTwo rInt rPairsL) O3 (up s2 hgv) (fun i F' m' ys => m' = (p, o1) :: m ∧ ys = pap.take i) ⟨rfl, by simp⟩ ?_ ?_
    · rintro D acc i r z H4 F4 m4 ys hi hz s4 O4 hacc hyl ⟨rfl, rfl⟩
      walk_at "x"
      refine ⟨rfl, ?_⟩
      walk_at "x"
      refine x_iteT rfl ?_
      walk_at "x"
      refine x_fst O4 hz (fun a1 ha1 => ?_)
      have ha1 : a1 = .int r.1 := ha1
      subst ha1
      walk_at "x"
      refine x_snd O4 hz (fun a2 ha2 => ?_)
      walk_at "x"
      refine x_listS O4 ha2 (fun w5 H5 F5 s5 O5 hw5 => ?_)
      walk_at "x"
      refine x_newTwo (R := rInt) (S := rPairsL) (x := r.1) (y := r.2) O5 rfl hw5 (fun v6 H6 F6 s6 O6 hv6 => ?_)
      refine x_keep O6 (s4.trans (s5.trans s6)) hv6 (all2_up (s5.trans s6) hacc) hyl (by have := (List.getElem?_eq_some_iff.mp hi).1; omega) ⟨rfl, ?_⟩
      rw [List.take_add_one, hi]
      rfl
    · rintro v4 H4 F4 m4 ys s4 O4 hv4 ⟨rfl, rfl⟩
      rw [List.take_length] at hv4
      walk_at "x"
      refine ⟨v4, v, F4, _, rfl, O4, sim_papL (by omega) (fun x hx => by have := hS.lens x hx; omega) hv4 (up (s1.trans (s2.trans s4)) hv), fun H5 O5 => ?_⟩
      walk_at "x"
      exact k H5 F4 o1 (s1.trans (s2.trans s4)) O5 (hp1.up (s2.trans s4))
abbrev sLw : Stmt := top 36
abbrev NLw : List Str := ["script", "pool", "rows", "task", "right", "turn", "bent", "row"]
theorem scLw : FnScope NLw ["script"] (defScope sLw) := ⟨rfl, rfl, rfl, by decide +kernel, rfl, by decide +kernel, by decide +kernel⟩
theorem ok_Lw {f CT f1 f2 f3 f4 f5 f6 f7 f8 f9 : Addr} {fd fd1 fd2 fd3 fd4 fd5 fd6 fd7 fd8 fd9 : FuncData} (F : Fun K "law" "law" sLw f fd) (T : Bi mg) (C__law_pool : Cal P w K mg base "_law_pool" 1 f1 fd1 ["script"] (spPool K))
    (C__law_rows : Cal P w K mg base "_law_rows" 4 f2 fd2 ["pool"] spRows) (C__law_right : Cal P w K mg base "_law_right" 2 f3 fd3 ["pool", "rows"] spRight) (C__law_accepts : Cal P w K mg base "_law_accepts" 2 f4 fd4 ["rows", "paper"] spAccepts)
    (C__law_judged : Cal P w K mg base "_law_judged" 6 f5 fd5 ["pool", "task", "paper", "due"] (spJudged CT)) (C__law_bent : Cal P w K mg base "_law_bent" 4 f6 fd6 ["pool", "paper"] spBent) (C_judge_spectra : Cal P w K mg base "judge_spectra" 3 f7 fd7 ["task", "paper"] (spJudge CT))
    (C_spectra : Cal P w K mg base "spectra" 6 f8 fd8 ["task"] (spTopSpectra CT)) (MkT : Mk K CT f9) (GT : FnOk P w K mg base CX0 1 f9 fd9 ["self", "rows"] (spTInit CT)) (mgT : mg "TableTask" = some (.ref CT)) (bT : Binds K fd9 ["self", "rows"] []) :
    FnOk P w K mg base CX0 7 f fd ["script"] (spLaw K) := by
  refine F.ok scLw (fun vs H Q E h => ?_) (fun cdv A outer s H vs Q E hr h => ?_)
  · obtain ⟨a, ns, rfl, _⟩ := h
    rfl
  · obtain ⟨a, ns, rfl, hS, hlen, k⟩ := h
    refine ⟨_, 
    (pss_cons (ps_set (i := 1) scLw.nd rfl (Or.inl rfl) (pe_call C__law_pool.ok (hr.mono (by first | decide | omega)) rfl C__law_pool.mg C__law_pool.kp C__law_pool.bi .nil pass0 (pa_cons (pv 0) pa_nil)))
    (pss_cons (ps_set (i := 2) scLw.nd rfl (Or.inl rfl) (pe_call C__law_rows.ok (hr.mono (by first | decide | omega)) rfl C__law_rows.mg C__law_rows.kp C__law_rows.bi .nil pass0 (pa_cons (pv 1) pa_nil)))
    (pss_cons (ps_set (i := 3) scLw.nd rfl (Or.inl rfl) (pe_make MkT GT (hr.mono (by first | decide | omega)) rfl mgT bT .nil pass0 (pa_cons (pe_lc (own := [("row", 7)]) (g := (gName 7)) (tt := tYes) rfl scLw.nd (pi_list (pv 2)) (blkOk_by (N := NLw) (sc := defScope sLw) (by decide +kernel)) (fun _ _ _ _ _ => (pg_name (i := 7) scLw.nd rfl (by first | exact Or.inl rfl | exact Or.inr rfl))) (fun _ _ _ _ _ => pts_nil) (fun _ _ _ _ _ => (pe_callTy (T := "list") (r := rListOf K) cr_list (by rfl) T.b_list (by decide +kernel) (pa_cons (pv 7) pa_nil)))) pa_nil)))
    (pss_cons (ps_set (i := 4) scLw.nd rfl (Or.inl rfl) (pe_call C__law_right.ok (hr.mono (by first | decide | omega)) rfl C__law_right.mg C__law_right.kp C__law_right.bi .nil pass0 (pa_cons (pv 1) (pa_cons (pv 2) pa_nil))))
    (pss_cons (ps_if (PW.pt (pw_or (pt_not (pt_val (pe_call C__law_accepts.ok (hr.mono (by first | decide | omega)) rfl C__law_accepts.mg C__law_accepts.kp C__law_accepts.bi .nil pass0 (pa_cons (pv 2) (pa_cons (pv 4) pa_nil))))) (pw_or1 (pt_not (pt_val (pe_call C__law_judged.ok (hr.mono (by first | decide | omega)) rfl C__law_judged.mg C__law_judged.kp C__law_judged.bi .nil pass0 (pa_cons (pv 1) (pa_cons (pv 3) (pa_cons (pv 4) (pa_cons pe_bl pa_nil)))))))))) 
      (pss_one (ps_ret pe_bl)) pss_nil)
    (pss_cons (ps_for PassesOwn.never rfl (pi_range1 (by rfl) T.b_range (pa_cons pe_int pa_nil)) (pg_name (i := 5) scLw.nd rfl (Or.inl rfl)) 
      (pss_cons (ps_set (i := 6) scLw.nd rfl (Or.inl rfl) (pe_call C__law_bent.ok (hr.mono (by first | decide | omega)) rfl C__law_bent.mg C__law_bent.kp C__law_bent.bi .nil pass0 (pa_cons (pv 1) (pa_cons (pv 4) pa_nil))))
      (pss_one (ps_if (pt_not (pt_val (pe_call C__law_judged.ok (hr.mono (by first | decide | omega)) rfl C__law_judged.mg C__law_judged.kp C__law_judged.bi .nil pass0 (pa_cons (pv 1) (pa_cons (pv 3) (pa_cons (pv 6) (pa_cons (pe_call C__law_accepts.ok (hr.mono (by first | decide | omega)) rfl C__law_accepts.mg C__law_accepts.kp C__law_accepts.bi .nil pass0 (pa_cons (pv 2) (pa_cons (pv 6) pa_nil))) pa_nil))))))) 
        (pss_one (ps_ret pe_bl)) pss_nil))))
    (pss_cons (ps_if (PW.pt (pw_or (pt_cmpR op_isNotB (pe_call C_judge_spectra.ok (hr.mono (by first | decide | omega)) rfl C_judge_spectra.mg C_judge_spectra.kp C_judge_spectra.bi .nil pass0 (pa_cons (pv 3) (pa_cons (pe_call C_spectra.ok (hr.mono (by first | decide | omega)) rfl C_spectra.mg C_spectra.kp C_spectra.bi .nil pass0 (pa_cons (pv 3) pa_nil)) pa_nil))) pe_bl (nomark _)) (pw_or1 (pt_cmpR op_isNotB (pe_call C_judge_spectra.ok (hr.mono (by first | decide | omega)) rfl C_judge_spectra.mg C_judge_spectra.kp C_judge_spectra.bi .nil pass0 (pa_cons (pv 3) (pa_cons (pe_lst pa_nil) pa_nil))) pe_bl (nomark _))))) 
      (pss_one (ps_ret pe_bl)) pss_nil)
    (pss_one (ps_ret (pe_call C__law_judged.ok (hr.mono (by first | decide | omega)) rfl C__law_judged.mg C__law_judged.kp C__law_judged.bi .nil pass0 (pa_cons (pv 1) (pa_cons (pv 3) (pa_cons (pv 4) (pa_cons pe_bl pa_nil)))))))))))))), ?_⟩
    walk_at "x"
    refine ⟨a, ns, H, [], rfl, hS, Own.refl H, fun p H1 F1 o1 s1 O1 hp1 => ?_⟩
    walk_at "x"
    refine ⟨p, o1, F1, [], rfl, O1, hp1, fun rv H2 F2 o2 rows s2 O2 hp2 hrv ok => ?_⟩
    have wf := ok.wf
    have hN := ok.len
    have hrow : ∀ row ∈ rows, row.length < 16777216 := fun row h => by
      have := ok.few row h
      omega
    walk_at "x"
    refine x_docL (R := rRow) (S := rRow) O2 hrv (fun i F5 m5 ys => m5 = [(p, o2)] ∧ ys = rows.take i) ⟨rfl, by simp⟩ ?_ ?_
    · rintro D acc i q z H5 F5 m5 ys hi hz s5 O5 hacc hyl ⟨rfl, rfl⟩
      walk_at "x"
      refine ⟨rfl, ?_⟩
      walk_at "x"
      refine x_iteT rfl ?_
      walk_at "x"
      refine x_listL O5 hz (fun w6 H6 F6 s6 O6 hw6 => ?_)
      have il : i < rows.length := (List.getElem?_eq_some_iff.mp hi).1
      refine x_keep O6 (s5.trans s6) hw6 (all2_up s6 hacc) hyl (by omega) ⟨rfl, ?_⟩
      rw [List.take_add_one, hi]
      rfl
    · rintro hv5 H5 F5 m5 ys s5 O5 hhv ⟨rfl, rfl⟩
      rw [List.take_length] at hhv
      have hhvS : rRowsS F5 rows hv5 := by
        obtain ⟨b7, us7, rfl, hb7, hu7⟩ := hhv
        exact .inl ⟨b7, us7, rfl, hb7, hu7.mono fun _ _ h => .inl h⟩
      walk_at "x"
      refine mk_of O5 (fun x dx H7 F7 hx s7 O7 => ⟨x, dx, hv5, rows, F7, _, rfl, O7, up s7 hhvS, ok.wf, by omega, hrow, fun H8 F8 t8 s8 O8 ht8 => ⟨rfl, ?_⟩⟩)
      have O9 := O8.freeze
      have s9 := O8.freeze_same
      have htask : rTask CT (upd F8 x (.ins CT dx [("_table", t8)])) rows (.ref x) := ⟨x, dx, t8, rfl, upd_same, up s9 ht8⟩
      generalize upd F8 x (.ins CT dx [("_table", t8)]) = F9 at O9 s9 htask
      have s29 := s5.trans (s7.trans (s8.trans s9))
      have hp9 := hp2.up s29
      have hrv9 := up s29 hrv
      walk_at "x"
      refine ⟨p, o2, rv, rows, F9, [], rfl, O9, hp9, hrv9, ok, fun qv H10 F10 o10 pap s10 O10 hp10 hqv hright => ?_⟩
      have hB := hright.size wf hN
      have hSm := hB.small ok (by decide)
      have hver := verdict_right wf hright
      walk_at "x"
      refine ⟨rv, qv, rows, pap, F10, _, rfl, O10, up s10 hrv9, hqv, hSm, fun H11 F11 s11 O11 => ?_⟩
      walk_at "x"
      rw [hver]
      refine x_iteF rfl ?_
      walk_at "x"
      refine ⟨p, o10, .ref x, qv, rows, pap, true, F11, [], rfl, hver.symm, O11, hp10.up s11, up (s10.trans s11) htask, up s11 hqv, hSm, fun H12 F12 o12 s12 O12 hp12 => ?_⟩
      walk_at "x"
      refine x_iteF rfl ?_
      walk_at "x"
      have s912 := s10.trans (s11.trans s12)
      have s1012 := s11.trans s12
      refine x_doR1 (n := 4) O12 rfl (by decide) (by decide) (fun i σ F' m' => ∃ (o' : HO) (u5 u6 u7 : Option V), σ = [some (.ref a), some (.ref p), some rv, some (.ref x), some qv, u5, u6, u7] ∧ m' = [(p, o')] ∧ PoolOk F' o') ⟨o12, _, _, _, rfl, rfl, hp12⟩ ?_ ?_
      · rintro i σ' H13 F13 m13 hi s13 O13 ⟨o13, u5, u6, u7, rfl, rfl, hp13⟩
        walk_at "x"
        refine ⟨p, o13, qv, pap, F13, [], rfl, O13, hp13, up (s1012.trans s13) hqv, hB, fun bv H14 F14 o14 pap2 s14 O14 hp14 hbv hB2 => ?_⟩
        have hSm2 := hB2.small ok (by decide)
        have s1314 := s13.trans s14
        walk_at "x"
        refine ⟨rv, bv, rows, pap2, F14, _, rfl, O14, up (s912.trans s1314) hrv9, hbv, hSm2, fun H15 F15 s15 O15 => ?_⟩
        walk_at "x"
        refine ⟨p, o14, .ref x, bv, rows, pap2, _, F15, [], rfl, rfl, O15, hp14.up s15, up (s912.trans (s1314.trans s15)) htask, up s15 hbv, hSm2, fun H16 F16 o16 s16 O16 hp16 => ?_⟩
        walk_at "x"
        refine x_iteF rfl ?_
        walk_at "x"
        refine LI.mk (s13.trans (s14.trans (s15.trans s16))) O16 ?_
        exact ⟨o16, _, _, _, rfl, rfl, hp16⟩
      · rintro σ' H13 F13 m13 s13 O13 ⟨o13, u5, u6, u7, rfl, rfl, hp13⟩
        have t13 := up (s912.trans s13) htask
        walk_at "x"
        refine ⟨.ref x, rows, F13, _, rfl, O13, t13, wf, ok.sum, fun w14 H14 F14 pap3 s14 O14 hw14 hpap3 => ?_⟩
        have hr3 := hpap3.right wf
        have hw14' : rPapS F14 pap3 w14 := by
          obtain ⟨b, us, rfl, hb, hu⟩ := hw14
          exact .inr ⟨b, us, rfl, hb, hu.mono fun _ _ ⟨c, u, z, e, hc, r1, r2⟩ => ⟨c, u, z, e, hc, r1, .inr r2⟩⟩
        walk_at "x"
        refine ⟨.ref x, w14, rows, pap3, F14, _, rfl, O14, up s14 t13, hw14', (hr3.size wf hN).small ok (by decide), fun H15 F15 s15 O15 => ?_⟩
        rw [verdict_right wf hr3]
        walk_at "x"
        refine x_isNotB ?_
        walk_at "x"
        refine x_iteF rfl ?_
        walk_at "x"
        refine x_newL (R := rPair rInt rPairsS) (xs := []) O15 (Nat.zero_le _) .nil (fun v16 H16 F16 s16 O16 hv16 => ?_)
        walk_at "x"
        refine ⟨.ref x, v16, rows, [], F16, _, rfl, O16, up (s14.trans (s15.trans s16)) t13, .inl hv16, ⟨wf, fun r hr => Nat.le_trans (ok.few r hr) (by decide), Nat.zero_le _, fun r hr => (nomatch hr)⟩, fun H17 F17 s17 O17 => ?_⟩
        have hno : verdict rows [] = false := verdict_no3 rfl
        rw [hno]
        walk_at "x"
        refine x_isNotB ?_
        walk_at "x"
        refine x_iteF rfl ?_
        walk_at "x"
        have s1317 := s14.trans (s15.trans (s16.trans s17))
        refine ⟨p, o13, .ref x, qv, rows, pap, true, F17, [], rfl, hver.symm, O17, hp13.up s1317, up s1317 t13, up (s1012.trans (s13.trans s1317)) hqv, hSm, fun H18 F18 o18 s18 O18 hp18 => ?_⟩
        walk_at "x"
        exact k H18
end
end Tf
namespace Tf
open PySem PySem.Spec PyProof.Rows L2
theorem all_mk {l : PySem.W.OpenLaw} {w : World} {K : PySem.W.Frag} {h : Heap} {mg : Str → Option Value} {fa cTableTask cLengths fDr fPo fPi fRa fFe fSa fTI fTF fTE fTS fTR fHa fSR fLL fLI fLT fLP fGP fMb fSa2 fHo fJu fCo fRo fSu fLq fRi fBe fBp fBt fAc fFo fJd fLw : Addr} (X : K.In h) (G : h.Ns mainGlobals mg) (hfa : mg "law" = some (.ref fa))
    {odDr anDr odPo anPo odPi anPi odRa anRa odFe anFe odSa anSa odTI anTI odTF anTF odTE anTE odTS anTS odTR anTR odHa anHa odSR anSR odLL anLL odLI anLI odLT anLT odLP anLP odGP anGP odMb anMb odSa2 anSa2 odHo anHo odJu anJu odCo anCo odRo anRo odSu anSu odLq anLq odRi anRi odBe anBe odBp anBp odBt anBt odAc anAc odFo anFo odJd anJd odLw anLw : Option Addr} {slDr slPo slPi slRa slFe slSa slTI slTF slTE slTS slTR slHa slSR slLL slLI slLT slLP slGP slMb slSa2 slHo slJu slCo slRo slSu slLq slRi slBe slBp slBt slAc slFo slJd slLw : Array (Option Value)} {ocDr kVDr dcDr pmDr cdDr ctDr ocPo kVPo dcPo pmPo cdPo ctPo ocPi kVPi dcPi pmPi cdPi ctPi ocRa kVRa dcRa pmRa cdRa ctRa ocFe kVFe dcFe pmFe cdFe ctFe ocSa kVSa dcSa pmSa cdSa ctSa ocTI kVTI dcTI pmTI cdTI ctTI ocTF kVTF dcTF pmTF cdTF ctTF ocTE kVTE dcTE pmTE cdTE ctTE ocTS kVTS dcTS pmTS cdTS ctTS ocTR kVTR dcTR pmTR cdTR ctTR ocHa kVHa dcHa pmHa cdHa ctHa ocSR kVSR dcSR pmSR cdSR ctSR ocLL kVLL dcLL pmLL cdLL ctLL ocLI kVLI dcLI pmLI cdLI ctLI ocLT kVLT dcLT pmLT cdLT ctLT ocLP kVLP dcLP pmLP cdLP ctLP ocGP kVGP dcGP pmGP cdGP ctGP ocMb kVMb dcMb pmMb cdMb ctMb ocSa2 kVSa2 dcSa2 pmSa2 cdSa2 ctSa2 ocHo kVHo dcHo pmHo cdHo ctHo ocJu kVJu dcJu pmJu cdJu ctJu ocCo kVCo dcCo pmCo cdCo ctCo ocRo kVRo dcRo pmRo cdRo ctRo ocSu kVSu dcSu pmSu cdSu ctSu ocLq kVLq dcLq pmLq cdLq ctLq ocRi kVRi dcRi pmRi cdRi ctRi ocBe kVBe dcBe pmBe cdBe ctBe ocBp kVBp dcBp pmBp cdBp ctBp ocBt kVBt dcBt pmBt cdBt ctBt ocAc kVAc dcAc pmAc cdAc ctAc ocFo kVFo dcFo pmFo cdFo ctFo ocJd kVJd dcJd pmJd cdJd ctJd ocLw kVLw dcLw pmLw cdLw ctLw : Value}
    (CTableTask : PySem.W.nsIn K mainGlobals "TableTask" = some (some (.ref cTableTask)))
    (CLengths : PySem.W.nsIn K mainGlobals "Lengths" = some (some (.ref cLengths)))
    (aDr : PySem.W.nsIn K mainGlobals "_law_draw" = some (some (.ref fDr)))
    (lDr : K.lookup fDr = some ⟨ocDr, odDr, .func (PySem.W.fnOf "_law_draw" "_law_draw" (defArgs sDr) (defBody sDr) (defScope sDr) .none kVDr dcDr pmDr anDr cdDr ctDr), slDr⟩)
    (cDr : PySem.W.codeIn K cdDr "_law_draw" = true)
    (kDr : PySem.W.keepIn K (.ref fDr) = true)
    (aPo : PySem.W.nsIn K mainGlobals "_law_pool" = some (some (.ref fPo)))
    (lPo : K.lookup fPo = some ⟨ocPo, odPo, .func (PySem.W.fnOf "_law_pool" "_law_pool" (defArgs sPo) (defBody sPo) (defScope sPo) .none kVPo dcPo pmPo anPo cdPo ctPo), slPo⟩)
    (cPo : PySem.W.codeIn K cdPo "_law_pool" = true)
    (kPo : PySem.W.keepIn K (.ref fPo) = true)
    (aPi : PySem.W.nsIn K mainGlobals "_law_pick" = some (some (.ref fPi)))
    (lPi : K.lookup fPi = some ⟨ocPi, odPi, .func (PySem.W.fnOf "_law_pick" "_law_pick" (defArgs sPi) (defBody sPi) (defScope sPi) .none kVPi dcPi pmPi anPi cdPi ctPi), slPi⟩)
    (cPi : PySem.W.codeIn K cdPi "_law_pick" = true)
    (kPi : PySem.W.keepIn K (.ref fPi) = true)
    (aRa : PySem.W.nsIn K mainGlobals "_law_rare" = some (some (.ref fRa)))
    (lRa : K.lookup fRa = some ⟨ocRa, odRa, .func (PySem.W.fnOf "_law_rare" "_law_rare" (defArgs sRa) (defBody sRa) (defScope sRa) .none kVRa dcRa pmRa anRa cdRa ctRa), slRa⟩)
    (cRa : PySem.W.codeIn K cdRa "_law_rare" = true)
    (kRa : PySem.W.keepIn K (.ref fRa) = true)
    (aFe : PySem.W.nsIn K mainGlobals "_law_few" = some (some (.ref fFe)))
    (lFe : K.lookup fFe = some ⟨ocFe, odFe, .func (PySem.W.fnOf "_law_few" "_law_few" (defArgs sFe) (defBody sFe) (defScope sFe) .none kVFe dcFe pmFe anFe cdFe ctFe), slFe⟩)
    (cFe : PySem.W.codeIn K cdFe "_law_few" = true)
    (kFe : PySem.W.keepIn K (.ref fFe) = true)
    (aSa : PySem.W.nsIn K mainGlobals "_law_same" = some (some (.ref fSa)))
    (lSa : K.lookup fSa = some ⟨ocSa, odSa, .func (PySem.W.fnOf "_law_same" "_law_same" (defArgs sSa) (defBody sSa) (defScope sSa) .none kVSa dcSa pmSa anSa cdSa ctSa), slSa⟩)
    (cSa : PySem.W.codeIn K cdSa "_law_same" = true)
    (kSa : PySem.W.keepIn K (.ref fSa) = true)
    (aTI : PySem.W.findIn K (.ref cTableTask) "__init__" = some (some (.ref fTI)))
    (iTI : PySem.W.isFn K (.ref fTI) = true)
    (lTI : K.lookup fTI = some ⟨ocTI, odTI, .func (PySem.W.fnOf "__init__" "TableTask.__init__" (defArgs sTI) (defBody sTI) (defScope sTI) .none kVTI dcTI pmTI anTI cdTI ctTI), slTI⟩)
    (cTI : PySem.W.codeIn K cdTI "TableTask.__init__" = true)
    (kTI : PySem.W.keepIn K (.ref fTI) = true)
    (aTF : PySem.W.findIn K (.ref cTableTask) "first" = some (some (.ref fTF)))
    (iTF : PySem.W.isFn K (.ref fTF) = true)
    (lTF : K.lookup fTF = some ⟨ocTF, odTF, .func (PySem.W.fnOf "first" "TableTask.first" (defArgs sTF) (defBody sTF) (defScope sTF) .none kVTF dcTF pmTF anTF cdTF ctTF), slTF⟩)
    (cTF : PySem.W.codeIn K cdTF "TableTask.first" = true)
    (kTF : PySem.W.keepIn K (.ref fTF) = true)
    (aTE : PySem.W.findIn K (.ref cTableTask) "is_end" = some (some (.ref fTE)))
    (iTE : PySem.W.isFn K (.ref fTE) = true)
    (lTE : K.lookup fTE = some ⟨ocTE, odTE, .func (PySem.W.fnOf "is_end" "TableTask.is_end" (defArgs sTE) (defBody sTE) (defScope sTE) .none kVTE dcTE pmTE anTE cdTE ctTE), slTE⟩)
    (cTE : PySem.W.codeIn K cdTE "TableTask.is_end" = true)
    (kTE : PySem.W.keepIn K (.ref fTE) = true)
    (aTS : PySem.W.findIn K (.ref cTableTask) "steps" = some (some (.ref fTS)))
    (iTS : PySem.W.isFn K (.ref fTS) = true)
    (lTS : K.lookup fTS = some ⟨ocTS, odTS, .func (PySem.W.fnOf "steps" "TableTask.steps" (defArgs sTS) (defBody sTS) (defScope sTS) .none kVTS dcTS pmTS anTS cdTS ctTS), slTS⟩)
    (cTS : PySem.W.codeIn K cdTS "TableTask.steps" = true)
    (kTS : PySem.W.keepIn K (.ref fTS) = true)
    (aTR : PySem.W.findIn K (.ref cTableTask) "rank" = some (some (.ref fTR)))
    (iTR : PySem.W.isFn K (.ref fTR) = true)
    (lTR : K.lookup fTR = some ⟨ocTR, odTR, .func (PySem.W.fnOf "rank" "TableTask.rank" (defArgs sTR) (defBody sTR) (defScope sTR) .none kVTR dcTR pmTR anTR cdTR ctTR), slTR⟩)
    (cTR : PySem.W.codeIn K cdTR "TableTask.rank" = true)
    (kTR : PySem.W.keepIn K (.ref fTR) = true)
    (aHa : PySem.W.findIn K (.ref cTableTask) "has_state" = some (some (.ref fHa)))
    (iHa : PySem.W.isFn K (.ref fHa) = true)
    (lHa : K.lookup fHa = some ⟨ocHa, odHa, .func (PySem.W.fnOf "has_state" "TableTask.has_state" (defArgs sHa) (defBody sHa) (defScope sHa) .none kVHa dcHa pmHa anHa cdHa ctHa), slHa⟩)
    (cHa : PySem.W.codeIn K cdHa "TableTask.has_state" = true)
    (kHa : PySem.W.keepIn K (.ref fHa) = true)
    (aSR : PySem.W.nsIn K mainGlobals "steps_of_reached" = some (some (.ref fSR)))
    (lSR : K.lookup fSR = some ⟨ocSR, odSR, .func (PySem.W.fnOf "steps_of_reached" "steps_of_reached" (defArgs sSR) (defBody sSR) (defScope sSR) .none kVSR dcSR pmSR anSR cdSR ctSR), slSR⟩)
    (cSR : PySem.W.codeIn K cdSR "steps_of_reached" = true)
    (kSR : PySem.W.keepIn K (.ref fSR) = true)
    (aLL : PySem.W.nsIn K mainGlobals "least_lengths" = some (some (.ref fLL)))
    (lLL : K.lookup fLL = some ⟨ocLL, odLL, .func (PySem.W.fnOf "least_lengths" "least_lengths" (defArgs sLL) (defBody sLL) (defScope sLL) .none kVLL dcLL pmLL anLL cdLL ctLL), slLL⟩)
    (cLL : PySem.W.codeIn K cdLL "least_lengths" = true)
    (kLL : PySem.W.keepIn K (.ref fLL) = true)
    (aLI : PySem.W.findIn K (.ref cLengths) "__init__" = some (some (.ref fLI)))
    (iLI : PySem.W.isFn K (.ref fLI) = true)
    (lLI : K.lookup fLI = some ⟨ocLI, odLI, .func (PySem.W.fnOf "__init__" "Lengths.__init__" (defArgs sLI) (defBody sLI) (defScope sLI) .none kVLI dcLI pmLI anLI cdLI ctLI), slLI⟩)
    (cLI : PySem.W.codeIn K cdLI "Lengths.__init__" = true)
    (kLI : PySem.W.keepIn K (.ref fLI) = true)
    (aLT : PySem.W.findIn K (.ref cLengths) "_told" = some (some (.ref fLT)))
    (iLT : PySem.W.isFn K (.ref fLT) = true)
    (lLT : K.lookup fLT = some ⟨ocLT, odLT, .func (PySem.W.fnOf "_told" "Lengths._told" (defArgs sLT) (defBody sLT) (defScope sLT) .none kVLT dcLT pmLT anLT cdLT ctLT), slLT⟩)
    (cLT : PySem.W.codeIn K cdLT "Lengths._told" = true)
    (kLT : PySem.W.keepIn K (.ref fLT) = true)
    (aLP : PySem.W.findIn K (.ref cLengths) "paper" = some (some (.ref fLP)))
    (iLP : PySem.W.isFn K (.ref fLP) = true)
    (lLP : K.lookup fLP = some ⟨ocLP, odLP, .func (PySem.W.fnOf "paper" "Lengths.paper" (defArgs sLP) (defBody sLP) (defScope sLP) .none kVLP dcLP pmLP anLP cdLP ctLP), slLP⟩)
    (cLP : PySem.W.codeIn K cdLP "Lengths.paper" = true)
    (kLP : PySem.W.keepIn K (.ref fLP) = true)
    (aGP : PySem.W.nsIn K mainGlobals "spectra" = some (some (.ref fGP)))
    (lGP : K.lookup fGP = some ⟨ocGP, odGP, .func (PySem.W.fnOf "spectra" "spectra" (defArgs sGP) (defBody sGP) (defScope sGP) .none kVGP dcGP pmGP anGP cdGP ctGP), slGP⟩)
    (cGP : PySem.W.codeIn K cdGP "spectra" = true)
    (kGP : PySem.W.keepIn K (.ref fGP) = true)
    (aMb : PySem.W.nsIn K mainGlobals "_may_be_spectrum" = some (some (.ref fMb)))
    (lMb : K.lookup fMb = some ⟨ocMb, odMb, .func (PySem.W.fnOf "_may_be_spectrum" "_may_be_spectrum" (defArgs sMb) (defBody sMb) (defScope sMb) .none kVMb dcMb pmMb anMb cdMb ctMb), slMb⟩)
    (cMb : PySem.W.codeIn K cdMb "_may_be_spectrum" = true)
    (kMb : PySem.W.keepIn K (.ref fMb) = true)
    (aSa2 : PySem.W.nsIn K mainGlobals "states_ascend" = some (some (.ref fSa2)))
    (lSa2 : K.lookup fSa2 = some ⟨ocSa2, odSa2, .func (PySem.W.fnOf "states_ascend" "states_ascend" (defArgs sSa2) (defBody sSa2) (defScope sSa2) .none kVSa2 dcSa2 pmSa2 anSa2 cdSa2 ctSa2), slSa2⟩)
    (cSa2 : PySem.W.codeIn K cdSa2 "states_ascend" = true)
    (kSa2 : PySem.W.keepIn K (.ref fSa2) = true)
    (aHo : PySem.W.nsIn K mainGlobals "_state_holds" = some (some (.ref fHo)))
    (lHo : K.lookup fHo = some ⟨ocHo, odHo, .func (PySem.W.fnOf "_state_holds" "_state_holds" (defArgs sHo) (defBody sHo) (defScope sHo) .none kVHo dcHo pmHo anHo cdHo ctHo), slHo⟩)
    (cHo : PySem.W.codeIn K cdHo "_state_holds" = true)
    (kHo : PySem.W.keepIn K (.ref fHo) = true)
    (aJu : PySem.W.nsIn K mainGlobals "judge_spectra" = some (some (.ref fJu)))
    (lJu : K.lookup fJu = some ⟨ocJu, odJu, .func (PySem.W.fnOf "judge_spectra" "judge_spectra" (defArgs sJu) (defBody sJu) (defScope sJu) .none kVJu dcJu pmJu anJu cdJu ctJu), slJu⟩)
    (cJu : PySem.W.codeIn K cdJu "judge_spectra" = true)
    (kJu : PySem.W.keepIn K (.ref fJu) = true)
    (aCo : PySem.W.nsIn K mainGlobals "_law_cost" = some (some (.ref fCo)))
    (lCo : K.lookup fCo = some ⟨ocCo, odCo, .func (PySem.W.fnOf "_law_cost" "_law_cost" (defArgs sCo) (defBody sCo) (defScope sCo) .none kVCo dcCo pmCo anCo cdCo ctCo), slCo⟩)
    (cCo : PySem.W.codeIn K cdCo "_law_cost" = true)
    (kCo : PySem.W.keepIn K (.ref fCo) = true)
    (aRo : PySem.W.nsIn K mainGlobals "_law_rows" = some (some (.ref fRo)))
    (lRo : K.lookup fRo = some ⟨ocRo, odRo, .func (PySem.W.fnOf "_law_rows" "_law_rows" (defArgs sRo) (defBody sRo) (defScope sRo) .none kVRo dcRo pmRo anRo cdRo ctRo), slRo⟩)
    (cRo : PySem.W.codeIn K cdRo "_law_rows" = true)
    (kRo : PySem.W.keepIn K (.ref fRo) = true)
    (aSu : PySem.W.nsIn K mainGlobals "_law_sums" = some (some (.ref fSu)))
    (lSu : K.lookup fSu = some ⟨ocSu, odSu, .func (PySem.W.fnOf "_law_sums" "_law_sums" (defArgs sSu) (defBody sSu) (defScope sSu) .none kVSu dcSu pmSu anSu cdSu ctSu), slSu⟩)
    (cSu : PySem.W.codeIn K cdSu "_law_sums" = true)
    (kSu : PySem.W.keepIn K (.ref fSu) = true)
    (aLq : PySem.W.nsIn K mainGlobals "_law_ascends" = some (some (.ref fLq)))
    (lLq : K.lookup fLq = some ⟨ocLq, odLq, .func (PySem.W.fnOf "_law_ascends" "_law_ascends" (defArgs sLq) (defBody sLq) (defScope sLq) .none kVLq dcLq pmLq anLq cdLq ctLq), slLq⟩)
    (cLq : PySem.W.codeIn K cdLq "_law_ascends" = true)
    (kLq : PySem.W.keepIn K (.ref fLq) = true)
    (aRi : PySem.W.nsIn K mainGlobals "_law_right" = some (some (.ref fRi)))
    (lRi : K.lookup fRi = some ⟨ocRi, odRi, .func (PySem.W.fnOf "_law_right" "_law_right" (defArgs sRi) (defBody sRi) (defScope sRi) .none kVRi dcRi pmRi anRi cdRi ctRi), slRi⟩)
    (cRi : PySem.W.codeIn K cdRi "_law_right" = true)
    (kRi : PySem.W.keepIn K (.ref fRi) = true)
    (aBe : PySem.W.nsIn K mainGlobals "_law_bend_states" = some (some (.ref fBe)))
    (lBe : K.lookup fBe = some ⟨ocBe, odBe, .func (PySem.W.fnOf "_law_bend_states" "_law_bend_states" (defArgs sBe) (defBody sBe) (defScope sBe) .none kVBe dcBe pmBe anBe cdBe ctBe), slBe⟩)
    (cBe : PySem.W.codeIn K cdBe "_law_bend_states" = true)
    (kBe : PySem.W.keepIn K (.ref fBe) = true)
    (aBp : PySem.W.nsIn K mainGlobals "_law_bend_pairs" = some (some (.ref fBp)))
    (lBp : K.lookup fBp = some ⟨ocBp, odBp, .func (PySem.W.fnOf "_law_bend_pairs" "_law_bend_pairs" (defArgs sBp) (defBody sBp) (defScope sBp) .none kVBp dcBp pmBp anBp cdBp ctBp), slBp⟩)
    (cBp : PySem.W.codeIn K cdBp "_law_bend_pairs" = true)
    (kBp : PySem.W.keepIn K (.ref fBp) = true)
    (aBt : PySem.W.nsIn K mainGlobals "_law_bent" = some (some (.ref fBt)))
    (lBt : K.lookup fBt = some ⟨ocBt, odBt, .func (PySem.W.fnOf "_law_bent" "_law_bent" (defArgs sBt) (defBody sBt) (defScope sBt) .none kVBt dcBt pmBt anBt cdBt ctBt), slBt⟩)
    (cBt : PySem.W.codeIn K cdBt "_law_bent" = true)
    (kBt : PySem.W.keepIn K (.ref fBt) = true)
    (aAc : PySem.W.nsIn K mainGlobals "_law_accepts" = some (some (.ref fAc)))
    (lAc : K.lookup fAc = some ⟨ocAc, odAc, .func (PySem.W.fnOf "_law_accepts" "_law_accepts" (defArgs sAc) (defBody sAc) (defScope sAc) .none kVAc dcAc pmAc anAc cdAc ctAc), slAc⟩)
    (cAc : PySem.W.codeIn K cdAc "_law_accepts" = true)
    (kAc : PySem.W.keepIn K (.ref fAc) = true)
    (aFo : PySem.W.nsIn K mainGlobals "_law_formed" = some (some (.ref fFo)))
    (lFo : K.lookup fFo = some ⟨ocFo, odFo, .func (PySem.W.fnOf "_law_formed" "_law_formed" (defArgs sFo) (defBody sFo) (defScope sFo) .none kVFo dcFo pmFo anFo cdFo ctFo), slFo⟩)
    (cFo : PySem.W.codeIn K cdFo "_law_formed" = true)
    (kFo : PySem.W.keepIn K (.ref fFo) = true)
    (aJd : PySem.W.nsIn K mainGlobals "_law_judged" = some (some (.ref fJd)))
    (lJd : K.lookup fJd = some ⟨ocJd, odJd, .func (PySem.W.fnOf "_law_judged" "_law_judged" (defArgs sJd) (defBody sJd) (defScope sJd) .none kVJd dcJd pmJd anJd cdJd ctJd), slJd⟩)
    (cJd : PySem.W.codeIn K cdJd "_law_judged" = true)
    (kJd : PySem.W.keepIn K (.ref fJd) = true)
    (aLw : PySem.W.nsIn K mainGlobals "law" = some (some (.ref fLw)))
    (lLw : K.lookup fLw = some ⟨ocLw, odLw, .func (PySem.W.fnOf "law" "law" (defArgs sLw) (defBody sLw) (defScope sLw) .none kVLw dcLw pmLw anLw cdLw ctLw), slLw⟩)
    (cLw : PySem.W.codeIn K cdLw "law" = true)
    (kLw : PySem.W.keepIn K (.ref fLw) = true)
    (pgTableTask : PySem.W.plainGet K cTableTask Str.empty = true)
    (hdTableTask : PySem.W.hasDictIn K cTableTask = true)
    (poTableTask : PySem.W.plainOver K cTableTask = true)
    (saTableTask : PySem.W.findIn K (.ref cTableTask) "__setattr__" = some (some (.builtin "object.__setattr__")))
    (mkTableTask : PySem.W.makesIn K cTableTask = true)
    (kcTableTask : PySem.W.keepIn K (.ref cTableTask) = true)
    (nTableTask_table : PySem.W.findIn K (.ref cTableTask) "_table" = some none)
    (pgLengths : PySem.W.plainGet K cLengths Str.empty = true)
    (hdLengths : PySem.W.hasDictIn K cLengths = true)
    (poLengths : PySem.W.plainOver K cLengths = true)
    (saLengths : PySem.W.findIn K (.ref cLengths) "__setattr__" = some (some (.builtin "object.__setattr__")))
    (mkLengths : PySem.W.makesIn K cLengths = true)
    (kcLengths : PySem.W.keepIn K (.ref cLengths) = true)
    (nLengths_task : PySem.W.findIn K (.ref cLengths) "_task" = some none)
    (nLengths_found : PySem.W.findIn K (.ref cLengths) "_found" = some none)
    (nLengths_table : PySem.W.findIn K (.ref cLengths) "_table" = some none)
    (gfTR : PySem.W.specialIn K (.ref fTR) "__get__" = some (some (.builtin "function.__get__")))
    (tkTR : PySem.W.takesIn K (.ref fTR) = some false)
    (fiTR : PySem.W.fnIn K fTR = true)
    (zlen : PySem.W.nsIn K mainGlobals "len" = some none)
    (zabs : PySem.W.nsIn K mainGlobals "abs" = some none)
    (zint : PySem.W.nsIn K mainGlobals "int" = some none)
    (zlist : PySem.W.nsIn K mainGlobals "list" = some none)
    (ztuple : PySem.W.nsIn K mainGlobals "tuple" = some none)
    (zrange : PySem.W.nsIn K mainGlobals "range" = some none)
    (zsorted : PySem.W.nsIn K mainGlobals "sorted" = some none)
    (zisinstance : PySem.W.nsIn K mainGlobals "isinstance" = some none)
    (zmin : PySem.W.nsIn K mainGlobals "min" = some none)
    (zmax : PySem.W.nsIn K mainGlobals "max" = some none)
    (zenumerate : PySem.W.nsIn K mainGlobals "enumerate" = some none)
    (zzip : PySem.W.nsIn K mainGlobals "zip" = some none)
    (zsum : PySem.W.nsIn K mainGlobals "sum" = some none)
    (zall : PySem.W.nsIn K mainGlobals "all" = some none)
    (zstr : PySem.W.nsIn K mainGlobals "str" = some none)
    (zbool : PySem.W.nsIn K mainGlobals "bool" = some none)
    : ∃ fd : FuncData, (∀ (s : Shared) (v : Value), BindsTo s fd ⟨[v], []⟩ [("script", v)]) ∧ ∀ base : Heap, K.In base → base.Ns mainGlobals mg → FnOk l.prog w K mg base CX0 7 fa fd ["script"] (spLaw K) := by
  have e := hfa.symm.trans (PySem.W.mg_of X G aLw)
  cases e
  have T : Bi mg := ⟨PySem.W.mg_none_of X G zlen, PySem.W.mg_none_of X G zabs, PySem.W.mg_none_of X G zint, PySem.W.mg_none_of X G zlist, PySem.W.mg_none_of X G ztuple, PySem.W.mg_none_of X G zrange, PySem.W.mg_none_of X G zsorted, PySem.W.mg_none_of X G zisinstance, PySem.W.mg_none_of X G zmin, PySem.W.mg_none_of X G zmax, PySem.W.mg_none_of X G zenumerate, PySem.W.mg_none_of X G zzip, PySem.W.mg_none_of X G zsum, PySem.W.mg_none_of X G zall, PySem.W.mg_none_of X G zstr, PySem.W.mg_none_of X G zbool⟩
  have clTableTask : Cls K cTableTask := ⟨pgTableTask, hdTableTask, poTableTask, saTableTask⟩
  have mTableTask := PySem.W.mg_of X G CTableTask
  have clLengths : Cls K cLengths := ⟨pgLengths, hdLengths, poLengths, saLengths⟩
  have mLengths := PySem.W.mg_of X G CLengths
  have FDr := fun_mk (st := sDr) lDr cDr kDr
  have bDr := FDr.binds (ps := ["pool", "many"]) fun _ _ _ _ _ _ us hl => match us, hl with | [_, _], _ => rfl
  have mDr := PySem.W.mg_of X G aDr
  have FPo := fun_mk (st := sPo) lPo cPo kPo
  have bPo := FPo.binds (ps := ["script"]) fun _ _ _ _ _ _ us hl => match us, hl with | [_], _ => rfl
  have mPo := PySem.W.mg_of X G aPo
  have FPi := fun_mk (st := sPi) lPi cPi kPi
  have bPi := FPi.binds (ps := ["pool", "row"]) fun _ _ _ _ _ _ us hl => match us, hl with | [_, _], _ => rfl
  have mPi := PySem.W.mg_of X G aPi
  have FRa := fun_mk (st := sRa) lRa cRa kRa
  have bRa := FRa.binds (ps := ["pool", "many"]) fun _ _ _ _ _ _ us hl => match us, hl with | [_, _], _ => rfl
  have mRa := PySem.W.mg_of X G aRa
  have FFe := fun_mk (st := sFe) lFe cFe kFe
  have bFe := FFe.binds (ps := ["pool", "usual", "most"]) fun _ _ _ _ _ _ us hl => match us, hl with | [_, _, _], _ => rfl
  have mFe := PySem.W.mg_of X G aFe
  have FSa := fun_mk (st := sSa) lSa cSa kSa
  have bSa := FSa.binds (ps := ["got", "due"]) fun _ _ _ _ _ _ us hl => match us, hl with | [_, _], _ => rfl
  have mSa := PySem.W.mg_of X G aSa
  have FTI := fun_mk (st := sTI) lTI cTI kTI
  have bTI := FTI.binds (ps := ["self", "rows"]) fun _ _ _ _ _ _ us hl => match us, hl with | [_, _], _ => rfl
  have MTI : Mk K cTableTask fTI := ⟨mkTableTask, aTI, iTI, kcTableTask⟩
  have FTF := fun_mk (st := sTF) lTF cTF kTF
  have bTF := FTF.binds (ps := ["self"]) fun _ _ _ _ _ _ us hl => match us, hl with | [_], _ => rfl
  have eTF : Meth K cTableTask "first" fTF := ⟨aTF, iTF, kTF⟩
  have FTE := fun_mk (st := sTE) lTE cTE kTE
  have bTE := FTE.binds (ps := ["self", "state"]) fun _ _ _ _ _ _ us hl => match us, hl with | [_, _], _ => rfl
  have eTE : Meth K cTableTask "is_end" fTE := ⟨aTE, iTE, kTE⟩
  have FTS := fun_mk (st := sTS) lTS cTS kTS
  have bTS := FTS.binds (ps := ["self", "state"]) fun _ _ _ _ _ _ us hl => match us, hl with | [_, _], _ => rfl
  have eTS : Meth K cTableTask "steps" fTS := ⟨aTS, iTS, kTS⟩
  have FTR := fun_mk (st := sTR) lTR cTR kTR
  have bTR := FTR.binds (ps := ["self", "state"]) fun _ _ _ _ _ _ us hl => match us, hl with | [_, _], _ => rfl
  have eTR : Meth K cTableTask "rank" fTR := ⟨aTR, iTR, kTR⟩
  have FHa := fun_mk (st := sHa) lHa cHa kHa
  have bHa := FHa.binds (ps := ["self", "state"]) fun _ _ _ _ _ _ us hl => match us, hl with | [_, _], _ => rfl
  have eHa : Meth K cTableTask "has_state" fHa := ⟨aHa, iHa, kHa⟩
  have FSR := fun_mk (st := sSR) lSR cSR kSR
  have bSR := FSR.binds (ps := ["task"]) fun _ _ _ _ _ _ us hl => match us, hl with | [_], _ => rfl
  have mSR := PySem.W.mg_of X G aSR
  have FLL := fun_mk (st := sLL) lLL cLL kLL
  have bLL := FLL.binds (ps := ["steps", "table"]) fun _ _ _ _ _ _ us hl => match us, hl with | [_, _], _ => rfl
  have mLL := PySem.W.mg_of X G aLL
  have FLI := fun_mk (st := sLI) lLI cLI kLI
  have bLI := FLI.binds (ps := ["self", "task"]) fun _ _ _ _ _ _ us hl => match us, hl with | [_, _], _ => rfl
  have MLI : Mk K cLengths fLI := ⟨mkLengths, aLI, iLI, kcLengths⟩
  have FLT := fun_mk (st := sLT) lLT cLT kLT
  have bLT := FLT.binds (ps := ["self", "state"]) fun _ _ _ _ _ _ us hl => match us, hl with | [_, _], _ => rfl
  have eLT : Meth K cLengths "_told" fLT := ⟨aLT, iLT, kLT⟩
  have FLP := fun_mk (st := sLP) lLP cLP kLP
  have bLP := FLP.binds (ps := ["self"]) fun _ _ _ _ _ _ us hl => match us, hl with | [_], _ => rfl
  have eLP : Meth K cLengths "paper" fLP := ⟨aLP, iLP, kLP⟩
  have FGP := fun_mk (st := sGP) lGP cGP kGP
  have bGP := FGP.binds (ps := ["task"]) fun _ _ _ _ _ _ us hl => match us, hl with | [_], _ => rfl
  have mGP := PySem.W.mg_of X G aGP
  have FMb := fun_mk (st := sMb) lMb cMb kMb
  have bMb := FMb.binds (ps := ["pairs"]) fun _ _ _ _ _ _ us hl => match us, hl with | [_], _ => rfl
  have mMb := PySem.W.mg_of X G aMb
  have FSa2 := fun_mk (st := sSa2) lSa2 cSa2 kSa2
  have bSa2 := FSa2.binds (ps := ["task", "paper"]) fun _ _ _ _ _ _ us hl => match us, hl with | [_, _], _ => rfl
  have mSa2 := PySem.W.mg_of X G aSa2
  have FHo := fun_mk (st := sHo) lHo cHo kHo
  have bHo := FHo.binds (ps := ["task", "table", "state"]) fun _ _ _ _ _ _ us hl => match us, hl with | [_, _, _], _ => rfl
  have mHo := PySem.W.mg_of X G aHo
  have FJu := fun_mk (st := sJu) lJu cJu kJu
  have bJu := FJu.binds (ps := ["task", "paper"]) fun _ _ _ _ _ _ us hl => match us, hl with | [_, _], _ => rfl
  have mJu := PySem.W.mg_of X G aJu
  have FCo := fun_mk (st := sCo) lCo cCo kCo
  have bCo := FCo.binds (ps := ["pool"]) fun _ _ _ _ _ _ us hl => match us, hl with | [_], _ => rfl
  have mCo := PySem.W.mg_of X G aCo
  have FRo := fun_mk (st := sRo) lRo cRo kRo
  have bRo := FRo.binds (ps := ["pool"]) fun _ _ _ _ _ _ us hl => match us, hl with | [_], _ => rfl
  have mRo := PySem.W.mg_of X G aRo
  have FSu := fun_mk (st := sSu) lSu cSu kSu
  have bSu := FSu.binds (ps := ["row", "table"]) fun _ _ _ _ _ _ us hl => match us, hl with | [_, _], _ => rfl
  have mSu := PySem.W.mg_of X G aSu
  have FLq := fun_mk (st := sLq) lLq cLq kLq
  have bLq := FLq.binds (ps := ["pairs"]) fun _ _ _ _ _ _ us hl => match us, hl with | [_], _ => rfl
  have mLq := PySem.W.mg_of X G aLq
  have FRi := fun_mk (st := sRi) lRi cRi kRi
  have bRi := FRi.binds (ps := ["pool", "rows"]) fun _ _ _ _ _ _ us hl => match us, hl with | [_, _], _ => rfl
  have mRi := PySem.W.mg_of X G aRi
  have FBe := fun_mk (st := sBe) lBe cBe kBe
  have bBe := FBe.binds (ps := ["pool", "paper", "kind", "at"]) fun _ _ _ _ _ _ us hl => match us, hl with | [_, _, _, _], _ => rfl
  have mBe := PySem.W.mg_of X G aBe
  have FBp := fun_mk (st := sBp) lBp cBp kBp
  have bBp := FBp.binds (ps := ["pool", "paper", "kind", "at"]) fun _ _ _ _ _ _ us hl => match us, hl with | [_, _, _, _], _ => rfl
  have mBp := PySem.W.mg_of X G aBp
  have FBt := fun_mk (st := sBt) lBt cBt kBt
  have bBt := FBt.binds (ps := ["pool", "paper"]) fun _ _ _ _ _ _ us hl => match us, hl with | [_, _], _ => rfl
  have mBt := PySem.W.mg_of X G aBt
  have FAc := fun_mk (st := sAc) lAc cAc kAc
  have bAc := FAc.binds (ps := ["rows", "paper"]) fun _ _ _ _ _ _ us hl => match us, hl with | [_, _], _ => rfl
  have mAc := PySem.W.mg_of X G aAc
  have FFo := fun_mk (st := sFo) lFo cFo kFo
  have bFo := FFo.binds (ps := ["pool", "paper"]) fun _ _ _ _ _ _ us hl => match us, hl with | [_, _], _ => rfl
  have mFo := PySem.W.mg_of X G aFo
  have FJd := fun_mk (st := sJd) lJd cJd kJd
  have bJd := FJd.binds (ps := ["pool", "task", "paper", "due"]) fun _ _ _ _ _ _ us hl => match us, hl with | [_, _, _, _], _ => rfl
  have mJd := PySem.W.mg_of X G aJd
  have BTR : BMeth K cTableTask "rank" fTR := ⟨eTR, gfTR, tkTR, by decide +kernel, fiTR⟩
  have L : LCls K cLengths := ⟨clLengths, nLengths_task, nLengths_found, nLengths_table⟩
  refine ⟨PySem.W.fnOf "law" "law" (defArgs sLw) (defBody sLw) (defScope sLw) .none kVLw dcLw pmLw anLw cdLw ctLw, fun s v => .of_eq rfl, fun base _ _ => ?_⟩
  have GDr : FnOk l.prog w K mg base CX0 1 fDr _ ["pool", "many"] (spDraw) := ok_Dr FDr T
  have CDr : Cal l.prog w K mg base "_law_draw" 1 fDr _ ["pool", "many"] (spDraw) := ⟨GDr, mDr, kDr, bDr⟩
  have GPo : FnOk l.prog w K mg base CX0 1 fPo _ ["script"] (spPool K) := ok_Po FPo T
  have CPo : Cal l.prog w K mg base "_law_pool" 1 fPo _ ["script"] (spPool K) := ⟨GPo, mPo, kPo, bPo⟩
  have GPi : FnOk l.prog w K mg base CX0 2 fPi _ ["pool", "row"] (spPick) := ok_Pi FPi T CDr
  have CPi : Cal l.prog w K mg base "_law_pick" 2 fPi _ ["pool", "row"] (spPick) := ⟨GPi, mPi, kPi, bPi⟩
  have GRa : FnOk l.prog w K mg base CX0 2 fRa _ ["pool", "many"] (spRare) := ok_Ra FRa T CDr
  have CRa : Cal l.prog w K mg base "_law_rare" 2 fRa _ ["pool", "many"] (spRare) := ⟨GRa, mRa, kRa, bRa⟩
  have GFe : FnOk l.prog w K mg base CX0 3 fFe _ ["pool", "usual", "most"] (spFew) := ok_Fe FFe T CDr CRa
  have CFe : Cal l.prog w K mg base "_law_few" 3 fFe _ ["pool", "usual", "most"] (spFew) := ⟨GFe, mFe, kFe, bFe⟩
  have GSa : FnOk l.prog w K mg base CX0 5 fSa _ ["got", "due"] (spSame 5) := ok_Sa FSa T mSa bSa 5
  have CSa : Cal l.prog w K mg base "_law_same" 5 fSa _ ["got", "due"] (spSame 5) := ⟨GSa, mSa, kSa, bSa⟩
  have GTI : FnOk l.prog w K mg base CX0 1 fTI _ ["self", "rows"] (spTInit cTableTask) := ok_TI FTI T clTableTask nTableTask_table
  have GTF : FnOk l.prog w K mg base CX0 1 fTF _ ["self"] (spTFirst cTableTask) := ok_TF FTF
  have CTF : Met l.prog w K mg base cTableTask "first" 1 fTF _ ["self"] (spTFirst cTableTask) := ⟨GTF, clTableTask, eTF, bTF⟩
  have GTE : FnOk l.prog w K mg base CX0 1 fTE _ ["self", "state"] (spTEnd cTableTask) := ok_TE FTE T clTableTask nTableTask_table
  have CTE : Met l.prog w K mg base cTableTask "is_end" 1 fTE _ ["self", "state"] (spTEnd cTableTask) := ⟨GTE, clTableTask, eTE, bTE⟩
  have GTS : FnOk l.prog w K mg base CX0 1 fTS _ ["self", "state"] (spTSteps cTableTask) := ok_TS FTS T clTableTask nTableTask_table
  have CTS : Met l.prog w K mg base cTableTask "steps" 1 fTS _ ["self", "state"] (spTSteps cTableTask) := ⟨GTS, clTableTask, eTS, bTS⟩
  have GTR : FnOk l.prog w K mg base CX0 1 fTR _ ["self", "state"] (spTRank) := ok_TR FTR
  have CTR : Met l.prog w K mg base cTableTask "rank" 1 fTR _ ["self", "state"] (spTRank) := ⟨GTR, clTableTask, eTR, bTR⟩
  have GHa : FnOk l.prog w K mg base CX0 1 fHa _ ["self", "state"] (spHas cTableTask) := ok_Ha FHa T clTableTask nTableTask_table
  have CHa : Met l.prog w K mg base cTableTask "has_state" 1 fHa _ ["self", "state"] (spHas cTableTask) := ⟨GHa, clTableTask, eHa, bHa⟩
  have GSR : FnOk l.prog w K mg base CX0 2 fSR _ ["task"] (spReached cTableTask) := ok_SR FSR T CTF CTS
  have CSR : Cal l.prog w K mg base "steps_of_reached" 2 fSR _ ["task"] (spReached cTableTask) := ⟨GSR, mSR, kSR, bSR⟩
  have GLL : FnOk l.prog w K mg base CX0 1 fLL _ ["steps", "table"] (spLeast) := ok_LL FLL
  have CLL : Cal l.prog w K mg base "least_lengths" 1 fLL _ ["steps", "table"] (spLeast) := ⟨GLL, mLL, kLL, bLL⟩
  have GLI : FnOk l.prog w K mg base CX0 4 fLI _ ["self", "task"] (spLInit cLengths cTableTask) := ok_LI FLI T L clTableTask BTR (GTR.raw bTR .nil) CTE CSR CLL
  have GLT : FnOk l.prog w K mg base CX0 1 fLT _ ["self", "state"] (spTold cLengths cTableTask) := ok_LT FLT T L
  have CLT : Met l.prog w K mg base cLengths "_told" 1 fLT _ ["self", "state"] (spTold cLengths cTableTask) := ⟨GLT, clLengths, eLT, bLT⟩
  have GLP : FnOk l.prog w K mg base CX0 2 fLP _ ["self"] (spPaper cLengths cTableTask) := ok_LP FLP T L CLT
  have CLP : Met l.prog w K mg base cLengths "paper" 2 fLP _ ["self"] (spPaper cLengths cTableTask) := ⟨GLP, clLengths, eLP, bLP⟩
  have GGP : FnOk l.prog w K mg base CX0 6 fGP _ ["task"] (spTopSpectra cTableTask) := ok_GP FGP L MLI GLI mLengths bLI CLP
  have CGP : Cal l.prog w K mg base "spectra" 6 fGP _ ["task"] (spTopSpectra cTableTask) := ⟨GGP, mGP, kGP, bGP⟩
  have GMb : FnOk l.prog w K mg base CX0 1 fMb _ ["pairs"] (spMay) := ok_Mb FMb
  have CMb : Cal l.prog w K mg base "_may_be_spectrum" 1 fMb _ ["pairs"] (spMay) := ⟨GMb, mMb, kMb, bMb⟩
  have GSa2 : FnOk l.prog w K mg base CX0 2 fSa2 _ ["task", "paper"] (spAscend cTableTask) := ok_Sa2 FSa2 T CHa
  have CSa2 : Cal l.prog w K mg base "states_ascend" 2 fSa2 _ ["task", "paper"] (spAscend cTableTask) := ⟨GSa2, mSa2, kSa2, bSa2⟩
  have GHo : FnOk l.prog w K mg base CX0 2 fHo _ ["task", "table", "state"] (spHolds cTableTask) := ok_Ho FHo T CTE CTS ⟨ok_LG FLL, mLL, kLL, bLL⟩
  have CHo : Cal l.prog w K mg base "_state_holds" 2 fHo _ ["task", "table", "state"] (spHolds cTableTask) := ⟨GHo, mHo, kHo, bHo⟩
  have GJu : FnOk l.prog w K mg base CX0 3 fJu _ ["task", "paper"] (spJudge cTableTask) := ok_Ju FJu T CTF CSa2 CMb CHo
  have CJu : Cal l.prog w K mg base "judge_spectra" 3 fJu _ ["task", "paper"] (spJudge cTableTask) := ⟨GJu, mJu, kJu, bJu⟩
  have GCo : FnOk l.prog w K mg base CX0 3 fCo _ ["pool"] (spCost) := ok_Co FCo T CDr CRa
  have CCo : Cal l.prog w K mg base "_law_cost" 3 fCo _ ["pool"] (spCost) := ⟨GCo, mCo, kCo, bCo⟩
  have GRo : FnOk l.prog w K mg base CX0 4 fRo _ ["pool"] (spRows) := ok_Ro FRo T CDr CRa CPi CFe CCo
  have CRo : Cal l.prog w K mg base "_law_rows" 4 fRo _ ["pool"] (spRows) := ⟨GRo, mRo, kRo, bRo⟩
  have GSu : FnOk l.prog w K mg base CX0 1 fSu _ ["row", "table"] (spLeastG) := ok_Su FSu
  have CSu : Cal l.prog w K mg base "_law_sums" 1 fSu _ ["row", "table"] (spLeastG) := ⟨GSu, mSu, kSu, bSu⟩
  have GLq : FnOk l.prog w K mg base CX0 1 fLq _ ["pairs"] (spAsc) := ok_Lq FLq
  have CLq : Cal l.prog w K mg base "_law_ascends" 1 fLq _ ["pairs"] (spAsc) := ⟨GLq, mLq, kLq, bLq⟩
  have GRi : FnOk l.prog w K mg base CX0 2 fRi _ ["pool", "rows"] (spRight) := ok_Ri FRi T CDr CSu
  have CRi : Cal l.prog w K mg base "_law_right" 2 fRi _ ["pool", "rows"] (spRight) := ⟨GRi, mRi, kRi, bRi⟩
  have GBe : FnOk l.prog w K mg base CX0 3 fBe _ ["pool", "paper", "kind", "at"] (spBend) := ok_Be FBe T CDr ⟨ok_PiO FPi T CDr, mPi, kPi, bPi⟩
  have CBe : Cal l.prog w K mg base "_law_bend_states" 3 fBe _ ["pool", "paper", "kind", "at"] (spBend) := ⟨GBe, mBe, kBe, bBe⟩
  have GBp : FnOk l.prog w K mg base CX0 3 fBp _ ["pool", "paper", "kind", "at"] (spBend) := ok_Bp FBp T CDr ⟨ok_PiO FPi T CDr, mPi, kPi, bPi⟩
  have CBp : Cal l.prog w K mg base "_law_bend_pairs" 3 fBp _ ["pool", "paper", "kind", "at"] (spBend) := ⟨GBp, mBp, kBp, bBp⟩
  have GBt : FnOk l.prog w K mg base CX0 4 fBt _ ["pool", "paper"] (spBent) := ok_Bt FBt T CDr ⟨ok_PiO FPi T CDr, mPi, kPi, bPi⟩ CBe CBp
  have CBt : Cal l.prog w K mg base "_law_bent" 4 fBt _ ["pool", "paper"] (spBent) := ⟨GBt, mBt, kBt, bBt⟩
  have GAc : FnOk l.prog w K mg base CX0 2 fAc _ ["rows", "paper"] (spAccepts) := ok_Ac FAc T CLq CSu
  have CAc : Cal l.prog w K mg base "_law_accepts" 2 fAc _ ["rows", "paper"] (spAccepts) := ⟨GAc, mAc, kAc, bAc⟩
  have GFo : FnOk l.prog w K mg base CX0 2 fFo _ ["pool", "paper"] (spFormed) := ok_Fo FFo T CDr
  have CFo : Cal l.prog w K mg base "_law_formed" 2 fFo _ ["pool", "paper"] (spFormed) := ⟨GFo, mFo, kFo, bFo⟩
  have GJd : FnOk l.prog w K mg base CX0 6 fJd _ ["pool", "task", "paper", "due"] (spJudged cTableTask) := ok_Jd FJd T CFo CJu CSa
  have CJd : Cal l.prog w K mg base "_law_judged" 6 fJd _ ["pool", "task", "paper", "due"] (spJudged cTableTask) := ⟨GJd, mJd, kJd, bJd⟩
  exact ok_Lw (fun_mk (st := sLw) lLw cLw kLw) T CPo CRo CRi CAc CJd CBt CJu CGP MTI GTI mTableTask bTI
theorem walk {l : PySem.W.OpenLaw} {q : Program} {loose : List Str} {XP : (Str → Option Value) → Heap → Prop} {YP : World → Heap → Prop} {d : DefRec} {K : Params → PySem.W.Frag} (hn : l.most = some 63) (hdf : d.params.defaults = [])
    (hY : ∀ (w : World) (h : Heap), YP w h → (K w.params).In h)
    (F : ∀ (w : World) (mg : Str → Option Value) (fa : Addr) (h : Heap), (K w.params).In h → h.Ns mainGlobals mg → mg d.name = some (.ref fa) →
      ∃ fd : FuncData, (∀ (s : Shared) (u : Value), BindsTo s fd ⟨[u], []⟩ [("script", u)]) ∧ ∀ base : Heap, (K w.params).In base → base.Ns mainGlobals mg → FnOk l.prog w (K w.params) mg base CX0 7 fa fd ["script"] (spLaw (K w.params))) :
    PySem.W.WalkO q loose XP YP l.row.toRowW d [] (fun f vs => PySem.call f vs) :=
  L2.walk_of (n := 63) (k := 7) (x := "script") (CX := fun _ => CX0) (sp := fun w => spLaw (K w.params)) hn (by decide) hdf ⟨rfl, by decide, by decide⟩ hY F (fun _ _ a ns hl _ hS => ⟨a, ns, rfl, hS, hl, fun _ => rfl⟩) fun _ _ _ _ _ z => z
end Tf
open PySem PySem.W PyProof.Rows in
set_option maxRecDepth 100000 in
set_option maxHeartbeats 0 in
theorem PySem.Challenge.cw_typeforge_k76_judge_of_spectra_holds : PySem.Challenge.rw_typeforge_k76_judge_of_spectra.Holds := by
  w_on; o_law; k_head; (case hw => w_witness2)
  k_fill
  refine Tf.walk (l := PySem.Challenge.rw_typeforge_k76_judge_of_spectra) rfl rfl (fun w h Y => PySem.W.kIn_of Y) ?F
  case F =>
    intro w mg fa h KX G hmg
    refine' Tf.all_mk KX G hmg ?CTableTask ?CLengths ?aDr ?lDr ?cDr ?kDr ?aPo ?lPo ?cPo ?kPo ?aPi ?lPi ?cPi ?kPi ?aRa ?lRa ?cRa ?kRa ?aFe ?lFe ?cFe ?kFe ?aSa ?lSa ?cSa ?kSa ?aTI ?iTI ?lTI ?cTI ?kTI ?aTF ?iTF ?lTF ?cTF ?kTF ?aTE ?iTE ?lTE ?cTE ?kTE ?aTS ?iTS ?lTS ?cTS ?kTS ?aTR ?iTR ?lTR ?cTR ?kTR ?aHa ?iHa ?lHa ?cHa ?kHa ?aSR ?lSR ?cSR ?kSR ?aLL ?lLL ?cLL ?kLL ?aLI ?iLI ?lLI ?cLI ?kLI ?aLT ?iLT ?lLT ?cLT ?kLT ?aLP ?iLP ?lLP ?cLP ?kLP ?aGP ?lGP ?cGP ?kGP ?aMb ?lMb ?cMb ?kMb ?aSa2 ?lSa2 ?cSa2 ?kSa2 ?aHo ?lHo ?cHo ?kHo ?aJu ?lJu ?cJu ?kJu ?aCo ?lCo ?cCo ?kCo ?aRo ?lRo ?cRo ?kRo ?aSu ?lSu ?cSu ?kSu ?aLq ?lLq ?cLq ?kLq ?aRi ?lRi ?cRi ?kRi ?aBe ?lBe ?cBe ?kBe ?aBp ?lBp ?cBp ?kBp ?aBt ?lBt ?cBt ?kBt ?aAc ?lAc ?cAc ?kAc ?aFo ?lFo ?cFo ?kFo ?aJd ?lJd ?cJd ?kJd ?aLw ?lLw ?cLw ?kLw ?pgTableTask ?hdTableTask ?poTableTask ?saTableTask ?mkTableTask ?kcTableTask ?nTableTask_table ?pgLengths ?hdLengths ?poLengths ?saLengths ?mkLengths ?kcLengths ?nLengths_task ?nLengths_found ?nLengths_table ?gfTR ?tkTR ?fiTR ?zlen ?zabs ?zint ?zlist ?ztuple ?zrange ?zsorted ?zisinstance ?zmin ?zmax ?zenumerate ?zzip ?zsum ?zall ?zstr ?zbool
    (case CTableTask => k_is)
    (case CLengths => k_is)
    (case aDr => k_is)
    (case lDr => k_is)
    (case cDr => k_is)
    (case kDr => k_is)
    (case aPo => k_is)
    (case lPo => k_is)
    (case cPo => k_is)
    (case kPo => k_is)
    (case aPi => k_is)
    (case lPi => k_is)
    (case cPi => k_is)
    (case kPi => k_is)
    (case aRa => k_is)
    (case lRa => k_is)
    (case cRa => k_is)
    (case kRa => k_is)
    (case aFe => k_is)
    (case lFe => k_is)
    (case cFe => k_is)
    (case kFe => k_is)
    (case aSa => k_is)
    (case lSa => k_is)
    (case cSa => k_is)
    (case kSa => k_is)
    (case aTI => k_is)
    (case iTI => k_is)
    (case lTI => k_is)
    (case cTI => k_is)
    (case kTI => k_is)
    (case aTF => k_is)
    (case iTF => k_is)
    (case lTF => k_is)
    (case cTF => k_is)
    (case kTF => k_is)
    (case aTE => k_is)
    (case iTE => k_is)
    (case lTE => k_is)
    (case cTE => k_is)
    (case kTE => k_is)
    (case aTS => k_is)
    (case iTS => k_is)
    (case lTS => k_is)
    (case cTS => k_is)
    (case kTS => k_is)
    (case aTR => k_is)
    (case iTR => k_is)
    (case lTR => k_is)
    (case cTR => k_is)
    (case kTR => k_is)
    (case aHa => k_is)
    (case iHa => k_is)
    (case lHa => k_is)
    (case cHa => k_is)
    (case kHa => k_is)
    (case aSR => k_is)
    (case lSR => k_is)
    (case cSR => k_is)
    (case kSR => k_is)
    (case aLL => k_is)
    (case lLL => k_is)
    (case cLL => k_is)
    (case kLL => k_is)
    (case aLI => k_is)
    (case iLI => k_is)
    (case lLI => k_is)
    (case cLI => k_is)
    (case kLI => k_is)
    (case aLT => k_is)
    (case iLT => k_is)
    (case lLT => k_is)
    (case cLT => k_is)
    (case kLT => k_is)
    (case aLP => k_is)
    (case iLP => k_is)
    (case lLP => k_is)
    (case cLP => k_is)
    (case kLP => k_is)
    (case aGP => k_is)
    (case lGP => k_is)
    (case cGP => k_is)
    (case kGP => k_is)
    (case aMb => k_is)
    (case lMb => k_is)
    (case cMb => k_is)
    (case kMb => k_is)
    (case aSa2 => k_is)
    (case lSa2 => k_is)
    (case cSa2 => k_is)
    (case kSa2 => k_is)
    (case aHo => k_is)
    (case lHo => k_is)
    (case cHo => k_is)
    (case kHo => k_is)
    (case aJu => k_is)
    (case lJu => k_is)
    (case cJu => k_is)
    (case kJu => k_is)
    (case aCo => k_is)
    (case lCo => k_is)
    (case cCo => k_is)
    (case kCo => k_is)
    (case aRo => k_is)
    (case lRo => k_is)
    (case cRo => k_is)
    (case kRo => k_is)
    (case aSu => k_is)
    (case lSu => k_is)
    (case cSu => k_is)
    (case kSu => k_is)
    (case aLq => k_is)
    (case lLq => k_is)
    (case cLq => k_is)
    (case kLq => k_is)
    (case aRi => k_is)
    (case lRi => k_is)
    (case cRi => k_is)
    (case kRi => k_is)
    (case aBe => k_is)
    (case lBe => k_is)
    (case cBe => k_is)
    (case kBe => k_is)
    (case aBp => k_is)
    (case lBp => k_is)
    (case cBp => k_is)
    (case kBp => k_is)
    (case aBt => k_is)
    (case lBt => k_is)
    (case cBt => k_is)
    (case kBt => k_is)
    (case aAc => k_is)
    (case lAc => k_is)
    (case cAc => k_is)
    (case kAc => k_is)
    (case aFo => k_is)
    (case lFo => k_is)
    (case cFo => k_is)
    (case kFo => k_is)
    (case aJd => k_is)
    (case lJd => k_is)
    (case cJd => k_is)
    (case kJd => k_is)
    (case aLw => k_is)
    (case lLw => k_is)
    (case cLw => k_is)
    (case kLw => k_is)
    (case pgTableTask => k_is)
    (case hdTableTask => k_is)
    (case poTableTask => k_is)
    (case saTableTask => k_is)
    (case mkTableTask => k_is)
    (case kcTableTask => k_is)
    (case nTableTask_table => k_is)
    (case pgLengths => k_is)
    (case hdLengths => k_is)
    (case poLengths => k_is)
    (case saLengths => k_is)
    (case mkLengths => k_is)
    (case kcLengths => k_is)
    (case nLengths_task => k_is)
    (case nLengths_found => k_is)
    (case nLengths_table => k_is)
    (case gfTR => k_is)
    (case tkTR => k_is)
    (case fiTR => k_is)
    (case zlen => k_is)
    (case zabs => k_is)
    (case zint => k_is)
    (case zlist => k_is)
    (case ztuple => k_is)
    (case zrange => k_is)
    (case zsorted => k_is)
    (case zisinstance => k_is)
    (case zmin => k_is)
    (case zmax => k_is)
    (case zenumerate => k_is)
    (case zzip => k_is)
    (case zsum => k_is)
    (case zall => k_is)
    (case zstr => k_is)
    (case zbool => k_is)
#print axioms PySem.Challenge.cw_typeforge_k76_judge_of_spectra_holds
