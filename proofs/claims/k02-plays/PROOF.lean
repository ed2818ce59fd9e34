import PyProof.Rows.All
import Wide.All
import OpenK.AllK
import Wide.FinOn
import HandS.ForMost
import HandS.ForExc
import HandS.CallSlots
import HandS.TupAny
import HandS.TupMul
import HandS.Flow
import HandS.Wide
import HandS.IsInst
import HandS.Zip
import HandS.Rev
import KE.GoesEnum
import KE.GoesMore
import HandS.More
import HandS.Conv
import PySem.Challenge.RW_bookshandled_k02_plays
set_option Elab.async false
set_option linter.all false
set_option maxRecDepth 100000
set_option autoImplicit false
/-! The plain machine: values as trees, a store of mutable objects by number; how its state stands for the layer's abstract heap. -/
namespace BH
open PySem PySem.Spec PyProof.Rows L2

inductive MV where
  | non | bl (b : Bool) | int (i : Int) | str (x : Str) | tup (xs : List MV) | ref (a : Nat) | ty (n : String)

inductive MO where
  | lst (xs : List MV)
  | rol (xs : List MV)
  | ins (c : Nat) (fs : List (Str × MV))
  | dct (kvs : List (MV × MV))

abbrev Mst := List MO
abbrev Mfs := List (Str × MV)
inductive Res (α : Type) where
  | ok (a : α) (st : Mst)
  | ex (c : Nat) (fs : Mfs) (st : Mst)
  | bad
abbrev M (α : Type) := Mst → Res α
def Res.bind {α β : Type} (r : Res α) (f : α → Mst → Res β) : Res β :=
  match r with
  | .ok a st => f a st
  | .ex c fs st => .ex c fs st
  | .bad => .bad
@[simp] theorem Res.bind_ok {α β : Type} (a : α) (st : Mst) (f : α → Mst → Res β) : (Res.ok a st).bind f = f a st := rfl
@[simp] theorem Res.bind_ex {α β : Type} (c : Nat) (fs : Mfs) (st : Mst) (f : α → Mst → Res β) : (Res.ex c fs st).bind f = .ex c fs st := rfl
@[simp] theorem Res.bind_bad {α β : Type} (f : α → Mst → Res β) : (Res.bad : Res α).bind f = .bad := rfl
abbrev Env := List (Option MV)
abbrev ME := Env → M MV

/-! ### how a value stands for the layer's -/
mutual
def RV (K : PySem.W.Frag) (β : List Addr) (H : Hp) : MV → V → Prop
  | .non, v => v = .non
  | .bl b, v => v = .bl b
  | .int i, v => v = .int i
  | .str x, v => v = .str x
  | .tup xs, v => ∃ p ys, v = .ref p ∧ SqT K H p ys ∧ RVs K β H xs ys
  | .ref a, v => ∃ p, β[a]? = some p ∧ v = .ref p
  | .ty n, v => v = .ty n
def RVs (K : PySem.W.Frag) (β : List Addr) (H : Hp) : List MV → List V → Prop
  | [], ys => ys = []
  | x :: xs, ys => ∃ y r, ys = y :: r ∧ RV K β H x y ∧ RVs K β H xs r
end

structure Ext (K : PySem.W.Frag) (β β' : List Addr) (H H' : Hp) : Prop where
  pre : ∀ (i : Nat) (p : Addr), β[i]? = some p → β'[i]? = some p
  tup : ∀ p xs, SqT K H p xs → SqT K H' p xs

section
variable {K : PySem.W.Frag} {β β' β2 : List Addr} {H H' H2 : Hp}
theorem Ext.refl : Ext K β β H H := ⟨fun _ _ h => h, fun _ _ h => h⟩
theorem Ext.trans (a : Ext K β β' H H') (b : Ext K β' β2 H' H2) : Ext K β β2 H H2 := ⟨fun i p h => b.pre i p (a.pre i p h), fun p xs h => b.tup p xs (a.tup p xs h)⟩
mutual
theorem RV.mono (e : Ext K β β' H H') : ∀ {x : MV} {v : V}, RV K β H x v → RV K β' H' x v
  | .non, _, h => h
  | .bl _, _, h => h
  | .int _, _, h => h
  | .str _, _, h => h
  | .tup _, _, ⟨p, ys, e1, h1, h2⟩ => ⟨p, ys, e1, e.tup p ys h1, RVs.mono e h2⟩
  | .ref _, _, ⟨p, h1, h2⟩ => ⟨p, e.pre _ _ h1, h2⟩
  | .ty _, _, h => h
theorem RVs.mono (e : Ext K β β' H H') : ∀ {xs : List MV} {ys : List V}, RVs K β H xs ys → RVs K β' H' xs ys
  | [], _, h => h
  | _ :: _, _, ⟨y, r, e1, h1, h2⟩ => ⟨y, r, e1, RV.mono e h1, RVs.mono e h2⟩
end
theorem RVs.length : ∀ {xs : List MV} {ys : List V}, RVs K β H xs ys → ys.length = xs.length
  | [], _, h => by cases (show _ = _ from h); rfl
  | _ :: _, _, ⟨y, r, e1, h1, h2⟩ => by subst e1; simp [RVs.length h2]
theorem RVs.get : ∀ {xs : List MV} {ys : List V} {i : Nat} {x : MV}, RVs K β H xs ys → xs[i]? = some x → ∃ y, ys[i]? = some y ∧ RV K β H x y
  | [], _, i, x, _, h => by simp at h
  | _ :: _, _, 0, x, ⟨y, r, e1, h1, _⟩, h => by
    subst e1
    simp at h
    subst h
    exact ⟨y, rfl, h1⟩
  | _ :: _, _, i + 1, x, ⟨y, r, e1, _, h2⟩, h => by
    subst e1
    simpa using RVs.get h2 (by simpa using h)
theorem RVs.get' : ∀ {xs : List MV} {ys : List V} {i : Nat} {y : V}, RVs K β H xs ys → ys[i]? = some y → ∃ x, xs[i]? = some x ∧ RV K β H x y
  | [], _, i, y, h, q => by cases (show _ = _ from h); simp at q
  | x :: _, _, 0, y, ⟨y', r, e1, h1, _⟩, q => by
    subst e1
    simp at q
    subst q
    exact ⟨x, rfl, h1⟩
  | _ :: _, _, i + 1, y, ⟨y', r, e1, _, h2⟩, q => by
    subst e1
    simpa using RVs.get' h2 (by simpa using q)
theorem RVs.append : ∀ {xs zs : List MV} {ys ws : List V}, RVs K β H xs ys → RVs K β H zs ws → RVs K β H (xs ++ zs) (ys ++ ws)
  | [], _, _, _, h, q => by cases (show _ = _ from h); exact q
  | _ :: _, _, _, _, ⟨y, r, e1, h1, h2⟩, q => by subst e1; exact ⟨y, _, rfl, h1, RVs.append h2 q⟩
theorem RVs.one {x : MV} {v : V} (h : RV K β H x v) : RVs K β H [x] [v] := ⟨v, [], rfl, h, rfl⟩
theorem RVs.take : ∀ {xs : List MV} {ys : List V} (n : Nat), RVs K β H xs ys → RVs K β H (xs.take n) (ys.take n)
  | [], _, n, h => by cases (show _ = _ from h); simp [RVs]
  | _ :: _, _, 0, _ => by simp [RVs]
  | _ :: _, _, n + 1, ⟨y, r, e1, h1, h2⟩ => by subst e1; exact ⟨y, _, rfl, h1, RVs.take n h2⟩
theorem RVs.drop : ∀ {xs : List MV} {ys : List V} (n : Nat), RVs K β H xs ys → RVs K β H (xs.drop n) (ys.drop n)
  | [], _, n, h => by cases (show _ = _ from h); simp [RVs]
  | _ :: _, _, 0, h => h
  | _ :: _, _, n + 1, ⟨y, r, e1, h1, h2⟩ => by subst e1; exact RVs.drop n h2
theorem RVs.set : ∀ {xs : List MV} {ys : List V} {x : MV} {v : V} (n : Nat), RVs K β H xs ys → RV K β H x v → RVs K β H (xs.set n x) (ys.set n v)
  | [], _, _, _, n, h, _ => by cases (show _ = _ from h); simp [RVs]
  | _ :: _, _, x, v, 0, ⟨y, r, e1, _, h2⟩, q => by subst e1; exact ⟨v, _, rfl, q, h2⟩
  | _ :: _, _, x, v, n + 1, ⟨y, r, e1, h1, h2⟩, q => by subst e1; exact ⟨y, _, rfl, h1, RVs.set n h2 q⟩
theorem RVs.reverse : ∀ {xs : List MV} {ys : List V}, RVs K β H xs ys → RVs K β H xs.reverse ys.reverse
  | [], _, h => by cases (show _ = _ from h); simp [RVs]
  | _ :: _, _, ⟨y, r, e1, h1, h2⟩ => by
    subst e1
    rw [List.reverse_cons, List.reverse_cons]
    exact RVs.append (RVs.reverse h2) (RVs.one h1)
theorem RVs.flat : ∀ {xs : List MV} {ys : List V} (n : Nat), RVs K β H xs ys → RVs K β H (List.replicate n xs).flatten (List.replicate n ys).flatten
  | _, _, 0, _ => by simp [RVs]
  | _, _, n + 1, h => by
    rw [List.replicate_succ, List.replicate_succ, List.flatten_cons, List.flatten_cons]
    exact RVs.append h (RVs.flat n h)
theorem RVs.nil_iff {ys : List V} : RVs K β H [] ys ↔ ys = [] := Iff.rfl
theorem RVs.cons_iff {x : MV} {xs : List MV} {ys : List V} : RVs K β H (x :: xs) ys ↔ ∃ y r, ys = y :: r ∧ RV K β H x y ∧ RVs K β H xs r := Iff.rfl

/-- attributes -/
def RFs (K : PySem.W.Frag) (β : List Addr) (H : Hp) : List (Str × MV) → List (Str × V) → Prop
  | [], ys => ys = []
  | x :: xs, ys => ∃ y r, ys = (x.1, y) :: r ∧ RV K β H x.2 y ∧ RFs K β H xs r
theorem RFs.mono (e : Ext K β β' H H') : ∀ {xs : Mfs} {ys : List (Str × V)}, RFs K β H xs ys → RFs K β' H' xs ys
  | [], _, h => h
  | _ :: _, _, ⟨y, r, e1, h1, h2⟩ => ⟨y, r, e1, h1.mono e, RFs.mono e h2⟩
theorem RFs.length : ∀ {xs : Mfs} {ys : List (Str × V)}, RFs K β H xs ys → ys.length = xs.length
  | [], _, h => by cases (show _ = _ from h); rfl
  | _ :: _, _, ⟨y, r, e1, h1, h2⟩ => by subst e1; simp [RFs.length h2]
theorem RFs.lookup : ∀ {xs : Mfs} {ys : List (Str × V)} {f : Str} {x : MV}, RFs K β H xs ys → xs.lookup f = some x → ∃ y, ys.lookup f = some y ∧ RV K β H x y
  | [], _, _, _, _, h => by simp at h
  | (g, z) :: xs, _, f, x, ⟨y, r, e1, h1, h2⟩, h => by
    subst e1
    rw [List.lookup_cons] at h ⊢
    split at h
    · rename_i q
      cases h
      rw [q]
      exact ⟨y, rfl, h1⟩
    · rename_i q
      rw [q]
      exact RFs.lookup h2 h
theorem RFs.lookup_none : ∀ {xs : Mfs} {ys : List (Str × V)} {f : Str}, RFs K β H xs ys → xs.lookup f = none → ys.lookup f = none
  | [], _, _, h, _ => by cases (show _ = _ from h); rfl
  | (g, z) :: xs, _, f, ⟨y, r, e1, h1, h2⟩, h => by
    subst e1
    rw [List.lookup_cons] at h ⊢
    split at h
    · cases h
    · rename_i q
      rw [q]
      exact RFs.lookup_none h2 h
def mputF (f : Str) (v : MV) : Mfs → Mfs
  | [] => [(f, v)]
  | (g, x) :: r => if g = f then (g, v) :: r else (g, x) :: mputF f v r
theorem RFs.put {f : Str} {x : MV} {v : V} (hv : RV K β H x v) : ∀ {xs : Mfs} {ys : List (Str × V)}, RFs K β H xs ys → RFs K β H (mputF f x xs) (putF f v ys)
  | [], _, h => by cases (show _ = _ from h); exact ⟨v, [], rfl, hv, rfl⟩
  | (g, z) :: xs, _, ⟨y, r, e1, h1, h2⟩ => by
    subst e1
    show RFs K β H (if g = f then (g, x) :: xs else (g, z) :: mputF f x xs) (if g = f then (g, v) :: r else (g, y) :: putF f v r)
    split
    · exact ⟨v, r, rfl, hv, h2⟩
    · exact ⟨y, _, rfl, h1, RFs.put hv h2⟩
end

/-! ### the store -/
/-- a list that is read, never written: known to the object, or the module's -/
def RoL (K : PySem.W.Frag) (H : Hp) (a : Addr) (ys : List V) : Prop :=
  (∃ o, H a = some (.frz o (.lst ys))) ∨
    ∃ (o : Obj) (its : Array Value) (n : Nat), K.lookup a = some o ∧ o.cls = .type "list" ∧ o.dict = none ∧ o.data = .seq its n ∧ its.size ≤ sizeLine ∧ Vals ys its.toList
theorem RoL.sq {K : PySem.W.Frag} {H : Hp} {a : Addr} {ys : List V} (h : RoL K H a ys) : SqL K H a ys := by
  rcases h with h | h
  · exact .inl (.inr h)
  · exact .inr h
def RO (K : PySem.W.Frag) (cl : Nat → Addr) (β : List Addr) (H : Hp) (p : Addr) : MO → Prop
  | .lst xs => ∃ ys, H p = some (.lst ys) ∧ RVs K β H xs ys
  | .rol xs => ∃ ys, RoL K H p ys ∧ RVs K β H xs ys
  | .ins c fs => ∃ dx gs, H p = some (.ins (cl c) dx gs) ∧ H dx = some (.own p) ∧ RFs K β H fs gs
  | .dct _ => False
def MO.mut : MO → Bool
  | .rol _ => false
  | _ => true
structure RSt (K : PySem.W.Frag) (cl : Nat → Addr) (β : List Addr) (st : Mst) (H : Hp) : Prop where
  len : β.length = st.length
  at_ : ∀ (i : Nat) (o : MO), st[i]? = some o → ∃ p, β[i]? = some p ∧ RO K cl β H p o
  inj : ∀ (i j : Nat) (p : Addr) (o u : MO), β[i]? = some p → β[j]? = some p → st[i]? = some o → st[j]? = some u → o.mut = true → u.mut = true → i = j

section
variable {K : PySem.W.Frag} {cl : Nat → Addr} {β β' : List Addr} {H H' : Hp} {st : Mst}
/-- H' keeps of H what is not changed at q -/
theorem SqT.upd {q : Addr} {o : HO} (hq : H q = none ∨ Mut (H q)) {p : Addr} {xs : List V} (h : SqT K H p xs) : SqT K (upd H q o) p xs := by
  rcases h with (h | ⟨u, h⟩) | h
  · have : p ≠ q := by
      rintro rfl
      rcases hq with e | e
      · rw [e] at h; cases h
      · rw [h] at e; exact e
    exact .inl (.inl (by rw [upd_ne this]; exact h))
  · have : p ≠ q := by
      rintro rfl
      rcases hq with e | e
      · rw [e] at h; cases h
      · rw [h] at e; exact e
    exact .inl (.inr ⟨u, by rw [upd_ne this]; exact h⟩)
  · exact .inr h
theorem RoL.upd {q : Addr} {o : HO} (hq : H q = none ∨ Mut (H q)) {p : Addr} {xs : List V} (h : RoL K H p xs) : RoL K (upd H q o) p xs := by
  rcases h with ⟨u, h⟩ | h
  · have : p ≠ q := by
      rintro rfl
      rcases hq with e | e
      · rw [e] at h; cases h
      · rw [h] at e; exact e
    exact .inl ⟨u, by rw [upd_ne this]; exact h⟩
  · exact .inr h
theorem Ext.upd {q : Addr} {o : HO} (hq : H q = none ∨ Mut (H q)) : Ext K β β H (upd H q o) := ⟨fun _ _ h => h, fun _ _ h => SqT.upd hq h⟩
theorem RO.mut_at {p : Addr} {o : MO} (h : RO K cl β H p o) (m : o.mut = true) : Mut (H p) ∧ (∀ x, H p ≠ some (.own x)) := by
  cases o with
  | lst xs => obtain ⟨ys, e, _⟩ := h; rw [e]; exact ⟨trivial, fun x z => by cases z⟩
  | rol xs => cases m
  | ins c fs => obtain ⟨dx, gs, e, _⟩ := h; rw [e]; exact ⟨trivial, fun x z => by cases z⟩
  | dct kvs => exact h.elim
/-- an object stays where another address is changed -/
theorem RO.keep {q : Addr} {u : HO} (hq : H q = none ∨ Mut (H q)) (e : Ext K β β' H (L2.upd H q u)) {p : Addr} {o : MO} (ne : o.mut = true → p ≠ q) (h : RO K cl β H p o) : RO K cl β' (L2.upd H q u) p o := by
  cases o with
  | lst xs =>
    obtain ⟨ys, e1, e2⟩ := h
    exact ⟨ys, by rw [upd_ne (ne rfl)]; exact e1, e2.mono e⟩
  | rol xs =>
    obtain ⟨ys, e1, e2⟩ := h
    exact ⟨ys, e1.upd hq, e2.mono e⟩
  | ins c fs =>
    obtain ⟨dx, gs, e1, e2, e3⟩ := h
    refine ⟨dx, gs, by rw [upd_ne (ne rfl)]; exact e1, ?_, e3.mono e⟩
    have : dx ≠ q := by
      rintro rfl
      rcases hq with z | z
      · rw [z] at e2; cases e2
      · rw [e2] at z; exact z
    rw [upd_ne this]
    exact e2
  | dct kvs => exact h.elim
/-- something new that is no object of the store (a tuple, an instance's dict) -/
theorem RSt.side {q : Addr} {u : HO} (R : RSt K cl β st H) (hq : H q = none) : RSt K cl β st (L2.upd H q u) := by
  refine ⟨R.len, fun i o h => ?_, R.inj⟩
  obtain ⟨p, h1, h2⟩ := R.at_ i o h
  refine ⟨p, h1, RO.keep (.inl hq) (.upd (.inl hq)) (fun m => ?_) h2⟩
  rintro rfl
  have := (h2.mut_at m).1
  rw [hq] at this
  exact this
theorem getElem?_snoc {α : Type} {l : List α} {a x : α} {i : Nat} (h : (l ++ [a])[i]? = some x) : l[i]? = some x ∨ (i = l.length ∧ x = a) := by
  by_cases hi : i < l.length
  · rw [List.getElem?_append_left hi] at h
    exact .inl h
  · have hi' : l.length ≤ i := by omega
    rw [List.getElem?_append_right hi'] at h
    have : i - l.length = 0 := by
      cases e : i - l.length with
      | zero => rfl
      | succ n => rw [e] at h; simp at h
    rw [this] at h
    simp at h
    exact .inr ⟨by omega, h.symm⟩
theorem Ext.snoc {q : Addr} {u : HO} (hq : H q = none) : Ext K β (β ++ [q]) H (L2.upd H q u) :=
  ⟨fun i p h => by rw [List.getElem?_append_left (List.getElem?_eq_some_iff.mp h).1]; exact h, fun _ _ h => SqT.upd (.inl hq) h⟩
/-- a new object of the store -/
theorem RSt.snoc {q : Addr} {u : HO} {o : MO} (R : RSt K cl β st H) (hq : H q = none) (h : RO K cl (β ++ [q]) (L2.upd H q u) q o) : RSt K cl (β ++ [q]) (st ++ [o]) (L2.upd H q u) := by
  have ne : ∀ (i : Nat) (p : Addr) (o : MO), β[i]? = some p → st[i]? = some o → o.mut = true → p ≠ q := fun i p o e1 e2 m => by
    obtain ⟨p', h1, h2⟩ := R.at_ i o e2
    rw [e1] at h1
    cases h1
    rintro rfl
    have := (h2.mut_at m).1
    rw [hq] at this
    exact this
  refine ⟨by simp [R.len], fun i v hv => ?_, fun i j p v w h1 h2 h3 h4 m1 m2 => ?_⟩
  · rcases getElem?_snoc hv with hv | ⟨rfl, rfl⟩
    · obtain ⟨p, h1, h2⟩ := R.at_ i v hv
      exact ⟨p, (Ext.snoc (K := K) (u := u) hq).pre _ _ h1, RO.keep (.inl hq) (.snoc hq) (ne i p v h1 hv) h2⟩
    · exact ⟨q, by rw [← R.len]; simp, h⟩
  · rcases getElem?_snoc h1 with h1' | ⟨e1, e1'⟩ <;> rcases getElem?_snoc h2 with h2' | ⟨e2, e2'⟩
    · have l1 := (List.getElem?_eq_some_iff.mp h1').1
      have l2 := (List.getElem?_eq_some_iff.mp h2').1
      rw [List.getElem?_append_left (by rw [← R.len]; exact l1)] at h3
      rw [List.getElem?_append_left (by rw [← R.len]; exact l2)] at h4
      exact R.inj i j p v w h1' h2' h3 h4 m1 m2
    · have l1 := (List.getElem?_eq_some_iff.mp h1').1
      rw [List.getElem?_append_left (by rw [← R.len]; exact l1)] at h3
      exact absurd e2' (ne i p v h1' h3 m1)
    · have l2 := (List.getElem?_eq_some_iff.mp h2').1
      rw [List.getElem?_append_left (by rw [← R.len]; exact l2)] at h4
      exact absurd e1' (ne j p w h2' h4 m2)
    · omega
/-- an object of the store is changed -/
theorem RSt.set {a : Nat} {q : Addr} {u : HO} {o o' : MO} (R : RSt K cl β st H) (ha : β[a]? = some q) (ho : st[a]? = some o) (m : o.mut = true) (m' : o'.mut = true) (h : RO K cl β (L2.upd H q u) q o') : RSt K cl β (st.set a o') (L2.upd H q u) := by
  obtain ⟨q', h1, h2⟩ := R.at_ a o ho
  rw [ha] at h1
  cases h1
  have hm := h2.mut_at m
  have al := (List.getElem?_eq_some_iff.mp ho).1
  refine ⟨by simp [R.len], fun i v hv => ?_, fun i j p v w h1 h2 h3 h4 m1 m2 => ?_⟩
  · by_cases hi : i = a
    · subst hi
      rw [List.getElem?_set_self al] at hv
      cases hv
      exact ⟨q, ha, h⟩
    · rw [List.getElem?_set_ne (fun z => hi z.symm)] at hv
      obtain ⟨p, e1, e2⟩ := R.at_ i v hv
      refine ⟨p, e1, RO.keep (.inr hm.1) (.upd (.inr hm.1)) (fun mv => ?_) e2⟩
      rintro rfl
      exact hi (R.inj i a p v o e1 ha hv ho mv m)
  · have old : ∀ (k : Nat) (z : MO), (st.set a o')[k]? = some z → z.mut = true → ∃ y, st[k]? = some y ∧ y.mut = true := fun k z hz mz => by
      by_cases hk : k = a
      · subst hk
        exact ⟨o, ho, m⟩
      · rw [List.getElem?_set_ne (fun z => hk z.symm)] at hz
        exact ⟨z, hz, mz⟩
    obtain ⟨v', x1, x2⟩ := old i v h3 m1
    obtain ⟨w', y1, y2⟩ := old j w h4 m2
    exact R.inj i j p v' w' h1 h2 x1 y1 x2 y2
theorem RSt.get {a : Nat} {q : Addr} {o : MO} (R : RSt K cl β st H) (ha : β[a]? = some q) (ho : st[a]? = some o) : RO K cl β H q o := by
  obtain ⟨p, h1, h2⟩ := R.at_ a o ho
  rw [ha] at h1
  cases h1
  exact h2
end

/-! ### the names -/
structure REnv (K : PySem.W.Frag) (β : List Addr) (H : Hp) (env : Env) (σ : L2.St) : Prop where
  len : env.length = σ.length
  at_ : ∀ (i : Nat) (v : MV), env[i]? = some (some v) → ∃ w, σ[i]? = some (some w) ∧ RV K β H v w
section
variable {K : PySem.W.Frag} {cl : Nat → Addr} {β β' : List Addr} {H H' : Hp} {env : Env} {σ : L2.St}
theorem REnv.mono (e : Ext K β β' H H') (r : REnv K β H env σ) : REnv K β' H' env σ := ⟨r.len, fun i v h => let ⟨w, h1, h2⟩ := r.at_ i v h; ⟨w, h1, h2.mono e⟩⟩
theorem REnv.set {i : Nat} {v : MV} {w : V} (r : REnv K β H env σ) (h : RV K β H v w) : REnv K β H (env.set i (some v)) (σ.set i (some w)) := by
  refine ⟨by simp [r.len], fun j x hx => ?_⟩
  by_cases hj : i = j
  · subst hj
    by_cases hi : i < env.length
    · rw [List.getElem?_set_self hi] at hx
      cases hx
      exact ⟨w, List.getElem?_set_self (by rw [← r.len]; exact hi), h⟩
    · rw [List.getElem?_eq_none (by rw [List.length_set]; omega)] at hx
      cases hx
  · rw [List.getElem?_set_ne hj] at hx
    rw [List.getElem?_set_ne hj]
    exact r.at_ j x hx
end

/-! ### an end, on both sides -/
section
variable {α γ : Type}
def Fin (K : PySem.W.Frag) (cl : Nat → Addr) (β : List Addr) (H : Hp) (r : Res α) (k : α → Mst → List Addr → Hp → Prop) (ke : Nat → Mfs → Mst → List Addr → Hp → Prop) : Prop :=
  match r with
  | .ok a st => ∀ β' H', Ext K β β' H H' → RSt K cl β' st H' → k a st β' H'
  | .ex c fs st => ∀ β' H', Ext K β β' H H' → RSt K cl β' st H' → ke c fs st β' H'
  | .bad => False
variable {K : PySem.W.Frag} {cl : Nat → Addr} {β β' : List Addr} {H H' : Hp} {r : Res α} {k k' : α → Mst → List Addr → Hp → Prop} {ke ke' : Nat → Mfs → Mst → List Addr → Hp → Prop}
theorem Fin.weak (e : Ext K β β' H H') (h : Fin K cl β H r k ke) : Fin K cl β' H' r k ke := by
  cases r with
  | ok a st => exact fun β2 H2 e2 => h β2 H2 (e.trans e2)
  | ex c fs st => exact fun β2 H2 e2 => h β2 H2 (e.trans e2)
  | bad => exact h
theorem Fin.imp (h : Fin K cl β H r k ke) (hk : ∀ a st β' H', Ext K β β' H H' → RSt K cl β' st H' → k a st β' H' → k' a st β' H') (he : ∀ c fs st β' H', Ext K β β' H H' → RSt K cl β' st H' → ke c fs st β' H' → ke' c fs st β' H') : Fin K cl β H r k' ke' := by
  cases r with
  | ok a st => exact fun β2 H2 e2 r2 => hk _ _ _ _ e2 r2 (h β2 H2 e2 r2)
  | ex c fs st => exact fun β2 H2 e2 r2 => he _ _ _ _ _ e2 r2 (h β2 H2 e2 r2)
  | bad => exact h
theorem Fin.bind {r : Res α} {f : α → Mst → Res γ} {k : γ → Mst → List Addr → Hp → Prop} (h : Fin K cl β H (r.bind f) k ke) : Fin K cl β H r (fun a st β' H' => Fin K cl β' H' (f a st) k ke) ke := by
  cases r with
  | ok a st => exact fun β2 H2 e2 _ => Fin.weak e2 h
  | ex c fs st => exact h
  | bad => exact h
theorem Fin.here {a : α} {st : Mst} (h : Fin K cl β H (.ok a st) k ke) (R : RSt K cl β st H) : k a st β H := h β H .refl R
theorem Fin.at {a : α} {st : Mst} (h : Fin K cl β H (.ok a st) k ke) (e : Ext K β β' H H') (R : RSt K cl β' st H') : k a st β' H' := h β' H' e R
end
end BH

set_option Elab.async false
set_option linter.all false
set_option maxRecDepth 100000
set_option autoImplicit false
set_option maxHeartbeats 1000000
namespace BH
open PySem PySem.Spec PyProof.Rows L2

theorem PE.weaken {X : Cx} {e : Expr} {t t' : TE} (h : PE X e t) (i : ∀ σ H Q, t' σ H Q → t σ H Q) : PE X e t' := ⟨fun pins s σ H Q I hw => h.run pins s σ H Q I (i _ _ _ hw)⟩
theorem PT.weaken {X : Cx} {e : Expr} {t t' : TT} (h : PT X e t) (i : ∀ σ H Q, t' σ H Q → t σ H Q) : PT X e t' := ⟨fun pins s σ H Q I hw => h.run pins s σ H Q I (i _ _ _ hw)⟩
theorem OpR.weaken {X : Cx} {f : Value → Value → Sem Value} {r r' : R2} (h : OpR X f r) (i : ∀ x y H Q, r' x y H Q → r x y H Q) : OpR X f r' := fun pins s σ H x y v u Q I rx ry hw => h pins s σ H x y v u Q I rx ry (i _ _ _ _ hw)

/-! ### readings -/
section
variable (K : PySem.W.Frag) (cl : Nat → Addr)
/-- what is known of an exception: its own dict -/
def RX (β : List Addr) (H : Hp) (fs : Mfs) : Option Addr → Prop
  | none => fs = []
  | some p => ∃ gs, H p = some (.xd gs) ∧ RFs K β H fs gs
def kV (Q : VK) : MV → Mst → List Addr → Hp → Prop := fun v _ β' H' => ∀ w, RV K β' H' v w → Q w H'
def kX (W : WX) (σ : L2.St) : Nat → Mfs → Mst → List Addr → Hp → Prop := fun c fs _ β' H' => ∀ d, RX K β' H' fs d → W (.ref (cl c)) d σ H'
def kNo : Nat → Mfs → Mst → List Addr → Hp → Prop := fun _ _ _ _ _ => False
def tM (W : WX) (m : ME) : TE := fun σ H Q => ∃ β env st, REnv K β H env σ ∧ RSt K cl β st H ∧ Fin K cl β H (m env st) (kV K Q) (kX K cl W σ)
def rG2 (g : MV → MV → M MV) : R2 := fun x y H Q => ∃ β u v st, RV K β H u x ∧ RV K β H v y ∧ RSt K cl β st H ∧ Fin K cl β H (g u v st) (kV K Q) kNo
def rG1 (g : MV → M MV) : V → Hp → VK → Prop := fun x H Q => ∃ β u st, RV K β H u x ∧ RSt K cl β st H ∧ Fin K cl β H (g u st) (kV K Q) kNo
def rGs (g : List MV → M MV) : List V → Hp → VK → Prop := fun xs H Q => ∃ β us st, RVs K β H us xs ∧ RSt K cl β st H ∧ Fin K cl β H (g us st) (kV K Q) kNo
/-- a test -/
abbrev MT := Env → M Bool
def tMT (W : WX) (m : MT) : TT := fun σ H Q => ∃ β env st, REnv K β H env σ ∧ RSt K cl β st H ∧ Fin K cl β H (m env st) (fun b _ _ H' => Q b H') (kX K cl W σ)
abbrev MA := Env → M (List MV)
def tMA (W : WX) (m : MA) : TA := fun σ H Q => ∃ β env st, REnv K β H env σ ∧ RSt K cl β st H ∧ Fin K cl β H (m env st) (fun vs _ β' H' => ∀ ws, RVs K β' H' vs ws → Q ws H') (kX K cl W σ)
end
def SE (X : Cx) (cl : Nat → Addr) (W : WX) (e : Expr) (m : ME) : Prop := PE X e (tM X.K cl W m)
def ST (X : Cx) (cl : Nat → Addr) (W : WX) (e : Expr) (m : MT) : Prop := PT X e (tMT X.K cl W m)
def SA (X : Cx) (cl : Nat → Addr) (W : WX) (es : List Expr) (m : MA) : Prop := PA X es (tMA X.K cl W m)
structure OpG (X : Cx) (cl : Nat → Addr) (f : Value → Value → Sem Value) (g : MV → MV → M MV) : Prop where
  run : OpR X f (rG2 X.K cl g)
  nx : ∀ u v st c fs st', g u v st ≠ .ex c fs st'
structure CallG (X : Cx) (cl : Nat → Addr) (f : Value) (g : List MV → M MV) : Prop where
  run : CallR X f (rGs X.K cl g)
  nx : ∀ us st c fs st', g us st ≠ .ex c fs st'

section
variable {K : PySem.W.Frag} {cl : Nat → Addr} {β : List Addr} {H : Hp} {st : Mst} {Q : VK} {ke : Nat → Mfs → Mst → List Addr → Hp → Prop}
theorem fin_val {v : MV} {w : V} (F : Fin K cl β H (.ok v st) (kV K Q) ke) (R : RSt K cl β st H) (h : RV K β H v w) : Q w H := F.here R w h
theorem fin_tup {zs : List MV} {ys : List V} {p : Addr} (F : Fin K cl β H (.ok (.tup zs) st) (kV K Q) ke) (R : RSt K cl β st H) (h : RVs K β H zs ys) (hp : H p = none) : Q (.ref p) (upd H p (.tup ys)) :=
  F.at (.upd (.inl hp)) (R.side hp) _ ⟨p, ys, rfl, SqT.of upd_same, h.mono (.upd (.inl hp))⟩
theorem fin_lst {zs : List MV} {ys : List V} {p : Addr} (F : Fin K cl β H (.ok (.ref st.length) (st ++ [.lst zs])) (kV K Q) ke) (R : RSt K cl β st H) (h : RVs K β H zs ys) (hp : H p = none) : Q (.ref p) (upd H p (.lst ys)) :=
  F.at (.snoc hp) (R.snoc hp ⟨ys, upd_same, h.mono (.snoc hp)⟩) _ ⟨p, by rw [← R.len]; simp, rfl⟩
theorem fin_set {a : Nat} {q : Addr} {v : MV} {w : V} {o : MO} {zs : List MV} {ys : List V} (F : Fin K cl β H (.ok v (st.set a (.lst zs))) (kV K Q) ke) (R : RSt K cl β st H) (ha : β[a]? = some q) (ho : st[a]? = some o) (m : o.mut = true) (h : RVs K β H zs ys) (hv : RV K β H v w) : Q w (upd H q (.lst ys)) := by
  have hm : Mut (H q) := ((R.get ha ho).mut_at m).1
  exact F.at (.upd (.inr hm)) (R.set ha ho m rfl ⟨ys, upd_same, h.mono (.upd (.inr hm))⟩) _ (hv.mono (.upd (.inr hm)))
theorem RV.ref_of {a : Nat} {x : V} (h : RV K β H (.ref a) x) : ∃ p, β[a]? = some p ∧ x = .ref p := h
theorem RV.tup_of {zs : List MV} {x : V} (h : RV K β H (.tup zs) x) : ∃ p ys, x = .ref p ∧ SqT K H p ys ∧ RVs K β H zs ys := h
end

/-! ### plain machine: small pieces -/
def getO : Option (Option MV) → M MV
  | some (some v) => .ok v
  | _ => fun _ => .bad
@[simp] theorem getO_some (v : MV) (st : Mst) : getO (some (some v)) st = .ok v st := rfl
def mVar (i : Nat) : ME := fun env => getO env[i]?
def mC (v : MV) : ME := fun _ st => .ok v st
def mBin (g : MV → MV → M MV) (a b : ME) : ME := fun env st => (a env st).bind fun x s1 => (b env s1).bind fun y s2 => g x y s2
def mUn (g : MV → M MV) (a : ME) : ME := fun env st => (a env st).bind fun x s1 => g x s1
def toB : MV → M Bool
  | .bl b, st => .ok b st
  | _, _ => .bad
@[simp] theorem toB_bl (b : Bool) (st : Mst) : toB (.bl b) st = .ok b st := rfl
def mTest (a : ME) : MT := fun env st => (a env st).bind toB
def mNil : MA := fun _ st => .ok [] st
def mCons (a : ME) (r : MA) : MA := fun env st => (a env st).bind fun x s1 => (r env s1).bind fun xs s2 => .ok (x :: xs) s2
def mTup (r : MA) : ME := fun env st => (r env st).bind fun xs s1 => if xs.length ≤ 16777216 then .ok (.tup xs) s1 else .bad
def newL (xs : List MV) : M MV := fun st => if xs.length ≤ 16777216 then .ok (.ref st.length) (st ++ [.lst xs]) else .bad
def mLst (r : MA) : ME := fun env st => (r env st).bind fun xs s1 => newL xs s1
def mCallB (g : List MV → M MV) (r : MA) : ME := fun env st => (r env st).bind g
def mAnd (a b : MT) : MT := fun env st => (a env st).bind fun c s1 => if c = true then b env s1 else .ok false s1
def mOr (a b : MT) : MT := fun env st => (a env st).bind fun c s1 => if c = true then .ok true s1 else b env s1
def mNot (a : MT) : MT := fun env st => (a env st).bind fun c s1 => .ok (!c) s1
def mIf (c : MT) (a b : ME) : ME := fun env st => (c env st).bind fun k s1 => if k = true then a env s1 else b env s1
/-- a test as a value (a bool) -/
def mTV (a : MT) : ME := fun env st => (a env st).bind fun c s1 => .ok (.bl c) s1

section
variable {X : Cx} {cl : Nat → Addr} {W : WX} {e a b : Expr} {m ma mb : ME} {pos : Pos}

theorem se_var (i : Nat) {x : Str} {pos : Pos} (hN : X.N[i]? = some x := by rfl) (hv : Vis X.env.scope x := by first | exact Or.inl rfl | exact Or.inr (Or.inl rfl) | exact Or.inr (Or.inr rfl)) (hd : (x == ("__debug__" : Str)) = false := by decide)
    (hcd : (x == ("__classdict__" : Str)) = false := by decide) : SE X cl W (.Name x pos) (mVar i) := by
  refine PE.weaken (pe_var hN hv hd hcd) fun σ H Q ⟨β, env, st, re, R, F⟩ => ?_
  unfold mVar at F
  cases h : env[i]? with
  | none => rw [h] at F; exact F.elim
  | some o =>
    cases o with
    | none => rw [h] at F; exact F.elim
    | some v =>
      rw [h] at F
      obtain ⟨w, h1, h2⟩ := re.at_ i v h
      exact ⟨w, h1, fin_val F R h2⟩
theorem se_int {i j pos} : SE X cl W (.Constant (.int i) j pos) (mC (.int i)) := PE.weaken pe_int fun σ H Q ⟨β, env, st, re, R, F⟩ => fin_val F R (show _ = _ from rfl)
theorem se_bl {i j pos} : SE X cl W (.Constant (.bool i) j pos) (mC (.bl i)) := PE.weaken pe_bl fun σ H Q ⟨β, env, st, re, R, F⟩ => fin_val F R (show _ = _ from rfl)
theorem se_str {i j pos} : SE X cl W (.Constant (.str i) j pos) (mC (.str i)) := PE.weaken pe_str fun σ H Q ⟨β, env, st, re, R, F⟩ => fin_val F R (show _ = _ from rfl)
theorem se_non {j pos} : SE X cl W (.Constant .none j pos) (mC .non) := PE.weaken pe_non fun σ H Q ⟨β, env, st, re, R, F⟩ => fin_val F R (show _ = _ from rfl)
/-- a module's constant: a scalar, or a tuple of the written part -/
def RK (K : PySem.W.Frag) (v : MV) (w : V) : Prop := ∀ β H, RV K β H v w
theorem se_glob {x : Str} {v : MV} {w : V} {u : Value} {pos : Pos} (hg : Gl X x) (hm : X.mg x = some u) (r : RelV w u) (h : RK X.K v w) (hd : (x == ("__debug__" : Str)) = false := by decide) : SE X cl W (.Name x pos) (mC v) :=
  PE.weaken (pe_glob hg hm r hd) fun σ H Q ⟨β, env, st, re, R, F⟩ => fin_val F R (h β H)

/-- code that no run comes to -/
theorem se_any {e : Expr} : SE X cl W e (fun _ _ => .bad) := ⟨fun pins s σ H Q I ⟨β, env, st, re, R, F⟩ => F.elim⟩


theorem fin_no {α : Type} {K : PySem.W.Frag} {β : List Addr} {H : Hp} {r : Res α} {k : α → Mst → List Addr → Hp → Prop} {ke ke' : Nat → Mfs → Mst → List Addr → Hp → Prop} (n : ∀ c fs st', r ≠ .ex c fs st') (F : Fin K cl β H r k ke) : Fin K cl β H r k ke' := by
  cases r with
  | ok v st => exact F
  | ex c fs st => exact absurd rfl (n c fs st)
  | bad => exact F.elim
theorem tM_bind {K : PySem.W.Frag} {α : Type} {ma : ME} {f : MV → M α} {β : List Addr} {env : Env} {st : Mst} {σ : L2.St} {H : Hp} {k : α → Mst → List Addr → Hp → Prop} (re : REnv K β H env σ) (R : RSt K cl β st H)
    (F : Fin K cl β H ((ma env st).bind f) k (kX K cl W σ)) {Q' : VK}
    (h : ∀ x w β' H' st', Ext K β β' H H' → RV K β' H' x w → REnv K β' H' env σ → RSt K cl β' st' H' → Fin K cl β' H' (f x st') k (kX K cl W σ) → Q' w H') : tM K cl W ma σ H Q' :=
  ⟨β, env, st, re, R, F.bind.imp (fun x st' β' H' e R' F' w rw => h x w β' H' st' e rw (re.mono e) R' F') fun c fs st' β' H' _ _ q => q⟩
theorem tMT_bind {K : PySem.W.Frag} {α : Type} {ma : MT} {f : Bool → M α} {β : List Addr} {env : Env} {st : Mst} {σ : L2.St} {H : Hp} {k : α → Mst → List Addr → Hp → Prop} (re : REnv K β H env σ) (R : RSt K cl β st H)
    (F : Fin K cl β H ((ma env st).bind f) k (kX K cl W σ)) {Q' : Bool → Hp → Prop}
    (h : ∀ x β' H' st', Ext K β β' H H' → REnv K β' H' env σ → RSt K cl β' st' H' → Fin K cl β' H' (f x st') k (kX K cl W σ) → Q' x H') : tMT K cl W ma σ H Q' :=
  ⟨β, env, st, re, R, F.bind.imp (fun x st' β' H' e R' F' => h x β' H' st' e (re.mono e) R' F') fun c fs st' β' H' _ _ q => q⟩
theorem tMA_bind {K : PySem.W.Frag} {α : Type} {ma : MA} {f : List MV → M α} {β : List Addr} {env : Env} {st : Mst} {σ : L2.St} {H : Hp} {k : α → Mst → List Addr → Hp → Prop} (re : REnv K β H env σ) (R : RSt K cl β st H)
    (F : Fin K cl β H ((ma env st).bind f) k (kX K cl W σ)) {Q' : List V → Hp → Prop}
    (h : ∀ xs ws β' H' st', Ext K β β' H H' → RVs K β' H' xs ws → REnv K β' H' env σ → RSt K cl β' st' H' → Fin K cl β' H' (f xs st') k (kX K cl W σ) → Q' ws H') : tMA K cl W ma σ H Q' :=
  ⟨β, env, st, re, R, F.bind.imp (fun x st' β' H' e R' F' w rw => h x w β' H' st' e rw (re.mono e) R' F') fun c fs st' β' H' _ _ q => q⟩

theorem se_op {op : Operator} {g : MV → MV → M MV} (ho : OpG X cl (binaryOp op) g) (ha : SE X cl W a ma) (hb : SE X cl W b mb) : SE X cl W (.BinOp a op b pos) (mBin g ma mb) := by
  refine PE.weaken (pe_op ho.run ha hb) fun σ H Q ⟨β, env, st, re, R, F⟩ => ?_
  refine tM_bind re R F fun x w β1 H1 st1 e1 rw re1 R1 F1 => ?_
  refine tM_bind re1 R1 F1 fun y z β2 H2 st2 e2 rz re2 R2 F2 => ?_
  exact ⟨β2, x, y, st2, rw.mono e2, rz, R2, fin_no (ho.nx _ _ _) F2⟩
theorem se_cmp {op : CmpOp} {g : MV → MV → M MV} (ho : OpG X cl (compareOp op) g) (ha : SE X cl W a ma) (hb : SE X cl W b mb) (hm : behindInMarks op b = false) : SE X cl W (.Compare a [op] [b] pos) (mBin g ma mb) := by
  refine PE.weaken (pe_cmpR ho.run ha hb hm) fun σ H Q ⟨β, env, st, re, R, F⟩ => ?_
  refine tM_bind re R F fun x w β1 H1 st1 e1 rw re1 R1 F1 => ?_
  refine tM_bind re1 R1 F1 fun y z β2 H2 st2 e2 rz re2 R2 F2 => ?_
  exact ⟨β2, x, y, st2, rw.mono e2, rz, R2, fin_no (ho.nx _ _ _) F2⟩
theorem st_cmp {op : CmpOp} {g : MV → MV → M MV} (ho : OpG X cl (compareOp op) g) (ha : SE X cl W a ma) (hb : SE X cl W b mb) (hm : behindInMarks op b = false) : ST X cl W (.Compare a [op] [b] pos) (mTest (mBin g ma mb)) := by
  refine PT.weaken (pt_cmpR ho.run ha hb hm) fun σ H Q ⟨β, env, st, re, R, F⟩ => ?_
  unfold mTest mBin at F
  have F' : Fin X.K cl β H ((ma env st).bind fun x s1 => ((mb env s1).bind fun y s2 => (g x y s2).bind toB)) (fun b _ _ H' => Q b H') (kX X.K cl W σ) := by
    cases h1 : ma env st with
    | ok x s1 =>
      rw [h1] at F
      simp only [Res.bind_ok] at F ⊢
      cases h2 : mb env s1 with
      | ok y s2 => rw [h2] at F; exact F
      | ex c fs s => rw [h2] at F; exact F
      | bad => rw [h2] at F; exact F
    | ex c fs s => rw [h1] at F; exact F
    | bad => rw [h1] at F; exact F
  refine tM_bind re R F' fun x w β1 H1 st1 e1 rw re1 R1 F1 => ?_
  refine tM_bind re1 R1 F1 fun y z β2 H2 st2 e2 rz re2 R2 F2 => ?_
  refine ⟨β2, x, y, st2, rw.mono e2, rz, R2, fin_no (ho.nx _ _ _) (F2.bind.imp (fun v st3 β3 H3 e3 R3 F3 w3 r3 => ?_) fun _ _ _ _ _ _ _ q => q)⟩
  cases v with
  | bl c =>
    cases (show w3 = .bl c from r3)
    exact ⟨c, rfl, F3.here R3⟩
  | _ => exact F3.elim
/-- a value's truth -/
def truM : MV → M Bool
  | .non, st => .ok false st
  | .bl b, st => .ok b st
  | .int i, st => .ok (i != 0) st
  | .str y, st => if y.length ≤ 16777216 then .ok ((y.length : Int) != 0) st else .bad
  | .tup xs, st => .ok (!xs.isEmpty) st
  | .ref a, st => match st[a]? with
    | some (.lst xs) => .ok (!xs.isEmpty) st
    | some (.rol xs) => .ok (!xs.isEmpty) st
    | _ => .bad
  | .ty _, _ => .bad
theorem truM_nx {v : MV} {st : Mst} {c fs st'} : truM v st ≠ .ex c fs st' := by
  intro h
  cases v <;> simp only [truM] at h <;> (try split at h) <;> cases h
theorem isEmpty_rvs {K : PySem.W.Frag} {β : List Addr} {H : Hp} {xs : List MV} {ys : List V} (h : RVs K β H xs ys) : ys.isEmpty = xs.isEmpty := by
  have := h.length
  cases xs <;> cases ys <;> simp_all
theorem truV_of {K : PySem.W.Frag} {β : List Addr} {H : Hp} {st : Mst} {v : MV} {w : V} {k : Bool → Mst → List Addr → Hp → Prop} {ke : Nat → Mfs → Mst → List Addr → Hp → Prop} (R : RSt K cl β st H) (r : RV K β H v w) (F : Fin K cl β H (truM v st) k ke) : ∃ b, TruV K w H b ∧ k b st β H := by
  cases v with
  | non => cases (show w = _ from r); exact ⟨_, rfl, F.here R⟩
  | bl b => cases (show w = _ from r); exact ⟨_, rfl, F.here R⟩
  | int b => cases (show w = _ from r); exact ⟨_, rfl, F.here R⟩
  | str y =>
    cases (show w = _ from r)
    simp only [truM] at F
    split at F
    · rename_i h
      exact ⟨_, ⟨by rw [sizeLine_eq]; exact h, rfl⟩, F.here R⟩
    · exact F.elim
  | tup xs =>
    obtain ⟨p, ys, rfl, hs, h⟩ := r
    exact ⟨_, .inr (.inl ⟨ys, hs, rfl⟩), by rw [isEmpty_rvs h]; exact F.here R⟩
  | ref a =>
    obtain ⟨p, ha, rfl⟩ := r
    simp only [truM] at F
    split at F
    · rename_i xs ho
      obtain ⟨ys, h1, h2⟩ := R.get ha ho
      exact ⟨_, .inl ⟨ys, SqL.of h1, rfl⟩, by rw [isEmpty_rvs h2]; exact F.here R⟩
    · rename_i xs ho
      obtain ⟨ys, h1, h2⟩ := R.get ha ho
      exact ⟨_, .inl ⟨ys, h1.sq, rfl⟩, by rw [isEmpty_rvs h2]; exact F.here R⟩
    · exact F.elim
  | ty n => exact F.elim
def mTru (a : ME) : MT := fun env st => (a env st).bind truM
theorem st_truth (ha : SE X cl W a ma) (he : ∀ whole, isTrue a X.env whole = (do let v ← whole; standAt a.pos; holding [v] (truthy v)) := by intro _; rfl) : ST X cl W a (mTru ma) := by
  refine PT.weaken (pt_truth ha he) fun σ H Q ⟨β, env, st, re, R, F⟩ => ?_
  refine tM_bind re R F fun x w β1 H1 st1 e1 rw re1 R1 F1 => ?_
  obtain ⟨b, h1, h2⟩ := truV_of R1 rw F1
  exact ⟨b, h1, h2⟩
theorem st_not {m : MT} (ha : ST X cl W a m) : ST X cl W (.UnaryOp .Not a pos) (mNot m) := by
  refine PT.weaken (pt_not ha) fun σ H Q ⟨β, env, st, re, R, F⟩ => ?_
  exact tMT_bind re R F fun x β1 H1 st1 e1 re1 R1 F1 => F1.here R1
def SW (X : Cx) (cl : Nat → Addr) (W : WX) (e : Expr) (m : MT) : Prop := PW X e (tMT X.K cl W m)
theorem PW.weaken {X : Cx} {e : Expr} {t t' : TT} (h : PW X e t) (i : ∀ σ H Q, t' σ H Q → t σ H Q) : PW X e t' := ⟨fun wh pins s σ H Q I hw => h.run wh pins s σ H Q I (i _ _ _ hw)⟩
theorem sw_and1 {m : MT} (ha : ST X cl W a m) : SW X cl W (.BoolOp .And [a] pos) m := pw_and1 ha
theorem sw_or1 {m : MT} (ha : ST X cl W a m) : SW X cl W (.BoolOp .Or [a] pos) m := pw_or1 ha
theorem sw_and {m mb : MT} {rest : List Expr} (ha : ST X cl W a m) (hb : SW X cl W (.BoolOp .And (b :: rest) pos) mb) : SW X cl W (.BoolOp .And (a :: b :: rest) pos) (mAnd m mb) := by
  refine PW.weaken (pw_and ha hb) fun σ H Q ⟨β, env, st, re, R, F⟩ => ?_
  refine tMT_bind re R F fun x β1 H1 st1 e1 re1 R1 F1 => ?_
  cases x with
  | true => rw [if_pos rfl] at F1 ⊢; exact ⟨β1, env, st1, re1, R1, F1⟩
  | false => rw [if_neg (by decide)] at F1 ⊢; exact F1.here R1
theorem sw_or {m mb : MT} {rest : List Expr} (ha : ST X cl W a m) (hb : SW X cl W (.BoolOp .Or (b :: rest) pos) mb) : SW X cl W (.BoolOp .Or (a :: b :: rest) pos) (mOr m mb) := by
  refine PW.weaken (pw_or ha hb) fun σ H Q ⟨β, env, st, re, R, F⟩ => ?_
  refine tMT_bind re R F fun x β1 H1 st1 e1 re1 R1 F1 => ?_
  cases x with
  | true => rw [if_pos rfl] at F1 ⊢; exact F1.here R1
  | false => rw [if_neg (by decide)] at F1 ⊢; exact ⟨β1, env, st1, re1, R1, F1⟩
theorem st_w {m : MT} (h : SW X cl W e m) : ST X cl W e m := h.pt
theorem se_ifExp {c : Expr} {m : MT} (hc : ST X cl W c m) (ha : SE X cl W a ma) (hb : SE X cl W b mb) : SE X cl W (.IfExp c a b pos) (mIf m ma mb) := by
  refine PE.weaken (pe_ifExp hc ha hb) fun σ H Q ⟨β, env, st, re, R, F⟩ => ?_
  refine tMT_bind re R F fun x β1 H1 st1 e1 re1 R1 F1 => ?_
  cases x with
  | true => rw [if_pos rfl] at F1 ⊢; exact ⟨β1, env, st1, re1, R1, F1⟩
  | false => rw [if_neg (by decide)] at F1 ⊢; exact ⟨β1, env, st1, re1, R1, F1⟩
/-- and, or, not as values of bools -/
def mAndV (a b : ME) : ME := fun env st => (a env st).bind fun v s1 => (toB v s1).bind fun c s2 => if c = true then b env s2 else .ok (.bl false) s2
def mOrV (a b : ME) : ME := fun env st => (a env st).bind fun v s1 => (toB v s1).bind fun c s2 => if c = true then .ok (.bl true) s2 else b env s2
def mNotV (a : ME) : ME := fun env st => (a env st).bind fun v s1 => (truM v s1).bind fun c s2 => .ok (.bl (!c)) s2
theorem se_one {op} (ha : SE X cl W a m) : SE X cl W (.BoolOp op [a] pos) m := pe_one ha
theorem se_and {rest : List Expr} (ha : SE X cl W a ma) (hb : SE X cl W (.BoolOp .And (b :: rest) pos) mb) : SE X cl W (.BoolOp .And (a :: b :: rest) pos) (mAndV ma mb) := by
  refine PE.weaken (pe_and ha hb) fun σ H Q ⟨β, env, st, re, R, F⟩ => ?_
  refine tM_bind re R F fun x w β1 H1 st1 e1 rw re1 R1 F1 => ?_
  cases x with
  | bl c =>
    cases (show w = .bl c from rw)
    refine ⟨c, rfl, ?_⟩
    simp only [toB_bl, Res.bind_ok] at F1
    cases c with
    | true => rw [if_pos rfl] at F1 ⊢; exact ⟨β1, env, st1, re1, R1, F1⟩
    | false => rw [if_neg (by decide)] at F1 ⊢; exact fin_val F1 R1 (show _ = _ from rfl)
  | _ => exact F1.elim
theorem se_or {rest : List Expr} (ha : SE X cl W a ma) (hb : SE X cl W (.BoolOp .Or (b :: rest) pos) mb) : SE X cl W (.BoolOp .Or (a :: b :: rest) pos) (mOrV ma mb) := by
  refine PE.weaken (pe_or ha hb) fun σ H Q ⟨β, env, st, re, R, F⟩ => ?_
  refine tM_bind re R F fun x w β1 H1 st1 e1 rw re1 R1 F1 => ?_
  cases x with
  | bl c =>
    cases (show w = .bl c from rw)
    refine ⟨c, rfl, ?_⟩
    simp only [toB_bl, Res.bind_ok] at F1
    cases c with
    | true => rw [if_pos rfl] at F1 ⊢; exact fin_val F1 R1 (show _ = _ from rfl)
    | false => rw [if_neg (by decide)] at F1 ⊢; exact ⟨β1, env, st1, re1, R1, F1⟩
  | _ => exact F1.elim
theorem se_not (ha : SE X cl W a ma) : SE X cl W (.UnaryOp .Not a pos) (mNotV ma) := by
  refine PE.weaken (pe_notT ha) fun σ H Q ⟨β, env, st, re, R, F⟩ => ?_
  refine tM_bind re R F fun x w β1 H1 st1 e1 rw re1 R1 F1 => ?_
  obtain ⟨b, h1, h2⟩ := truV_of R1 rw F1.bind
  exact ⟨b, h1, fin_val h2 R1 (show _ = _ from rfl)⟩

/-! ### arguments, displays, built-in calls -/
theorem PA.weaken {X : Cx} {es : List Expr} {t t' : TA} (h : PA X es t) (i : ∀ σ H Q, t' σ H Q → t σ H Q) : PA X es t' := ⟨fun pos pins s σ H Q I hw => h.run pos pins s σ H Q I (i _ _ _ hw)⟩
theorem sa_nil : SA X cl W [] mNil := PA.weaken pa_nil fun σ H Q ⟨β, env, st, re, R, F⟩ => F.here R [] rfl
theorem sa_cons {es : List Expr} {r : MA} (ha : SE X cl W e m) (hr : SA X cl W es r) (hs : starEach (e :: es) X.env = (false, eval e X.env) :: starEach es X.env := by rfl) : SA X cl W (e :: es) (mCons m r) := by
  refine PA.weaken (pa_cons ha hr hs) fun σ H Q ⟨β, env, st, re, R, F⟩ => ?_
  refine tM_bind re R F fun x w β1 H1 st1 e1 rw re1 R1 F1 => ?_
  refine tMA_bind re1 R1 F1 fun xs ws β2 H2 st2 e2 rs re2 R2 F2 => ?_
  exact F2.here R2 _ ⟨w, ws, rfl, rw.mono e2, rs⟩
theorem se_tup {es : List Expr} {r : MA} {x1} (h : SA X cl W es r) : SE X cl W (.Tuple es x1 pos) (mTup r) := by
  refine PE.weaken (pe_tup h) fun σ H Q ⟨β, env, st, re, R, F⟩ => ?_
  refine tMA_bind re R F fun xs ws β1 H1 st1 e1 rs re1 R1 F1 => ?_
  split at F1
  · rename_i h
    exact ⟨by rw [rs.length, sizeLine_eq]; exact h, fun p hp => fin_tup F1 R1 rs hp⟩
  · exact F1.elim
theorem se_lst {es : List Expr} {r : MA} (h : SA X cl W es r) : SE X cl W (.List es pos) (mLst r) := by
  refine PE.weaken (pe_lst h) fun σ H Q ⟨β, env, st, re, R, F⟩ => ?_
  refine tMA_bind re R F fun xs ws β1 H1 st1 e1 rs re1 R1 F1 => ?_
  unfold newL at F1
  split at F1
  · rename_i h
    exact ⟨by rw [rs.length, sizeLine_eq]; exact h, fun p hp => fin_lst F1 R1 rs hp⟩
  · exact F1.elim
theorem se_callB {x : Str} {p : Pos} {es : List Expr} {id : String} {g : List MV → M MV} {r : MA} (hc : CallG X cl (.builtin id) g) (hg : Gl X x) (hm : X.mg x = none) (hv : bootBuiltins x = some (.builtin id)) (ha : SA X cl W (e :: es) r) (hn : x ≠ "__name__" := by decide) (hdb : (x == ("__debug__" : Str)) = false := by decide)
    (he : starEach (e :: es) X.env = (false, eval e X.env) :: starEach es X.env := by rfl) (hpl : (backTo pos (starEach es X.env)).any (·.1) = false := by rfl) :
    SE X cl W (.Call (.Name x p) (e :: es) [] pos) (mCallB g r) := by
  refine PE.weaken (pe_callB hc.run hg hm hv ha hn hdb he hpl) fun σ H Q ⟨β, env, st, re, R, F⟩ => ?_
  refine tMA_bind re R F fun xs ws β1 H1 st1 e1 rs re1 R1 F1 => ?_
  exact ⟨β1, xs, st1, rs, R1, fin_no (hc.nx _ _) F1⟩
theorem se_callTy {x : Str} {p : Pos} {es : List Expr} {T : String} {g : List MV → M MV} {r : MA} (hc : CallG X cl (.type T) g) (hg : Gl X x) (hm : X.mg x = none) (hv : bootBuiltins x = some (.type T)) (ha : SA X cl W (e :: es) r) (hn : x ≠ "__name__" := by decide) (hdb : (x == ("__debug__" : Str)) = false := by decide)
    (he : starEach (e :: es) X.env = (false, eval e X.env) :: starEach es X.env := by rfl) (hpl : (backTo pos (starEach es X.env)).any (·.1) = false := by rfl) :
    SE X cl W (.Call (.Name x p) (e :: es) [] pos) (mCallB g r) := by
  refine PE.weaken (pe_callTy hc.run hg hm hv ha hn hdb he hpl) fun σ H Q ⟨β, env, st, re, R, F⟩ => ?_
  refine tMA_bind re R F fun xs ws β1 H1 st1 e1 rs re1 R1 F1 => ?_
  exact ⟨β1, xs, st1, rs, R1, fin_no (hc.nx _ _) F1⟩
end
end BH

set_option Elab.async false
set_option linter.all false
set_option maxRecDepth 100000
set_option autoImplicit false
set_option maxHeartbeats 1000000
/-! The operations of the plain machine and that the layer does them. -/
namespace BH
open PySem PySem.Spec PyProof.Rows L2

abbrev line : Nat := 16777216
theorem line_le {n : Nat} (h : n ≤ 16777216) : n ≤ sizeLine := by rw [sizeLine_eq]; exact h
theorem line_lt {n : Nat} (h : n < 16777216) : n < sizeLine := by rw [sizeLine_eq]; exact h

/-! ### + - * % // ** -/
def gAdd : MV → MV → M MV
  | .int i, .int j, st => .ok (.int (i + j)) st
  | .str a, .str b, st => if a.length + b.length ≤ 16777216 then .ok (.str (a ++ b)) st else .bad
  | .tup xs, .tup ys, st => if xs.length + ys.length ≤ 16777216 then .ok (.tup (xs ++ ys)) st else .bad
  | .ref a, .ref b, st => match st[a]?, st[b]? with
    | some (.lst xs), some (.lst ys) => newL (xs ++ ys) st
    | _, _ => .bad
  | _, _, _ => .bad
def gSub : MV → MV → M MV
  | .int i, .int j, st => .ok (.int (i - j)) st
  | _, _, _ => .bad
def small64 (i : Int) : Bool := decide (-(2 ^ 64) < i ∧ i < 2 ^ 64)
def gMul : MV → MV → M MV
  | .int i, .int j, st => if small64 i = true ∨ small64 j = true then .ok (.int (i * j)) st else .bad
  | .tup xs, .int k, st => if 0 ≤ k ∧ k ≤ 1000 ∧ xs.length = 1 then .ok (.tup (List.replicate k.toNat xs).flatten) st else .bad
  | .ref a, .int k, st => match st[a]? with
    | some (.lst xs) => if 0 ≤ k ∧ k ≤ 1000 ∧ xs.length ≤ 1000 then newL (List.replicate k.toNat xs).flatten st else .bad
    | _ => .bad
  | _, _, _ => .bad
def gMod : MV → MV → M MV
  | .int i, .int j, st => if 0 < j then .ok (.int (i % j)) st else .bad
  | _, _, _ => .bad
def gDiv : MV → MV → M MV
  | .int i, .int j, st => if 0 < j ∧ j < 1073741824 then .ok (.int (i / j)) st else .bad
  | _, _, _ => .bad
def gPow : MV → MV → M MV
  | .int i, .int j, st => if 0 ≤ j ∧ j ≤ 1000000 ∧ i.natAbs < 2 ^ 64 then .ok (.int (i ^ j.toNat)) st else .bad
  | _, _, _ => .bad
/-! ### comparisons -/
def gLt : MV → MV → M MV
  | .int i, .int j, st => .ok (.bl (decide (i < j))) st
  | _, _, _ => .bad
def gLe : MV → MV → M MV
  | .int i, .int j, st => .ok (.bl (decide (i ≤ j))) st
  | _, _, _ => .bad
def gGt : MV → MV → M MV
  | .int i, .int j, st => .ok (.bl (decide (j < i))) st
  | _, _, _ => .bad
def gGe : MV → MV → M MV
  | .int i, .int j, st => .ok (.bl (decide (j ≤ i))) st
  | _, _, _ => .bad
/-- data: none, bools, ints, texts, tuples and lists of such -/
def optAll {α γ : Type} (f : α → Option γ) : List α → Option (List γ)
  | [] => some []
  | x :: xs => match f x, optAll f xs with
    | some y, some ys => some (y :: ys)
    | _, _ => none
def dat (st : Mst) : Nat → MV → Option PyData
  | 0, _ => none
  | _ + 1, .non => some .none
  | _ + 1, .bl b => some (.bool b)
  | _ + 1, .int i => some (.int i)
  | _ + 1, .str x => if PyData.strOk x = true then some (.str x) else none
  | n + 1, .tup xs => (optAll (dat st n) xs).map .tuple
  | n + 1, .ref a => match st[a]? with
    | some (.lst xs) => (optAll (dat st n) xs).map .list
    | some (.rol xs) => (optAll (dat st n) xs).map .list
    | _ => none
  | _ + 1, .ty _ => none
def gEq (x y : MV) : M MV := fun st => match dat st 64 x, dat st 64 y with
  | some d, some e => .ok (.bl (PyData.eqv d e)) st
  | _, _ => .bad
def gNe (x y : MV) : M MV := fun st => match dat st 64 x, dat st 64 y with
  | some d, some e => .ok (.bl (!PyData.eqv d e)) st
  | _, _ => .bad
def mflat : MV → Bool
  | .non => true
  | .bl _ => true
  | .int _ => true
  | .str _ => true
  | _ => false
def meq : MV → MV → Bool
  | .non, .non => true
  | .bl a, .bl b => a == b
  | .bl a, .int b => (if a then 1 else 0) == b
  | .int a, .bl b => a == (if b then 1 else 0)
  | .int a, .int b => a == b
  | .str a, .str b => a == b
  | _, _ => false
def itemsOf (st : Mst) : MV → Option (List MV)
  | .tup xs => some xs
  | .ref a => match st[a]? with
    | some (.lst xs) => some xs
    | some (.rol xs) => some xs
    | _ => none
  | _ => none
def gIn (neg : Bool) (x y : MV) : M MV := fun st => match itemsOf st y with
  | some xs => if mflat x = true ∧ xs.all mflat = true then .ok (.bl (if neg then !xs.any (fun z => meq z x) else xs.any (fun z => meq z x))) st else .bad
  | none => match x, y with
    | .str a, .str b => .ok (.bl (if neg then !(!(Builtin.Str.occurrences b a 0 b.length 1).isEmpty) else !(Builtin.Str.occurrences b a 0 b.length 1).isEmpty)) st
    | _, _ => .bad
def gIs (neg : Bool) (x y : MV) : M MV := fun st => match y with
  | .non => .ok (.bl (match x with | .non => !neg | _ => neg)) st
  | _ => .bad

section
variable {K : PySem.W.Frag} {cl : Nat → Addr} {β : List Addr} {H : Hp} {st : Mst}
theorem RV.int_of {i : Int} {x : V} (h : RV K β H (.int i) x) : x = .int i := h
theorem RV.str_of {i : Str} {x : V} (h : RV K β H (.str i) x) : x = .str i := h
theorem RV.bl_of {i : Bool} {x : V} (h : RV K β H (.bl i) x) : x = .bl i := h
theorem items_sq (R : RSt K cl β st H) {v : MV} {w : V} {xs : List MV} (r : RV K β H v w) (h : itemsOf st v = some xs) : ∃ p ys, w = .ref p ∧ (SqL K H p ys ∨ SqT K H p ys) ∧ RVs K β H xs ys := by
  cases v with
  | tup zs =>
    cases h
    obtain ⟨p, ys, e, h1, h2⟩ := r
    exact ⟨p, ys, e, .inr h1, h2⟩
  | ref a =>
    obtain ⟨p, ha, rfl⟩ := r
    simp only [itemsOf] at h
    split at h
    · rename_i zs ho
      cases h
      obtain ⟨ys, h1, h2⟩ := R.get ha ho
      exact ⟨p, ys, rfl, .inl (SqL.of h1), h2⟩
    · rename_i zs ho
      cases h
      obtain ⟨ys, h1, h2⟩ := R.get ha ho
      exact ⟨p, ys, rfl, .inl h1.sq, h2⟩
    · cases h
  | _ => cases h
theorem optAll_mem {α γ : Type} {f : α → Option γ} : ∀ {xs : List α} {ys : List γ}, optAll f xs = some ys → Paired (fun x y => f x = some y) xs ys
  | [], _, h => by cases h; exact .nil
  | x :: xs, ys, h => by
    simp only [optAll] at h
    split at h
    · rename_i y ys' h1 h2
      cases h
      exact .cons h1 (optAll_mem h2)
    · cases h
mutual
theorem dat_dp (R : RSt K cl β st H) : ∀ (n : Nat) (v : MV) (d : PyData) (w : V), dat st n v = some d → RV K β H v w → Dp K H w d ∧ d.canLay0 = true ∧ d.depth ≤ n
  | 0, _, _, _, h, _ => by cases h
  | n + 1, .non, _, _, h, r => by cases h; cases (show _ = _ from r); exact ⟨.non, by simp [PyData.canLay0], by simp [PyData.depth]⟩
  | n + 1, .bl b, _, _, h, r => by cases h; cases (show _ = _ from r); exact ⟨.bl b, by simp [PyData.canLay0], by simp [PyData.depth]⟩
  | n + 1, .int b, _, _, h, r => by cases h; cases (show _ = _ from r); exact ⟨.int b, by simp [PyData.canLay0], by simp [PyData.depth]⟩
  | n + 1, .str b, _, _, h, r => by
    simp only [dat] at h
    split at h
    · rename_i ok
      cases h
      cases (show _ = _ from r)
      exact ⟨.str b, by simp [PyData.canLay0, ok], by simp [PyData.depth]⟩
    · cases h
  | n + 1, .tup xs, d, w, h, r => by
    simp only [dat, Option.map_eq_some_iff] at h
    obtain ⟨ds, h1, rfl⟩ := h
    obtain ⟨p, ys, rfl, hs, h2⟩ := r
    obtain ⟨q1, q2, q3⟩ := dat_dps R n xs ds ys (optAll_mem h1) h2
    exact ⟨.tup hs q1, by simp only [PyData.canLay0]; exact q2, by simp only [PyData.depth]; omega⟩
  | n + 1, .ref a, d, w, h, r => by
    obtain ⟨p, ha, rfl⟩ := r
    simp only [dat] at h
    split at h
    · rename_i zs ho
      obtain ⟨ds, h1, rfl⟩ := Option.map_eq_some_iff.mp h
      obtain ⟨ys, h3, h2⟩ := R.get ha ho
      obtain ⟨q1, q2, q3⟩ := dat_dps R n zs ds ys (optAll_mem h1) h2
      exact ⟨.lst (SqL.of h3) q1, by simp only [PyData.canLay0]; exact q2, by simp only [PyData.depth]; omega⟩
    · rename_i zs ho
      obtain ⟨ds, h1, rfl⟩ := Option.map_eq_some_iff.mp h
      obtain ⟨ys, h3, h2⟩ := R.get ha ho
      obtain ⟨q1, q2, q3⟩ := dat_dps R n zs ds ys (optAll_mem h1) h2
      exact ⟨.lst h3.sq q1, by simp only [PyData.canLay0]; exact q2, by simp only [PyData.depth]; omega⟩
    · cases h
  | n + 1, .ty _, _, _, h, _ => by cases h
  termination_by n _ => (n, 0)
theorem dat_dps (R : RSt K cl β st H) : ∀ (n : Nat) (xs : List MV) (ds : List PyData) (ys : List V), Paired (fun x y => dat st n x = some y) xs ds → RVs K β H xs ys → DpAll K H ys ds ∧ PyData.canLayAll0 ds = true ∧ PyData.depthAll ds ≤ n
  | n, [], ds, ys, h, r => by
    cases h
    cases (show _ = _ from r)
    exact ⟨.nil, by simp [PyData.canLayAll0], by simp [PyData.depthAll]⟩
  | n, x :: xs, ds, ys, h, r => by
    cases h with
    | cons h1 h2 =>
      obtain ⟨y, r', rfl, r1, r2⟩ := r
      obtain ⟨a1, a2, a3⟩ := dat_dp R n x _ y h1 r1
      obtain ⟨b1, b2, b3⟩ := dat_dps R n xs _ r' h2 r2
      exact ⟨.cons a1 b1, by simp [PyData.canLayAll0, a2, b2], by simp only [PyData.depthAll]; omega⟩
  termination_by n xs => (n, xs.length + 1)
end
theorem dat_ok (R : RSt K cl β st H) {v : MV} {d : PyData} {w : V} (h : dat st 64 v = some d) (r : RV K β H v w) : Dp K H w d ∧ SeqAt.shaped d = true := by
  obtain ⟨h1, h2, h3⟩ := dat_dp R 64 v d w h r
  exact ⟨h1, by unfold SeqAt.shaped; rw [h2]; simp; omega⟩
theorem flat_rv {x : MV} {v : V} (r : RV K β H x v) (h : mflat x = true) : flatV v = true := by
  cases x <;> first | (cases (show _ = _ from r); rfl) | cases h
theorem meq_rv {x z : MV} {v w : V} (r : RV K β H x v) (q : RV K β H z w) (hx : mflat x = true) (hz : mflat z = true) : eqV w v = meq z x := by
  cases x <;> first | (cases hx; done) | (cases (show _ = _ from r); cases z <;> first | (cases hz; done) | (cases (show _ = _ from q); rfl))
theorem flats_rv : ∀ {xs : List MV} {ys : List V}, RVs K β H xs ys → xs.all mflat = true → ys.all flatV = true
  | [], _, h, _ => by cases (show _ = _ from h); rfl
  | _ :: _, _, ⟨y, r, rfl, h1, h2⟩, h => by
    rw [List.all_cons, Bool.and_eq_true] at h ⊢
    exact ⟨flat_rv h1 h.1, flats_rv h2 h.2⟩
theorem any_rv {x : MV} {v : V} (r : RV K β H x v) (hx : mflat x = true) : ∀ {xs : List MV} {ys : List V}, RVs K β H xs ys → xs.all mflat = true → inV v ys = xs.any fun z => meq z x
  | [], _, h, _ => by cases (show _ = _ from h); rfl
  | _ :: _, _, ⟨y, r', rfl, h1, h2⟩, h => by
    rw [List.all_cons, Bool.and_eq_true] at h
    have ih := any_rv r hx h2 h.2
    unfold inV at ih ⊢
    rw [List.any_cons, List.any_cons, meq_rv r h1 hx h.1, ih]
end

section
variable {X : Cx} {cl : Nat → Addr}
theorem og_add : OpG X cl (binaryOp .Add) gAdd := by
  refine ⟨OpR.weaken (OpR.or op_add (OpR.or op_add_str (OpR.or op_catA op_cat))) fun x y H Q ⟨β, u, v, st, ru, rv, R, F⟩ => ?_, fun u v st c fs st' h => ?_⟩
  · cases u with
    | int i =>
      cases v with
      | int j => cases ru.int_of; cases rv.int_of; exact .inl ⟨i, j, rfl, rfl, fin_val F R (show _ = _ from rfl)⟩
      | _ => exact F.elim
    | str i =>
      cases v with
      | str j =>
        cases ru.str_of
        cases rv.str_of
        simp only [gAdd] at F
        split at F
        · rename_i h
          exact .inr (.inl ⟨i, j, rfl, rfl, line_le h, fin_val F R (show _ = _ from rfl)⟩)
        · exact F.elim
      | _ => exact F.elim
    | tup xs =>
      cases v with
      | tup ys =>
        obtain ⟨p, as, rfl, hp, h1⟩ := ru.tup_of
        obtain ⟨q, bs, rfl, hq, h2⟩ := rv.tup_of
        simp only [gAdd] at F
        split at F
        · rename_i h
          refine .inr (.inr (.inl ⟨p, q, as, bs, rfl, rfl, hp, hq, by rw [h1.length, h2.length]; exact line_le h, fun e => ?_, fun n e => ?_, fun n1 n2 z hz => ?_⟩))
          · subst e
            have e0 : xs = [] := by
              cases xs with
              | nil => rfl
              | cons a b => have := h1.length; simp at this
            subst e0
            exact fin_val F R ⟨q, bs, rfl, hq, h2⟩
          · subst e
            have e0 : ys = [] := by
              cases ys with
              | nil => rfl
              | cons a b => have := h2.length; simp at this
            subst e0
            exact fin_val F R ⟨p, as, rfl, hp, by simpa using h1⟩
          · exact fin_tup F R (h1.append h2) hz
        · exact F.elim
      | _ => exact F.elim
    | ref a =>
      cases v with
      | ref b =>
        obtain ⟨p, hp, rfl⟩ := ru.ref_of
        obtain ⟨q, hq, rfl⟩ := rv.ref_of
        simp only [gAdd] at F
        split at F
        · rename_i xs ys h1 h2
          obtain ⟨as, ha, ra⟩ := R.get hp h1
          obtain ⟨bs, hb, rb⟩ := R.get hq h2
          unfold newL at F
          split at F
          · rename_i hz
            exact .inr (.inr (.inr ⟨p, q, as, bs, rfl, rfl, ha, hb, by rw [ra.length, rb.length]; exact line_le (by simpa using hz), fun z nz => fin_lst F R (ra.append rb) nz⟩))
          · exact F.elim
        · exact F.elim
      | _ => exact F.elim
    | _ => exact F.elim
  · cases u <;> cases v <;> simp only [gAdd, newL] at h <;> (repeat' (first | (split at h) | cases h))
theorem og_sub : OpG X cl (binaryOp .Sub) gSub := by
  refine ⟨OpR.weaken op_sub fun x y H Q ⟨β, u, v, st, ru, rv, R, F⟩ => ?_, fun u v st c fs st' h => by cases u <;> cases v <;> cases h⟩
  cases u with
  | int i =>
    cases v with
    | int j => cases ru.int_of; cases rv.int_of; exact ⟨i, j, rfl, rfl, fin_val F R (show _ = _ from rfl)⟩
    | _ => exact F.elim
  | _ => exact F.elim
theorem og_mod : OpG X cl (binaryOp .Mod) gMod := by
  refine ⟨OpR.weaken op_mod fun x y H Q ⟨β, u, v, st, ru, rv, R, F⟩ => ?_, fun u v st c fs st' h => by cases u <;> cases v <;> simp only [gMod] at h <;> (repeat' (first | (split at h) | cases h))⟩
  cases u with
  | int i =>
    cases v with
    | int j =>
      cases ru.int_of; cases rv.int_of
      simp only [gMod] at F
      split at F
      · rename_i h
        exact ⟨i, j, rfl, rfl, h, fin_val F R (show _ = _ from rfl)⟩
      · exact F.elim
    | _ => exact F.elim
  | _ => exact F.elim
theorem og_div : OpG X cl (binaryOp .FloorDiv) gDiv := by
  refine ⟨OpR.weaken op_fdiv fun x y H Q ⟨β, u, v, st, ru, rv, R, F⟩ => ?_, fun u v st c fs st' h => by cases u <;> cases v <;> simp only [gDiv] at h <;> (repeat' (first | (split at h) | cases h))⟩
  cases u with
  | int i =>
    cases v with
    | int j =>
      cases ru.int_of; cases rv.int_of
      simp only [gDiv] at F
      split at F
      · rename_i h
        exact ⟨i, j, rfl, rfl, h, fin_val F R (show _ = _ from rfl)⟩
      · exact F.elim
    | _ => exact F.elim
  | _ => exact F.elim
theorem og_pow : OpG X cl (binaryOp .Pow) gPow := by
  refine ⟨OpR.weaken op_pow fun x y H Q ⟨β, u, v, st, ru, rv, R, F⟩ => ?_, fun u v st c fs st' h => by cases u <;> cases v <;> simp only [gPow] at h <;> (repeat' (first | (split at h) | cases h))⟩
  cases u with
  | int i =>
    cases v with
    | int j =>
      cases ru.int_of; cases rv.int_of
      simp only [gPow] at F
      split at F
      · rename_i h
        exact ⟨i, j, rfl, rfl, h, fin_val F R (show _ = _ from rfl)⟩
      · exact F.elim
    | _ => exact F.elim
  | _ => exact F.elim


/-! ### tuple * int: no or one time too -/
theorem tuple_mul1 (l : Addr) (items : Array Value) (n : Nat) (dd : Option Addr) (sl : Array (Option Value)) (u : Tok) :
    Meets (Builtin.«tuple.__mul__» ⟨[.ref l, .int 1 u], []⟩) (fun _ R s => s.heap.get? l = some { cls := .type "tuple", dict := dd, data := .seq items n, slots := sl } ∧ R (.ok (.ret (Value.ref l))) s) :=
  .of_wp fun prog w A R s h => by
    obtain ⟨hp, g, d, tk, os⟩ := s
    obtain ⟨hl, h⟩ := h
    have f1 := AutoSeq1.idx_int
    wp_walk using wpAny_loadPart' hl
    exact ⟨_, rfl, h⟩
theorem tuple_mul0 (l : Addr) (items : Array Value) (n : Nat) (dd : Option Addr) (sl : Array (Option Value)) (u : Tok) (c1 : (items.isEmpty || (0 : Int) == 1) = false) :
    Meets (Builtin.«tuple.__mul__» ⟨[.ref l, .int 0 u], []⟩) (fun _ R s => s.heap.get? l = some { cls := .type "tuple", dict := dd, data := .seq items n, slots := sl } ∧
      R (.ok (.ret (Value.ref s.heap.objs.size))) { s with heap := s.heap.push { cls := Value.type "tuple", data := Data.seq #[] }, toks := s.toks }) :=
  .of_wp fun prog w A R s h => by
    obtain ⟨hp, g, d, tk, os⟩ := s
    obtain ⟨hl, h⟩ := h
    have f1 := AutoSeq1.idx_int
    wp_walk using wpAny_loadPart' hl
    repeat (first
      | (refine wpAny_ite_false (decide_eq_false (by rw [c1]; exact Bool.false_ne_true)) ?_; wp_walk using wpAny_loadPart' hl))
    exact ⟨_, rfl, h⟩
theorem op_rep1 : OpR X (binaryOp .Mult) (fun x y H Q => ∃ l k a, x = .ref l ∧ y = .int k ∧ SqT X.K H l [a] ∧ ((k = 1 ∧ Q (.ref l) H) ∨ (k = 0 ∧ ∀ p, H p = none → Q (.ref p) (upd H p (.tup []))))) := by
  intro pins s σ H x y v u Q I rx ry h
  obtain ⟨l, k, a, rfl, rfl, hT, h⟩ := h
  cases rx
  obtain ⟨t, rfl⟩ := ry
  obtain ⟨its, r, ⟨⟨cls, dd, data, sl⟩, ho, hc, n, hd⟩, hs⟩ := I.tuple hT
  simp only at hc hd
  subst hc hd
  obtain ⟨u, rfl, ru⟩ := vals1 r
  rcases h with ⟨rfl, q⟩ | ⟨rfl, q⟩
  · exact wpAny_binaryOp_repeat_ref (T := "tuple") (U := "int") (by decide) ⟨_, ho, rfl⟩ (fun s' => typeIs_int s' 1 t) noFill_tuple_mul F.fills_int_mul F.slot_int_rmul repeat_tuple F.slot_int_index.lookup
      (call_meets F.slot_int_rmul (typeIs_int s 1 t) F.entry_int_rmul (F.args_int_rmul_2 _ _) (int_rmul_tuple 1 t l [u].toArray n dd sl)
        ⟨ho, rfl, ⟨_, ho, rfl⟩, call_meets F.slot_tuple_mul ⟨_, ho, rfl⟩ F.entry_tuple_mul (F.args_tuple_mul_2 _ _) (tuple_mul1 l [u].toArray n dd sl t) ⟨ho, ⟨.ref l, H, I, rfl, q⟩⟩⟩)
  · refine wpAny_binaryOp_repeat_ref (T := "tuple") (U := "int") (by decide) ⟨_, ho, rfl⟩ (fun s' => typeIs_int s' 0 t) noFill_tuple_mul F.fills_int_mul F.slot_int_rmul repeat_tuple F.slot_int_index.lookup
      (call_meets F.slot_int_rmul (typeIs_int s 0 t) F.entry_int_rmul (F.args_int_rmul_2 _ _) (int_rmul_tuple 0 t l [u].toArray n dd sl)
        ⟨ho, rfl, ⟨_, ho, rfl⟩, call_meets F.slot_tuple_mul ⟨_, ho, rfl⟩ F.entry_tuple_mul (F.args_tuple_mul_2 _ _) (tuple_mul0 l [u].toArray n dd sl t rfl) ⟨ho, ?_⟩⟩)
    refine ⟨.ref s.heap.objs.size, _, I.laid (t' := s.toks) (o := .tup []) (fun b ob q => Heap.get?_push_of_some _ q) (Nat.le_refl _) ?_, rfl, q _ (I.hok.fresh (Nat.le_refl _))⟩
    exact ⟨Nat.zero_le _, [], .nil, IsTup.new _ _⟩
theorem og_mul : OpG X cl (binaryOp .Mult) gMul := by
  refine ⟨OpR.weaken (OpR.or op_mul (OpR.or op_repT (OpR.or op_rep1 op_rep))) fun x y H Q ⟨β, u, v, st, ru, rv, R, F⟩ => ?_, fun u v st c fs st' h => ?_⟩
  · cases u with
    | int i =>
      cases v with
      | int j =>
        cases ru.int_of; cases rv.int_of
        simp only [gMul] at F
        split at F
        · rename_i h
          refine .inl ⟨i, j, rfl, rfl, ?_, fin_val F R (show _ = _ from rfl)⟩
          rcases h with h | h
          · exact .inl (of_decide_eq_true h)
          · exact .inr (of_decide_eq_true h)
        · exact F.elim
      | _ => exact F.elim
    | tup xs =>
      cases v with
      | int k =>
        obtain ⟨p, as, rfl, hp, h1⟩ := ru.tup_of
        cases rv.int_of
        simp only [gMul] at F
        split at F
        · rename_i h
          obtain ⟨h2, h3, h4⟩ := h
          have hl : as.length = 1 := by rw [h1.length, h4]
          obtain ⟨a, rfl⟩ : ∃ a, as = [a] := by
            cases as with
            | nil => simp at hl
            | cons a r =>
              cases r with
              | nil => exact ⟨a, rfl⟩
              | cons b r => simp at hl
          by_cases k2 : 2 ≤ k
          · refine .inr (.inl ⟨p, k, [a], rfl, rfl, hp, by simp, k2, h3, by simp, fun q hq => fin_tup F R (h1.flat _) hq⟩)
          · by_cases k1 : k = 1
            · subst k1
              refine .inr (.inr (.inl ⟨p, 1, a, rfl, rfl, hp, .inl ⟨rfl, fin_val F R ⟨p, [a], rfl, hp, ?_⟩⟩⟩))
              simpa using h1
            · have k0 : k = 0 := by omega
              subst k0
              exact .inr (.inr (.inl ⟨p, 0, a, rfl, rfl, hp, .inr ⟨rfl, fun q hq => fin_tup F R (by simp [RVs]) hq⟩⟩))
        · exact F.elim
      | _ => exact F.elim
    | ref a =>
      cases v with
      | int k =>
        obtain ⟨p, hp, rfl⟩ := ru.ref_of
        cases rv.int_of
        simp only [gMul] at F
        split at F
        · rename_i xs ho
          obtain ⟨as, ha, ra⟩ := R.get hp ho
          split at F
          · rename_i h
            obtain ⟨h2, h3, h4⟩ := h
            unfold newL at F
            split at F
            · rename_i hz
              refine .inr (.inr (.inr ⟨p, k, as, rfl, rfl, ha, by omega, by omega, ?_, fun z nz => fin_lst F R (ra.flat _) nz⟩))
              rw [ra.length]
              refine line_le ?_
              have a1 : xs.length * k.toNat ≤ 1000 * 1000 := Nat.mul_le_mul h4 (by omega)
              omega
            · exact F.elim
          · exact F.elim
        · exact F.elim
      | _ => exact F.elim
    | _ => exact F.elim
  · cases u <;> cases v <;> simp only [gMul, newL] at h <;> (repeat' (first | (split at h) | cases h))

/-! ### comparisons -/
theorem og_lt : OpG X cl (compareOp .Lt) gLt := by
  refine ⟨OpR.weaken op_lt fun x y H Q ⟨β, u, v, st, ru, rv, R, F⟩ => ?_, fun u v st c fs st' h => by cases u <;> cases v <;> cases h⟩
  cases u <;> cases v <;> first | (exact F.elim; done) | (cases ru.int_of; cases rv.int_of; exact ⟨_, _, rfl, rfl, fin_val F R (show _ = _ from rfl)⟩)
theorem og_le : OpG X cl (compareOp .LtE) gLe := by
  refine ⟨OpR.weaken op_le fun x y H Q ⟨β, u, v, st, ru, rv, R, F⟩ => ?_, fun u v st c fs st' h => by cases u <;> cases v <;> cases h⟩
  cases u <;> cases v <;> first | (exact F.elim; done) | (cases ru.int_of; cases rv.int_of; exact ⟨_, _, rfl, rfl, fin_val F R (show _ = _ from rfl)⟩)
theorem og_gt : OpG X cl (compareOp .Gt) gGt := by
  refine ⟨OpR.weaken op_gt fun x y H Q ⟨β, u, v, st, ru, rv, R, F⟩ => ?_, fun u v st c fs st' h => by cases u <;> cases v <;> cases h⟩
  cases u <;> cases v <;> first | (exact F.elim; done) | (cases ru.int_of; cases rv.int_of; exact ⟨_, _, rfl, rfl, fin_val F R (show _ = _ from rfl)⟩)
theorem og_ge : OpG X cl (compareOp .GtE) gGe := by
  refine ⟨OpR.weaken op_ge fun x y H Q ⟨β, u, v, st, ru, rv, R, F⟩ => ?_, fun u v st c fs st' h => by cases u <;> cases v <;> cases h⟩
  cases u <;> cases v <;> first | (exact F.elim; done) | (cases ru.int_of; cases rv.int_of; exact ⟨_, _, rfl, rfl, fin_val F R (show _ = _ from rfl)⟩)
theorem og_eq (hu : X.A.units + 64 < cLine) : OpG X cl (compareOp .Eq) gEq := by
  refine ⟨OpR.weaken (op_eqD hu) fun x y H Q ⟨β, u, v, st, ru, rv, R, F⟩ => ?_, fun u v st c fs st' h => by unfold gEq at h; split at h <;> cases h⟩
  unfold gEq at F
  split at F
  · rename_i d e h1 h2
    obtain ⟨a1, a2⟩ := dat_ok R h1 ru
    obtain ⟨b1, b2⟩ := dat_ok R h2 rv
    exact ⟨d, e, a1, b1, a2, b2, fin_val F R (show _ = _ from rfl)⟩
  · exact F.elim
theorem og_ne (hu : X.A.units + 64 < cLine) : OpG X cl (compareOp .NotEq) gNe := by
  refine ⟨OpR.weaken (op_neD hu) fun x y H Q ⟨β, u, v, st, ru, rv, R, F⟩ => ?_, fun u v st c fs st' h => by unfold gNe at h; split at h <;> cases h⟩
  unfold gNe at F
  split at F
  · rename_i d e h1 h2
    obtain ⟨a1, a2⟩ := dat_ok R h1 ru
    obtain ⟨b1, b2⟩ := dat_ok R h2 rv
    exact ⟨d, e, a1, b1, a2, b2, fin_val F R (show _ = _ from rfl)⟩
  · exact F.elim
theorem og_in : OpG X cl (compareOp .In) (gIn false) := by
  refine ⟨OpR.weaken (OpR.or op_in_seq op_in_str) fun x y H Q ⟨β, u, v, st, ru, rv, R, F⟩ => ?_, fun u v st c fs st' h => by unfold gIn at h; repeat' (first | (split at h) | cases h)⟩
  unfold gIn at F
  split at F
  · rename_i xs hx
    obtain ⟨p, ys, rfl, hs, h2⟩ := items_sq R rv hx
    split at F
    · rename_i hf
      refine .inl ⟨p, ys, rfl, hs, flat_rv ru hf.1, flats_rv h2 hf.2, ?_⟩
      rw [any_rv ru hf.1 h2 hf.2]
      exact fin_val F R (show _ = _ from rfl)
    · exact F.elim
  · split at F
    · cases ru.str_of; cases rv.str_of
      exact .inr ⟨_, _, rfl, rfl, fin_val F R (show _ = _ from rfl)⟩
    · exact F.elim
theorem og_notIn : OpG X cl (compareOp .NotIn) (gIn true) := by
  refine ⟨OpR.weaken (OpR.or op_notIn_seq op_notIn_str) fun x y H Q ⟨β, u, v, st, ru, rv, R, F⟩ => ?_, fun u v st c fs st' h => by unfold gIn at h; repeat' (first | (split at h) | cases h)⟩
  unfold gIn at F
  split at F
  · rename_i xs hx
    obtain ⟨p, ys, rfl, hs, h2⟩ := items_sq R rv hx
    split at F
    · rename_i hf
      refine .inl ⟨p, ys, rfl, hs, flat_rv ru hf.1, flats_rv h2 hf.2, ?_⟩
      rw [any_rv ru hf.1 h2 hf.2]
      exact fin_val F R (show _ = _ from rfl)
    · exact F.elim
  · split at F
    · cases ru.str_of; cases rv.str_of
      exact .inr ⟨_, _, rfl, rfl, fin_val F R (show _ = _ from rfl)⟩
    · exact F.elim
theorem non_iff {K : PySem.W.Frag} {β : List Addr} {H : Hp} {x : MV} {v : V} (r : RV K β H x v) : decide (v = .non) = (match x with | .non => true | _ => false) := by
  cases x with
  | tup xs => obtain ⟨p, ys, rfl, _⟩ := r; rfl
  | ref a => obtain ⟨p, _, rfl⟩ := r; rfl
  | _ => cases (show _ = _ from r); rfl
theorem og_is : OpG X cl (compareOp .Is) (gIs false) := by
  refine ⟨OpR.weaken op_isN fun x y H Q ⟨β, u, v, st, ru, rv, R, F⟩ => ?_, fun u v st c fs st' h => by cases v <;> cases h⟩
  cases v with
  | non =>
    cases (show _ = _ from rv)
    refine ⟨rfl, ?_⟩
    rw [non_iff ru]
    cases u <;> exact fin_val F R (show _ = _ from rfl)
  | _ => exact F.elim
theorem og_isNot : OpG X cl (compareOp .IsNot) (gIs true) := by
  refine ⟨OpR.weaken op_notN fun x y H Q ⟨β, u, v, st, ru, rv, R, F⟩ => ?_, fun u v st c fs st' h => by cases v <;> cases h⟩
  cases v with
  | non =>
    cases (show _ = _ from rv)
    refine ⟨rfl, ?_⟩
    rw [non_iff ru]
    cases u <;> exact fin_val F R (show _ = _ from rfl)
  | _ => exact F.elim
end
end BH

set_option Elab.async false
set_option linter.all false
set_option maxRecDepth 100000
set_option autoImplicit false
set_option maxHeartbeats 1000000
namespace BH
open PySem PySem.Spec PyProof.Rows L2

section
variable {X : Cx} {cl : Nat → Addr} {W : WX} {e a b c o : Expr} {m ma mb mc : ME} {pos : Pos}

/-! ### chains -/
def mChain (g g' : MV → MV → M MV) (a b c : ME) : ME := fun env st => (a env st).bind fun x s1 => (b env s1).bind fun y s2 => (g x y s2).bind fun z s3 => (toB z s3).bind fun k s4 =>
  if k = true then (c env s4).bind fun w s5 => g' y w s5 else .ok (.bl false) s4
theorem se_chain {op op' : CmpOp} {g g' : MV → MV → M MV} (ho : OpG X cl (compareOp op) g) (ho' : OpG X cl (compareOp op') g') (ha : SE X cl W a ma) (hb : SE X cl W b mb) (hc : SE X cl W c mc)
    (hm : lastMarks [op, op'] [b, c] = false := by with_unfolding_all rfl) : SE X cl W (.Compare a [op, op'] [b, c] pos) (mChain g g' ma mb mc) := by
  refine PE.weaken (pe_chain ho.run ho'.run ha hb hc hm) fun σ H Q ⟨β, env, st, re, R, F⟩ => ?_
  refine tM_bind re R F fun x w β1 H1 st1 e1 rw re1 R1 F1 => ?_
  refine tM_bind re1 R1 F1 fun y z β2 H2 st2 e2 rz re2 R2 F2 => ?_
  refine ⟨β2, x, y, st2, rw.mono e2, rz, R2, fin_no (ho.nx _ _ _) (F2.bind.imp (fun v st3 β3 H3 e3 R3 F3 w3 r3 => ?_) fun _ _ _ _ _ _ _ q => q)⟩
  cases v with
  | bl k =>
    cases (show w3 = .bl k from r3)
    simp only [toB_bl, Res.bind_ok] at F3
    refine ⟨k, rfl, ?_⟩
    cases k with
    | true =>
      rw [if_pos rfl] at F3 ⊢
      refine tM_bind (re2.mono e3) R3 F3 fun w' z' β4 H4 st4 e4 rz' re4 R4 F4 => ?_
      exact ⟨β4, y, w', st4, (rz.mono e3).mono e4, rz', R4, fin_no (ho'.nx _ _ _) F4⟩
    | false =>
      rw [if_neg (by decide)] at F3 ⊢
      exact fin_val F3 R3 (show _ = _ from rfl)
  | _ => exact F3.elim
theorem st_chain {op op' : CmpOp} {g g' : MV → MV → M MV} (ho : OpG X cl (compareOp op) g) (ho' : OpG X cl (compareOp op') g') (ha : SE X cl W a ma) (hb : SE X cl W b mb) (hc : SE X cl W c mc)
    (hm : lastMarks [op, op'] [b, c] = false := by with_unfolding_all rfl) : ST X cl W (.Compare a [op, op'] [b, c] pos) (mTest (mChain g g' ma mb mc)) := by
  refine PT.weaken (pt_chain ho.run ho'.run ha hb hc hm) fun σ H Q ⟨β, env, st, re, R, F⟩ => ?_
  have as1 : ∀ {α γ δ : Type} (r : Res α) (f : α → Mst → Res γ) (g : γ → Mst → Res δ), (r.bind f).bind g = r.bind fun x s => (f x s).bind g := fun r f g => by cases r <;> rfl
  unfold mTest mChain at F
  rw [as1] at F
  refine tM_bind re R F fun x w β1 H1 st1 e1 rw re1 R1 F1 => ?_
  rw [as1] at F1
  refine tM_bind re1 R1 F1 fun y z β2 H2 st2 e2 rz re2 R2 F2 => ?_
  rw [as1] at F2
  refine ⟨β2, x, y, st2, rw.mono e2, rz, R2, fin_no (ho.nx _ _ _) (F2.bind.imp (fun v st3 β3 H3 e3 R3 F3 w3 r3 => ?_) fun _ _ _ _ _ _ _ q => q)⟩
  cases v with
  | bl k =>
    cases (show w3 = .bl k from r3)
    simp only [toB_bl, Res.bind_ok] at F3
    refine ⟨k, rfl, ?_⟩
    cases k with
    | true =>
      rw [if_pos rfl] at F3 ⊢
      rw [as1] at F3
      refine tM_bind (re2.mono e3) R3 F3 fun w' z' β4 H4 st4 e4 rz' re4 R4 F4 => ?_
      refine ⟨β4, y, w', st4, (rz.mono e3).mono e4, rz', R4, fin_no (ho'.nx _ _ _) (F4.bind.imp (fun v5 st5 β5 H5 e5 R5 F5 w5 r5 => ?_) fun _ _ _ _ _ _ _ q => q)⟩
      cases v5 with
      | bl k5 =>
        cases (show w5 = .bl k5 from r5)
        exact ⟨k5, rfl, F5.here R5⟩
      | _ => exact F5.elim
    | false =>
      rw [if_neg (by decide)] at F3 ⊢
      exact ⟨false, rfl, F3.here R3⟩
  | _ => exact F3.elim

/-! ### places -/
def mixN (n : Nat) (i : Int) : Option Nat := if 0 ≤ i then (if i < n then some i.toNat else none) else if -(n : Int) ≤ i then some (i + n).toNat else none
def matI (xs : List MV) (i : Int) : Option MV := (mixN xs.length i).bind fun j => xs[j]?
def gIx : MV → MV → M MV
  | .str z, .int i, st => if z.length ≤ 16777216 then match (mixN z.cps.toList.length i).bind fun j => z.cps.toList[j]? with
    | some c => .ok (.str ⟨#[c]⟩) st
    | none => .bad
    else .bad
  | x, .int i, st => match itemsOf st x with
    | some xs => match matI xs i with
      | some v => .ok v st
      | none => .bad
    | none => .bad
  | _, _, _ => .bad
theorem mix_eq (n : Nat) (i : Int) : mixN n i = ixN n i := rfl
theorem matI_rv {K : PySem.W.Frag} {β : List Addr} {H : Hp} {xs : List MV} {ys : List V} {i : Int} {x : MV} (r : RVs K β H xs ys) (h : matI xs i = some x) : ∃ y, atI ys i = some y ∧ RV K β H x y := by
  unfold matI at h
  obtain ⟨j, h1, h2⟩ := Option.bind_eq_some_iff.mp h
  obtain ⟨y, h3, h4⟩ := r.get h2
  refine ⟨y, ?_, h4⟩
  unfold atI
  rw [r.length, ← mix_eq, h1]
  exact h3
theorem se_ix {ha' : PlainIx b} (ha : SE X cl W a ma) (hb : SE X cl W b mb) : SE X cl W (.Subscript a b pos) (mBin gIx ma mb) := by
  refine PE.weaken (pe_ix ix_seq ha hb ha') fun σ H Q ⟨β, env, st, re, R, F⟩ => ?_
  refine tM_bind re R F fun x w β1 H1 st1 e1 rw re1 R1 F1 => ?_
  refine tM_bind re1 R1 F1 fun y z β2 H2 st2 e2 rz re2 R2 F2 => ?_
  have rw2 := rw.mono e2
  cases y with
  | int i =>
    cases rz.int_of
    have go : ∀ xs, itemsOf st2 x = some xs → (match matI xs i with
      | some v => Res.ok v st2
      | none => .bad) = gIx x (.int i) st2 → rIx X.K w (.int i) H2 Q := by
      intro xs hx he
      rw [← he] at F2
      cases h : matI xs i with
      | none => rw [h] at F2; exact F2.elim
      | some v =>
        rw [h] at F2
        obtain ⟨p, ys, rfl, hs, h2⟩ := items_sq R2 rw2 hx
        obtain ⟨u, h3, h4⟩ := matI_rv h2 h
        rcases hs with hs | hs
        · exact .inl ⟨p, ys, i, u, rfl, rfl, hs, h3, fin_val F2 R2 h4⟩
        · exact .inr (.inl ⟨p, ys, i, u, rfl, rfl, hs, h3, fin_val F2 R2 h4⟩)
    cases x with
    | str s =>
      cases rw2.str_of
      simp only [gIx] at F2
      split at F2
      · rename_i hz
        split at F2
        · rename_i c hc
          refine .inr (.inr ⟨s, i, c, rfl, rfl, line_le hz, ?_, fin_val F2 R2 (show _ = _ from rfl)⟩)
          exact hc
        · exact F2.elim
      · exact F2.elim
    | tup xs => exact go xs rfl rfl
    | ref a =>
      cases h : itemsOf st2 (.ref a) with
      | some xs => exact go xs h (by simp only [gIx, h])
      | none => simp only [gIx, h] at F2; exact F2.elim
    | _ => exact F2.elim
  | _ => cases x <;> exact F2.elim

/-! ### slices -/
def mcut {α : Type} (xs : List α) (lo hi : Option Int) : List α := (xs.drop (HT.sIx xs.length 0 lo)).take (HT.sIx xs.length xs.length hi - HT.sIx xs.length 0 lo)
def gSl : MV → Option Int → Option Int → M MV
  | .tup xs, lo, hi, st => .ok (.tup (mcut xs lo hi)) st
  | .ref a, lo, hi, st => match st[a]? with
    | some (.lst xs) => .ok (.ref st.length) (st ++ [.lst (mcut xs lo hi)])
    | some (.rol xs) => .ok (.ref st.length) (st ++ [.lst (mcut xs lo hi)])
    | _ => .bad
  | _, _, _, _ => .bad
abbrev MP := Env → M (Option Int)
def mNoPart : MP := fun _ st => .ok none st
def mPart (a : ME) : MP := fun env st => (a env st).bind fun v s1 => match v with
  | .int i => .ok (some i) s1
  | _ => .bad
def mSl (a : ME) (l h : MP) : ME := fun env st => (a env st).bind fun x s1 => (l env s1).bind fun lo s2 => (h env s2).bind fun hi s3 => gSl x lo hi s3
def tMP (K : PySem.W.Frag) (cl : Nat → Addr) (W : WX) (m : MP) : TO := fun σ H Q => ∃ β env st, REnv K β H env σ ∧ RSt K cl β st H ∧ Fin K cl β H (m env st) (fun o _ _ H' => Q o H') (kX K cl W σ)
def SP' (X : Cx) (cl : Nat → Addr) (W : WX) (e : Option Expr) (m : MP) : Prop := PO X e (tMP X.K cl W m)
theorem PO.weaken {e : Option Expr} {t t' : TO} (h : PO X e t) (i : ∀ σ H Q, t' σ H Q → t σ H Q) : PO X e t' := ⟨fun pins s σ H Q I hw => h.run pins s σ H Q I (i _ _ _ hw)⟩
theorem sp_none : SP' X cl W none mNoPart := PO.weaken po_none fun σ H Q ⟨β, env, st, re, R, F⟩ => F.here R
theorem sp_some (h : SE X cl W e m) : SP' X cl W (some e) (mPart m) := by
  refine PO.weaken (po_some h) fun σ H Q ⟨β, env, st, re, R, F⟩ => ?_
  refine tM_bind re R F fun x w β1 H1 st1 e1 rw re1 R1 F1 => ?_
  cases x with
  | int i => cases rw.int_of; exact ⟨i, rfl, F1.here R1⟩
  | _ => exact F1.elim
theorem tMP_bind {K : PySem.W.Frag} {α : Type} {ma : MP} {f : Option Int → M α} {β : List Addr} {env : Env} {st : Mst} {σ : L2.St} {H : Hp} {k : α → Mst → List Addr → Hp → Prop} (re : REnv K β H env σ) (R : RSt K cl β st H)
    (F : Fin K cl β H ((ma env st).bind f) k (kX K cl W σ)) {Q' : Option Int → Hp → Prop}
    (h : ∀ x β' H' st', Ext K β β' H H' → REnv K β' H' env σ → RSt K cl β' st' H' → Fin K cl β' H' (f x st') k (kX K cl W σ) → Q' x H') : tMP K cl W ma σ H Q' :=
  ⟨β, env, st, re, R, F.bind.imp (fun x st' β' H' e R' F' => h x β' H' st' e (re.mono e) R' F') fun c fs st' β' H' _ _ q => q⟩
theorem mcut_rv {K : PySem.W.Frag} {β : List Addr} {H : Hp} {xs : List MV} {ys : List V} (lo hi : Option Int) (r : RVs K β H xs ys) : RVs K β H (mcut xs lo hi) (cutV ys lo hi) := by
  unfold mcut cutV
  rw [r.length]
  exact (r.drop _).take _
theorem mcut_whole {α : Type} (xs : List α) (lo hi : Option Int) (h : HT.sIx xs.length 0 lo = 0 ∧ HT.sIx xs.length xs.length hi = xs.length) : mcut xs lo hi = xs := by
  unfold mcut
  rw [h.1, h.2]
  simp
theorem se_sl {lo hi : Option Expr} {l h : MP} {p2 : Pos} (ha : SE X cl W e m) (hl : SP' X cl W lo l) (hh : SP' X cl W hi h) : SE X cl W (.Subscript e (.Slice lo hi none p2) pos) (mSl m l h) := by
  refine PE.weaken (pe_slice (sl_tupA.or sl_list) ha hl hh) fun σ H Q ⟨β, env, st, re, R, F⟩ => ?_
  refine tM_bind re R F fun x w β1 H1 st1 e1 rw re1 R1 F1 => ?_
  refine tMP_bind re1 R1 F1 fun lo β2 H2 st2 e2 re2 R2 F2 => ?_
  refine tMP_bind re2 R2 F2 fun hi β3 H3 st3 e3 re3 R3 F3 => ?_
  have rw3 := (rw.mono e2).mono e3
  cases x with
  | tup xs =>
    obtain ⟨p, ys, rfl, hs, h2⟩ := rw3
    refine .inl ⟨p, ys, rfl, hs, fun hw => ?_, fun hw q hq => fin_tup F3 R3 (mcut_rv lo hi h2) hq⟩
    rw [h2.length] at hw
    have F4 : Fin X.K cl β3 H3 (.ok (.tup xs) st3) (kV X.K Q) (kX X.K cl W σ) := by
      have := F3
      simp only [gSl] at this
      rw [mcut_whole xs lo hi hw] at this
      exact this
    exact fin_val F4 R3 ⟨p, ys, rfl, hs, h2⟩
  | ref a =>
    obtain ⟨p, hp, rfl⟩ := rw3
    simp only [gSl] at F3
    split at F3
    · rename_i xs ho
      obtain ⟨ys, h1, h2⟩ := R3.get hp ho
      exact .inr ⟨p, ys, rfl, SqL.of h1, fun q hq => fin_lst F3 R3 (mcut_rv lo hi h2) hq⟩
    · rename_i xs ho
      obtain ⟨ys, h1, h2⟩ := R3.get hp ho
      exact .inr ⟨p, ys, rfl, h1.sq, fun q hq => fin_lst F3 R3 (mcut_rv lo hi h2) hq⟩
    · exact F3.elim
  | _ => exact F3.elim

/-! ### built-in calls by values -/
theorem CallR.weaken {f : Value} {r r' : List V → Hp → VK → Prop} (h : CallR X f r) (i : ∀ xs H Q, r' xs H Q → r xs H Q) : CallR X f r' := fun pins s σ H xs us Q I rx hw => h pins s σ H xs us Q I rx (i _ _ _ hw)
def gLen : List MV → M MV
  | [.str y], st => if y.length ≤ 16777216 then .ok (.int y.length) st else .bad
  | [x], st => match itemsOf st x with
    | some xs => .ok (.int xs.length) st
    | none => .bad
  | _, _ => .bad
def gInt : List MV → M MV
  | [.int i], st => .ok (.int i) st
  | [.bl b], st => .ok (.int (if b then 1 else 0)) st
  | _, _ => .bad
def gAbs : List MV → M MV
  | [.int i], st => .ok (.int (if i < 0 then -i else i)) st
  | _, _ => .bad
def gList : List MV → M MV
  | [x], st => match itemsOf st x with
    | some xs => newL xs st
    | none => .bad
  | _, _ => .bad
def gTuple : List MV → M MV
  | [x], st => match itemsOf st x with
    | some xs => .ok (.tup xs) st
    | none => .bad
  | _, _ => .bad
def optBls : List MV → Option (List Bool)
  | [] => some []
  | .bl b :: r => (optBls r).map (b :: ·)
  | _ => none
def optInts : List MV → Option (List Int)
  | [] => some []
  | .int b :: r => (optInts r).map (b :: ·)
  | _ => none
def gAll : List MV → M MV
  | [.ref a], st => match (itemsOf st (.ref a)).bind optBls with
    | some bs => .ok (.bl (bs.all id)) st
    | none => .bad
  | _, _ => .bad
def gAny : List MV → M MV
  | [.ref a], st => match (itemsOf st (.ref a)).bind optBls with
    | some bs => .ok (.bl (bs.any id)) st
    | none => .bad
  | _, _ => .bad
def gSum : List MV → M MV
  | [.ref a], st => match (itemsOf st (.ref a)).bind optInts with
    | some bs => .ok (.int bs.sum) st
    | none => .bad
  | _, _ => .bad
theorem one_of {K : PySem.W.Frag} {β : List Addr} {H : Hp} {x : MV} {ws : List V} (r : RVs K β H [x] ws) : ∃ w, ws = [w] ∧ RV K β H x w := by
  obtain ⟨y, r', rfl, h1, h2⟩ := r
  cases (show r' = [] from h2)
  exact ⟨y, rfl, h1⟩
theorem two_of {K : PySem.W.Frag} {β : List Addr} {H : Hp} {x y : MV} {ws : List V} (r : RVs K β H [x, y] ws) : ∃ w z, ws = [w, z] ∧ RV K β H x w ∧ RV K β H y z := by
  obtain ⟨w, r', rfl, h1, h2⟩ := r
  obtain ⟨z, rfl, h3⟩ := one_of h2
  exact ⟨w, z, rfl, h1, h3⟩
theorem optBls_rv {K : PySem.W.Frag} {β : List Addr} {H : Hp} : ∀ {xs : List MV} {bs : List Bool} {ys : List V}, optBls xs = some bs → RVs K β H xs ys → ys = bs.map V.bl
  | [], _, _, h, r => by cases h; exact r
  | x :: xs, bs, _, h, ⟨y, r, rfl, h1, h2⟩ => by
    cases x with
    | bl b =>
      simp only [optBls, Option.map_eq_some_iff] at h
      obtain ⟨cs, hc, rfl⟩ := h
      rw [optBls_rv hc h2, h1.bl_of]
      rfl
    | _ => cases h
theorem optInts_rv {K : PySem.W.Frag} {β : List Addr} {H : Hp} : ∀ {xs : List MV} {bs : List Int} {ys : List V}, optInts xs = some bs → RVs K β H xs ys → ys = bs.map V.int
  | [], _, _, h, r => by cases h; exact r
  | x :: xs, bs, _, h, ⟨y, r, rfl, h1, h2⟩ => by
    cases x with
    | int b =>
      simp only [optInts, Option.map_eq_some_iff] at h
      obtain ⟨cs, hc, rfl⟩ := h
      rw [optInts_rv hc h2, h1.int_of]
      rfl
    | _ => cases h
theorem items_ref {K : PySem.W.Frag} {β : List Addr} {H : Hp} {st : Mst} {a : Nat} {w : V} {xs : List MV} (R : RSt K cl β st H) (r : RV K β H (.ref a) w) (h : itemsOf st (.ref a) = some xs) : ∃ p ys, w = .ref p ∧ SqL K H p ys ∧ RVs K β H xs ys := by
  obtain ⟨p, ha, rfl⟩ := r
  simp only [itemsOf] at h
  split at h
  · rename_i zs ho
    cases h
    obtain ⟨ys, h1, h2⟩ := R.get ha ho
    exact ⟨p, ys, rfl, SqL.of h1, h2⟩
  · rename_i zs ho
    cases h
    obtain ⟨ys, h1, h2⟩ := R.get ha ho
    exact ⟨p, ys, rfl, h1.sq, h2⟩
  · cases h
theorem cg_len : CallG X cl (.builtin "len") gLen := by
  refine ⟨CallR.weaken call_len fun xs H Q ⟨β, us, st, rs, R, F⟩ => ?_, fun us st c fs st' h => ?_⟩
  · match us, rs, F with
    | [x], rs, F =>
      obtain ⟨w, rfl, r⟩ := one_of rs
      cases x with
      | str y =>
        cases r.str_of
        simp only [gLen] at F
        split at F
        · rename_i hz
          exact ⟨_, _, rfl, ⟨line_le hz, rfl⟩, fin_val F R (show _ = _ from rfl)⟩
        · exact F.elim
      | tup zs =>
        simp only [gLen, itemsOf] at F
        obtain ⟨p, ys, rfl, hs, h2⟩ := r
        exact ⟨_, _, rfl, .inr ⟨ys, hs, rfl⟩, by rw [h2.length]; exact fin_val F R (show _ = _ from rfl)⟩
      | ref a =>
        simp only [gLen] at F
        split at F
        · rename_i zs hz
          obtain ⟨p, ys, rfl, hs, h2⟩ := items_ref R r hz
          exact ⟨_, _, rfl, .inl ⟨ys, hs, rfl⟩, by rw [h2.length]; exact fin_val F R (show _ = _ from rfl)⟩
        · exact F.elim
      | _ => simp only [gLen, itemsOf] at F; exact F.elim
    | [], rs, F => exact F.elim
    | _ :: _ :: _, rs, F => simp only [gLen] at F; exact F.elim
  · unfold gLen at h
    repeat' (first | (split at h) | cases h)
theorem cg_int : CallG X cl (.type "int") gInt := by
  refine ⟨CallR.weaken call_int1 fun xs H Q ⟨β, us, st, rs, R, F⟩ => ?_, fun us st c fs st' h => ?_⟩
  · match us, rs, F with
    | [x], rs, F =>
      obtain ⟨w, rfl, r⟩ := one_of rs
      cases x with
      | int i => cases r.int_of; exact .inl ⟨i, rfl, fin_val F R (show _ = _ from rfl)⟩
      | bl i => cases r.bl_of; exact .inr ⟨i, rfl, fin_val F R (show _ = _ from rfl)⟩
      | _ => exact F.elim
    | [], rs, F => exact F.elim
    | _ :: _ :: _, rs, F => simp only [gInt] at F; exact F.elim
  · unfold gInt at h
    repeat' (first | (split at h) | cases h)
theorem cg_abs : CallG X cl (.builtin "abs") gAbs := by
  refine ⟨CallR.weaken call_abs fun xs H Q ⟨β, us, st, rs, R, F⟩ => ?_, fun us st c fs st' h => ?_⟩
  · match us, rs, F with
    | [x], rs, F =>
      obtain ⟨w, rfl, r⟩ := one_of rs
      cases x with
      | int i => cases r.int_of; exact ⟨i, rfl, fin_val F R (show _ = _ from rfl)⟩
      | _ => exact F.elim
    | [], rs, F => exact F.elim
    | _ :: _ :: _, rs, F => simp only [gAbs] at F; exact F.elim
  · unfold gAbs at h
    repeat' (first | (split at h) | cases h)
theorem cg_list : CallG X cl (.type "list") gList := by
  refine ⟨CallR.weaken call_list_of fun xs H Q ⟨β, us, st, rs, R, F⟩ => ?_, fun us st c fs st' h => ?_⟩
  · match us, rs, F with
    | [x], rs, F =>
      obtain ⟨w, rfl, r⟩ := one_of rs
      simp only [gList] at F
      split at F
      · rename_i zs hz
        obtain ⟨p, ys, rfl, hs, h2⟩ := items_sq R r hz
        unfold newL at F
        split at F
        · exact ⟨p, ys, rfl, hs, fun l hl => fin_lst F R h2 hl⟩
        · exact F.elim
      · exact F.elim
    | [], rs, F => exact F.elim
    | _ :: _ :: _, rs, F => simp only [gList] at F; exact F.elim
  · unfold gList newL at h
    repeat' (first | (split at h) | cases h)
theorem cg_tuple : CallG X cl (.type "tuple") gTuple := by
  refine ⟨CallR.weaken call_tuple_of fun xs H Q ⟨β, us, st, rs, R, F⟩ => ?_, fun us st c fs st' h => ?_⟩
  · match us, rs, F with
    | [x], rs, F =>
      obtain ⟨w, rfl, r⟩ := one_of rs
      simp only [gTuple] at F
      split at F
      · rename_i zs hz
        obtain ⟨p, ys, rfl, hs, h2⟩ := items_sq R r hz
        rcases hs with hs | hs
        · exact ⟨p, ys, rfl, .inl ⟨hs, fun l hl => fin_tup F R h2 hl⟩⟩
        · exact ⟨p, ys, rfl, .inr ⟨hs, fin_val F R ⟨p, ys, rfl, hs, h2⟩⟩⟩
      · exact F.elim
    | [], rs, F => exact F.elim
    | _ :: _ :: _, rs, F => simp only [gTuple] at F; exact F.elim
  · unfold gTuple at h
    repeat' (first | (split at h) | cases h)
theorem cg_all (hc : X.calm = true) : CallG X cl (.builtin "all") gAll := by
  refine ⟨CallR.weaken (cr_all hc) fun xs H Q ⟨β, us, st, rs, R, F⟩ => ?_, fun us st c fs st' h => ?_⟩
  · match us, rs, F with
    | [.ref a], rs, F =>
      obtain ⟨w, rfl, r⟩ := one_of rs
      simp only [gAll] at F
      split at F
      · rename_i bs hb
        obtain ⟨zs, hz, h1⟩ := Option.bind_eq_some_iff.mp hb
        obtain ⟨p, ys, rfl, hs, h2⟩ := items_ref R r hz
        rw [optBls_rv h1 h2] at hs
        exact ⟨p, bs, rfl, hs, fin_val F R (show _ = _ from rfl)⟩
      · exact F.elim
    | [], rs, F => exact F.elim
    | [.non], rs, F => exact F.elim
    | [.bl _], rs, F => exact F.elim
    | [.int _], rs, F => exact F.elim
    | [.str _], rs, F => exact F.elim
    | [.tup _], rs, F => exact F.elim
    | [.ty _], rs, F => exact F.elim
    | _ :: _ :: _, rs, F => simp only [gAll] at F; exact F.elim
  · unfold gAll at h
    repeat' (first | (split at h) | cases h)
theorem cg_sum (hc : X.calm = true) : CallG X cl (.builtin "sum") gSum := by
  refine ⟨CallR.weaken (cr_sum hc) fun xs H Q ⟨β, us, st, rs, R, F⟩ => ?_, fun us st c fs st' h => ?_⟩
  · match us, rs, F with
    | [.ref a], rs, F =>
      obtain ⟨w, rfl, r⟩ := one_of rs
      simp only [gSum] at F
      split at F
      · rename_i bs hb
        obtain ⟨zs, hz, h1⟩ := Option.bind_eq_some_iff.mp hb
        obtain ⟨p, ys, rfl, hs, h2⟩ := items_ref R r hz
        rw [optInts_rv h1 h2] at hs
        exact ⟨p, bs, rfl, hs, fin_val F R (show _ = _ from rfl)⟩
      · exact F.elim
    | [], rs, F => exact F.elim
    | [.non], rs, F => exact F.elim
    | [.bl _], rs, F => exact F.elim
    | [.int _], rs, F => exact F.elim
    | [.str _], rs, F => exact F.elim
    | [.tup _], rs, F => exact F.elim
    | [.ty _], rs, F => exact F.elim
    | _ :: _ :: _, rs, F => simp only [gSum] at F; exact F.elim
  · unfold gSum at h
    repeat' (first | (split at h) | cases h)
end
end BH

set_option Elab.async false
set_option linter.all false
set_option maxRecDepth 100000
set_option autoImplicit false
set_option maxHeartbeats 1000000
/-! Statements. -/
namespace BH
open PySem PySem.Spec PyProof.Rows L2

inductive Fl where
  | nx (env : Env)
  | rt (v : MV)
  | bk (env : Env)
  | ct (env : Env)
  | xc (c : Nat) (fs : Mfs) (env : Env)
abbrev MS := Env → M Fl
def bindX {α : Type} (env : Env) (r : Res α) (f : α → Mst → Res Fl) : Res Fl :=
  match r with
  | .ok a st => f a st
  | .ex c fs st => .ok (.xc c fs env) st
  | .bad => .bad
@[simp] theorem bindX_ok {α : Type} (env : Env) (a : α) (st : Mst) (f : α → Mst → Res Fl) : bindX env (.ok a st) f = f a st := rfl
@[simp] theorem bindX_ex {α : Type} (env : Env) (c : Nat) (fs : Mfs) (st : Mst) (f : α → Mst → Res Fl) : bindX env (.ex c fs st) f = .ok (.xc c fs env) st := rfl
@[simp] theorem bindX_bad {α : Type} (env : Env) (f : α → Mst → Res Fl) : bindX env .bad f = .bad := rfl
section
variable (K : PySem.W.Frag) (cl : Nat → Addr) (W : WX)
def kS (D : Ends) : Fl → Mst → List Addr → Hp → Prop
  | .nx env, _, β, H => ∀ σ, REnv K β H env σ → D.nx σ H
  | .rt v, _, β, H => ∀ w, RV K β H v w → D.rt w H
  | .bk env, _, β, H => ∀ σ, REnv K β H env σ → D.bk σ H
  | .ct env, _, β, H => ∀ σ, REnv K β H env σ → D.ct σ H
  | .xc c fs env, _, β, H => ∀ σ d, REnv K β H env σ → RX K β H fs d → W (.ref (cl c)) d σ H
def tS (m : MS) : TS := fun D σ H => ∃ β env st, REnv K β H env σ ∧ RSt K cl β st H ∧ Fin K cl β H (m env st) (kS K cl W D) kNo
/-- targets -/
abbrev MG := MV → Env → M Env
def tG (g : MG) : TG := fun w σ H Q => ∃ β v env st, RV K β H v w ∧ REnv K β H env σ ∧ RSt K cl β st H ∧ Fin K cl β H (g v env st) (fun env' _ β' H' => ∀ σ', REnv K β' H' env' σ' → Q σ' H') kNo
abbrev MGs := List MV → Env → M Env
def tGs (g : MGs) : TGs := fun ws σ H Q => ∃ β vs env st, RVs K β H vs ws ∧ REnv K β H env σ ∧ RSt K cl β st H ∧ Fin K cl β H (g vs env st) (fun env' _ β' H' => ∀ σ', REnv K β' H' env' σ' → Q σ' H') kNo
end
def SS (X : Cx) (cl : Nat → Addr) (W : WX) (s : Stmt) (m : MS) : Prop := PS X s (tS X.K cl W m)
def SSs (X : Cx) (cl : Nat → Addr) (W : WX) (s : List Stmt) (m : MS) : Prop := PSs X s (tS X.K cl W m)
def SG (X : Cx) (cl : Nat → Addr) (e : Expr) (g : MG) : Prop := PG X e (tG X.K cl g)
def SGs (X : Cx) (cl : Nat → Addr) (es : List Expr) (g : MGs) : Prop := PGs X es (tGs X.K cl g)
theorem PS.weaken {X : Cx} {s : Stmt} {t t' : TS} (h : PS X s t) (i : ∀ D σ H, t' D σ H → t D σ H) : PS X s t' := ⟨fun pins s σ H D I hw => h.run pins s σ H D I (i _ _ _ hw)⟩
theorem PSs.weaken {X : Cx} {s : List Stmt} {t t' : TS} (h : PSs X s t) (i : ∀ D σ H, t' D σ H → t D σ H) : PSs X s t' := ⟨fun pins s σ H D I hw => h.run pins s σ H D I (i _ _ _ hw)⟩
theorem PG.weaken {X : Cx} {e : Expr} {t t' : TG} (h : PG X e t) (i : ∀ w σ H Q, t' w σ H Q → t w σ H Q) : PG X e t' := ⟨fun pins s σ H v u Q I r hw => h.run pins s σ H v u Q I r (i _ _ _ _ hw)⟩
theorem PGs.weaken {X : Cx} {e : List Expr} {t t' : TGs} (h : PGs X e t) (i : ∀ w σ H Q, t' w σ H Q → t w σ H Q) : PGs X e t' := ⟨fun pins s σ H v u Q I r hw => h.run pins s σ H v u Q I r (i _ _ _ _ hw)⟩

section
variable {K : PySem.W.Frag} {cl : Nat → Addr} {W : WX}
theorem bindX_fin {α : Type} {r : Res α} {f : α → Mst → Res Fl} {β : List Addr} {env : Env} {σ : L2.St} {H : Hp} {D : Ends} (re : REnv K β H env σ) (F : Fin K cl β H (bindX env r f) (kS K cl W D) kNo) :
    Fin K cl β H r (fun a st' β' H' => Fin K cl β' H' (f a st') (kS K cl W D) kNo) (kX K cl W σ) := by
  cases r with
  | ok a st => exact fun β2 H2 e2 _ => Fin.weak e2 F
  | ex c fs st =>
    intro β2 H2 e2 R2 d hd
    exact F.at e2 R2 σ d (re.mono e2) hd
  | bad => exact F
theorem tMX {α : Type} {ma : ME} {f : MV → Mst → Res Fl} {β : List Addr} {env : Env} {st : Mst} {σ : L2.St} {H : Hp} {D : Ends} (re : REnv K β H env σ) (R : RSt K cl β st H)
    (F : Fin K cl β H (bindX env (ma env st) f) (kS K cl W D) kNo) {Q' : VK}
    (h : ∀ x w β' H' st', Ext K β β' H H' → RV K β' H' x w → REnv K β' H' env σ → RSt K cl β' st' H' → Fin K cl β' H' (f x st') (kS K cl W D) kNo → Q' w H') : tM K cl W ma σ H Q' :=
  ⟨β, env, st, re, R, (bindX_fin re F).imp (fun x st' β' H' e R' F' w rw => h x w β' H' st' e rw (re.mono e) R' F') fun c fs st' β' H' _ _ q => q⟩
theorem tMTX {ma : MT} {f : Bool → Mst → Res Fl} {β : List Addr} {env : Env} {st : Mst} {σ : L2.St} {H : Hp} {D : Ends} (re : REnv K β H env σ) (R : RSt K cl β st H)
    (F : Fin K cl β H (bindX env (ma env st) f) (kS K cl W D) kNo) {Q' : Bool → Hp → Prop}
    (h : ∀ x β' H' st', Ext K β β' H H' → REnv K β' H' env σ → RSt K cl β' st' H' → Fin K cl β' H' (f x st') (kS K cl W D) kNo → Q' x H') : tMT K cl W ma σ H Q' :=
  ⟨β, env, st, re, R, (bindX_fin re F).imp (fun x st' β' H' e R' F' => h x β' H' st' e (re.mono e) R' F') fun c fs st' β' H' _ _ q => q⟩
end

/-! ### plain statements -/
def sNext : MS := fun env st => .ok (.nx env) st
def sSeq (a b : MS) : MS := fun env st => (a env st).bind fun fl s1 => match fl with
  | .nx env1 => b env1 s1
  | fl => .ok fl s1
def sBreak : MS := fun env st => .ok (.bk env) st
def sCont : MS := fun env st => .ok (.ct env) st
def sBad : MS := fun _ _ => .bad
def sExpr (m : ME) : MS := fun env st => bindX env (m env st) fun _ s1 => .ok (.nx env) s1
def sRet (m : ME) : MS := fun env st => bindX env (m env st) fun v s1 => .ok (.rt v) s1
def sRetN : MS := fun _ st => .ok (.rt .non) st
def sIf (t : MT) (a b : MS) : MS := fun env st => bindX env (t env st) fun k s1 => if k = true then a env s1 else b env s1
def gtName (i : Nat) : MG := fun v env st => .ok (env.set i (some v)) st
def gtNil : MGs := fun vs env st => match vs with
  | [] => .ok env st
  | _ => .bad
def gtCons (g : MG) (r : MGs) : MGs := fun vs env st => match vs with
  | v :: vs => (g v env st).bind fun env1 s1 => r vs env1 s1
  | [] => .bad
def gtTup (n : Nat) (g : MGs) : MG := fun v env st => match v with
  | .tup xs => if xs.length = n then g xs env st else .bad
  | _ => .bad
def noX {α : Type} : Res α → Res α
  | .ok a st => .ok a st
  | _ => .bad
def gSetIx (o i v : MV) : M Unit := fun st => match o, i with
  | .ref a, .int k => match st[a]? with
    | some (.lst xs) => match mixN xs.length k with
      | some j => .ok () (st.set a (.lst (xs.set j v)))
      | none => .bad
    | _ => .bad
  | _, _ => .bad
def gtSub (o i : ME) : MG := fun v env st => (noX (o env st)).bind fun ov s1 => (noX (i env s1)).bind fun iv s2 => (gSetIx ov iv v s2).bind fun _ s3 => .ok env s3
def sAsg (m : ME) (g : MG) : MS := fun env st => bindX env (m env st) fun v s1 => (g v env s1).bind fun env1 s2 => .ok (.nx env1) s2
def sAug (i : Nat) (g : MV → MV → M MV) (m : ME) : MS := fun env st => match env[i]? with
  | some (some x) => bindX env (m env st) fun y s1 => (g x y s1).bind fun z s2 => .ok (.nx (env.set i (some z))) s2
  | _ => .bad

section
variable {X : Cx} {cl : Nat → Addr} {W : WX} {e a b c o : Expr} {m ma mb : ME} {pos : Pos} {s : Stmt} {ss : List Stmt} {p q : MS}
theorem ss_any : SS X cl W s sBad := ⟨fun pins s σ H D I ⟨β, env, st, re, R, F⟩ => F.elim⟩
theorem sss_any : SSs X cl W ss sBad := ⟨fun pins s σ H D I ⟨β, env, st, re, R, F⟩ => F.elim⟩
theorem sss_nil : SSs X cl W [] sNext := PSs.weaken pss_nil fun D σ H ⟨β, env, st, re, R, F⟩ => F.here R σ re
theorem sss_cons (h1 : SS X cl W s p) (h2 : SSs X cl W ss q) : SSs X cl W (s :: ss) (sSeq p q) := by
  refine PSs.weaken (pss_cons h1 h2) fun D σ H ⟨β, env, st, re, R, F⟩ => ?_
  refine ⟨β, env, st, re, R, F.bind.imp (fun fl st1 β1 H1 e1 R1 F1 => ?_) fun _ _ _ _ _ _ _ q => q⟩
  cases fl with
  | nx env1 => exact fun σ1 re1 => ⟨β1, env1, st1, re1, R1, F1⟩
  | rt v => exact F1.here R1
  | bk env1 => exact F1.here R1
  | ct env1 => exact F1.here R1
  | xc c fs env1 => exact F1.here R1
theorem sss_one (h1 : SS X cl W s p) : SSs X cl W [s] p := pss_one h1
theorem ss_pass : SS X cl W (.Pass pos) sNext := PS.weaken ps_pass fun D σ H ⟨β, env, st, re, R, F⟩ => F.here R σ re
theorem ss_break : SS X cl W (.Break pos) sBreak := PS.weaken ps_break fun D σ H ⟨β, env, st, re, R, F⟩ => F.here R σ re
theorem ss_continue : SS X cl W (.Continue pos) sCont := PS.weaken ps_continue fun D σ H ⟨β, env, st, re, R, F⟩ => F.here R σ re
theorem ss_expr (he : SE X cl W e m) (hs : swapsWith e none pos.line X.env = pure false := by rfl) : SS X cl W (.Expr e pos) (sExpr m) := by
  refine PS.weaken (ps_expr he hs) fun D σ H ⟨β, env, st, re, R, F⟩ => ?_
  exact tMX (α := Unit) re R F fun x w β1 H1 st1 e1 rw re1 R1 F1 => F1.here R1 σ re1
theorem ss_ret (he : SE X cl W e m) : SS X cl W (.Return (some e) pos) (sRet m) := by
  refine PS.weaken (ps_ret he) fun D σ H ⟨β, env, st, re, R, F⟩ => ?_
  exact tMX (α := Unit) re R F fun x w β1 H1 st1 e1 rw re1 R1 F1 => F1.here R1 w rw
theorem ss_retN : SS X cl W (.Return none pos) sRetN := PS.weaken ps_retN fun D σ H ⟨β, env, st, re, R, F⟩ => F.here R .non rfl
theorem ss_if {t : MT} {as bs : List Stmt} (hc : ST X cl W c t) (ha : SSs X cl W as p) (hb : SSs X cl W bs q) : SS X cl W (.If c as bs pos) (sIf t p q) := by
  refine PS.weaken (ps_if hc ha hb) fun D σ H ⟨β, env, st, re, R, F⟩ => ?_
  refine tMTX re R F fun x β1 H1 st1 e1 re1 R1 F1 => ?_
  cases x with
  | true => rw [if_pos rfl] at F1 ⊢; exact ⟨β1, env, st1, re1, R1, F1⟩
  | false => rw [if_neg (by decide)] at F1 ⊢; exact ⟨β1, env, st1, re1, R1, F1⟩
theorem sg_name {i : Nat} {x : Str} (hN : X.N.Nodup) (hi : X.N[i]? = some x) (hx : Loc X.env.scope x) (hf : X.fn x = true ∨ X.env.scope.names.lookup x = some .local := by first | exact .inl rfl | exact .inr rfl | assumption) : SG X cl (.Name x pos) (gtName i) :=
  PG.weaken (pg_name hN hi hx hf) fun w σ H Q ⟨β, v, env, st, rv, re, R, F⟩ => F.here R _ (re.set rv)
theorem sgs_nil : SGs X cl [] gtNil := PGs.weaken pgs_nil fun ws σ H Q ⟨β, vs, env, st, rv, re, R, F⟩ => by
  cases vs with
  | nil => exact ⟨rv, F.here R _ re⟩
  | cons x xs => exact F.elim
theorem sgs_cons {es : List Expr} {g : MG} {r : MGs} (h1 : SG X cl e g) (h2 : SGs X cl es r)
    (hs : (assignEach (e :: es) X.env).map (·.2) = assign e X.env :: (assignEach es X.env).map (·.2) := by rfl) : SGs X cl (e :: es) (gtCons g r) := by
  refine PGs.weaken (pgs_cons h1 h2 hs) fun ws σ H Q ⟨β, vs, env, st, rv, re, R, F⟩ => ?_
  cases vs with
  | nil => exact F.elim
  | cons v vs =>
    obtain ⟨w, ws', rfl, r1, r2⟩ := rv
    refine ⟨w, ws', rfl, β, v, env, st, r1, re, R, F.bind.imp (fun env1 st1 β1 H1 e1 R1 F1 σ1 re1 => ?_) fun _ _ _ _ _ _ _ q => q⟩
    exact ⟨β1, vs, env1, st1, r2.mono e1, re1, R1, F1⟩
theorem sg_tup {es : List Expr} {k : Nat} {r : MGs} {n : Nat} (hc : X.calm = true) (h : SGs X cl es r)
    (hn : (assignEach es X.env).length = n := by rfl) (hst : (assignEach es X.env).findIdx? (·.1) = none := by rfl) : SG X cl (.Tuple es k pos) (gtTup n r) := by
  refine PG.weaken (pg_tup hc h hn hst) fun w σ H Q ⟨β, v, env, st, rv, re, R, F⟩ => ?_
  cases v with
  | tup xs =>
    obtain ⟨p, ys, rfl, hs, h2⟩ := rv
    simp only [gtTup] at F
    split at F
    · rename_i hl
      exact ⟨p, ys, rfl, hs, by rw [h2.length, hl], β, xs, env, st, h2, re, R, F⟩
    · exact F.elim
  | _ => exact F.elim
/-- no exception: any wish -/
theorem tM_noX {K : PySem.W.Frag} {W' : WX} {α : Type} {ma : ME} {f : MV → Mst → Res α} {β : List Addr} {env : Env} {st : Mst} {σ : L2.St} {H : Hp} {k : α → Mst → List Addr → Hp → Prop} {ke : Nat → Mfs → Mst → List Addr → Hp → Prop} (re : REnv K β H env σ) (R : RSt K cl β st H)
    (F : Fin K cl β H ((noX (ma env st)).bind f) k ke) {Q' : VK}
    (h : ∀ x w β' H' st', Ext K β β' H H' → RV K β' H' x w → REnv K β' H' env σ → RSt K cl β' st' H' → Fin K cl β' H' (f x st') k ke → Q' w H') : tM K cl W' ma σ H Q' := by
  refine ⟨β, env, st, re, R, ?_⟩
  cases hm : ma env st with
  | ok v s1 =>
    rw [hm] at F
    exact fun β' H' e R' w rw => h v w β' H' s1 e rw (re.mono e) R' (Fin.weak e F)
  | ex c fs s1 => rw [hm] at F; exact F.elim
  | bad => rw [hm] at F; exact F.elim
theorem tMT_noX {K : PySem.W.Frag} {W' : WX} {α : Type} {ma : MT} {f : Bool → Mst → Res α} {β : List Addr} {env : Env} {st : Mst} {σ : L2.St} {H : Hp} {k : α → Mst → List Addr → Hp → Prop} {ke : Nat → Mfs → Mst → List Addr → Hp → Prop} (re : REnv K β H env σ) (R : RSt K cl β st H)
    (F : Fin K cl β H ((noX (ma env st)).bind f) k ke) {Q' : Bool → Hp → Prop}
    (h : ∀ x β' H' st', Ext K β β' H H' → REnv K β' H' env σ → RSt K cl β' st' H' → Fin K cl β' H' (f x st') k ke → Q' x H') : tMT K cl W' ma σ H Q' := by
  refine ⟨β, env, st, re, R, ?_⟩
  cases hm : ma env st with
  | ok v s1 =>
    rw [hm] at F
    exact fun β' H' e R' => h v β' H' s1 e (re.mono e) R' (Fin.weak e F)
  | ex c fs s1 => rw [hm] at F; exact F.elim
  | bad => rw [hm] at F; exact F.elim
theorem sg_sub {W' : WX} {mo mi : ME} (ho : SE X cl W' o mo) (hi : SE X cl W' e mi)
    (ha : ∀ v, assign (.Subscript o e pos) X.env v = (do
      let ov ← holding [v] (eval o X.env)
      let iv ← holding [v, ov] (eval e X.env)
      standAt pos
      holding [v, ov, iv] (setItem ov iv v)
      release [v, ov, iv] []) := by intro _; rfl) : SG X cl (.Subscript o e pos) (gtSub mo mi) := by
  refine PG.weaken (pg_sub ho hi set_list ha) fun w σ H Q ⟨β, v, env, st, rv, re, R, F⟩ => ?_
  refine tM_noX re R F fun x z β1 H1 st1 e1 rx re1 R1 F1 => ?_
  refine tM_noX re1 R1 F1 fun y z2 β2 H2 st2 e2 ry re2 R2 F2 => ?_
  have rx2 := rx.mono e2
  have rv2 := (rv.mono e1).mono e2
  cases x with
  | ref a =>
    cases y with
    | int k =>
      obtain ⟨p, hp, rfl⟩ := rx2
      cases ry.int_of
      simp only [gSetIx] at F2
      split at F2
      · rename_i xs ho
        split at F2
        · rename_i j hj
          simp only [Res.bind_ok] at F2
          obtain ⟨ys, h1, h2⟩ := R2.get hp ho
          have hm : Mut (H2 p) := by rw [h1]; trivial
          refine ⟨p, ys, k, j, rfl, rfl, h1, by rw [h2.length]; exact hj, ?_⟩
          exact F2.at (.upd (.inr hm)) (R2.set hp ho rfl rfl ⟨_, upd_same, (h2.set j rv2).mono (.upd (.inr hm))⟩) _ (re2.mono (.upd (.inr hm)))
        · exact F2.elim
      · exact F2.elim
    | _ => exact F2.elim
  | _ => exact F2.elim
theorem ss_asg {tg : Expr} {g : MG} (he : SE X cl W e m) (hg : SG X cl tg g) (hs : swapsWithSole [tg] e pos.line X.env = pure false := by rfl) (hw : swappedStores [tg] e X.env = pure none := by rfl)
    (h1 : (assignEach [tg] X.env).map (·.2) = [assign tg X.env] := by rfl) : SS X cl W (.Assign [tg] e pos) (sAsg m g) := by
  refine PS.weaken (ps_asg he hg hs hw h1) fun D σ H ⟨β, env, st, re, R, F⟩ => ?_
  refine tMX (α := Unit) re R F fun x w β1 H1 st1 e1 rw re1 R1 F1 => ?_
  exact ⟨β1, x, env, st1, rw, re1, R1, F1.bind.imp (fun env2 st2 β2 H2 e2 R2 F2 σ2 re2 => F2.here R2 σ2 re2) fun _ _ _ _ _ _ _ q => q⟩
theorem ss_set {i : Nat} {x : Str} {pos' : Pos} (hN : X.N.Nodup) (hi : X.N[i]? = some x) (hx : Loc X.env.scope x) (he : SE X cl W e m) (hs : swapsWith e (some (.Name x pos')) pos.line X.env = pure false := by rfl) (hf : X.fn x = true ∨ X.env.scope.names.lookup x = some .local := by first | exact .inl rfl | exact .inr rfl | assumption) :
    SS X cl W (.Assign [.Name x pos'] e pos) (sAsg m (gtName i)) := by
  refine PS.weaken (ps_set hN hi hx he hs hf) fun D σ H ⟨β, env, st, re, R, F⟩ => ?_
  exact tMX (α := Unit) re R F fun x w β1 H1 st1 e1 rw re1 R1 F1 => F1.here R1 _ (re1.set rw)
/-- name op= e -/
structure IpG (X : Cx) (cl : Nat → Addr) (op : Operator) (g : MV → MV → M MV) : Prop where
  run : PIp X op (rG2 X.K cl g)
  nx : ∀ u v st c fs st', g u v st ≠ .ex c fs st'
theorem PIp.weaken {op : Operator} {t t' : TIp} (h : PIp X op t) (i : ∀ x y H Q, t' x y H Q → t x y H Q) : PIp X op t' := fun pins s σ H x y v u Q I r1 r2 hw => h pins s σ H x y v u Q I r1 r2 (i _ _ _ _ hw)
def gIAdd : MV → MV → M MV
  | .int i, .int j, st => .ok (.int (i + j)) st
  | .str a, .str b, st => if a.length + b.length ≤ 16777216 then .ok (.str (a ++ b)) st else .bad
  | _, _, _ => .bad
theorem ipg_of {op : Operator} {g : MV → MV → M MV} (h : OpG X cl (inplaceOp op) g) : IpG X cl op g := ⟨fun pins s σ H x y v u Q I r1 r2 hw => h.run pins s σ H x y v u Q I r1 r2 hw, h.nx⟩
theorem og_iadd : OpG X cl (inplaceOp .Add) gIAdd := by
  refine ⟨OpR.weaken (OpR.or iop_add iop_add_str) fun x y H Q ⟨β, u, v, st, ru, rv, R, F⟩ => ?_, fun u v st c fs st' h => ?_⟩
  · cases u with
    | int i =>
      cases v with
      | int j => cases ru.int_of; cases rv.int_of; exact .inl ⟨i, j, rfl, rfl, fin_val F R (show _ = _ from rfl)⟩
      | _ => exact F.elim
    | str i =>
      cases v with
      | str j =>
        cases ru.str_of
        cases rv.str_of
        simp only [gIAdd] at F
        split at F
        · rename_i h
          exact .inr ⟨i, j, rfl, rfl, line_le h, fin_val F R (show _ = _ from rfl)⟩
        · exact F.elim
      | _ => exact F.elim
    | _ => exact F.elim
  · cases u <;> cases v <;> simp only [gIAdd] at h <;> (repeat' (first | (split at h) | cases h))
theorem og_isub : OpG X cl (inplaceOp .Sub) gSub := by
  refine ⟨OpR.weaken iop_sub fun x y H Q ⟨β, u, v, st, ru, rv, R, F⟩ => ?_, fun u v st c fs st' h => by cases u <;> cases v <;> cases h⟩
  cases u with
  | int i =>
    cases v with
    | int j => cases ru.int_of; cases rv.int_of; exact ⟨i, j, rfl, rfl, fin_val F R (show _ = _ from rfl)⟩
    | _ => exact F.elim
  | _ => exact F.elim
theorem ss_aug {i : Nat} {x : Str} {op : Operator} {g : MV → MV → M MV} {pos' : Pos} (hN : X.N.Nodup) (hi : X.N[i]? = some x) (hx : Loc X.env.scope x) (he : SE X cl W e m) (ho : OpG X cl (inplaceOp op) g) (hf : X.fn x = true ∨ X.env.scope.names.lookup x = some .local := by first | exact .inl rfl | exact .inr rfl | assumption) :
    SS X cl W (.AugAssign (.Name x pos') op e pos) (sAug i g m) := by
  refine PS.weaken (ps_aug hN hi hx he (ipg_of ho).run hf) fun D σ H ⟨β, env, st, re, R, F⟩ => ?_
  unfold sAug at F
  split at F
  · rename_i v hv
    obtain ⟨w, h1, h2⟩ := re.at_ i v hv
    refine ⟨w, h1, ?_⟩
    refine tMX (α := Unit) re R F fun y z β1 H1 st1 e1 rz re1 R1 F1 => ?_
    exact ⟨β1, v, y, st1, h2.mono e1, rz, R1, fin_no (ho.nx _ _ _) (F1.bind.imp (fun v2 st2 β2 H2 e2 R2 F2 w2 r2 => F2.here R2 _ ((re1.mono e2).set r2)) fun _ _ _ _ _ _ _ q => q)⟩
  · exact F.elim
end
end BH

set_option Elab.async false
set_option linter.all false
set_option maxRecDepth 100000
set_option autoImplicit false
set_option maxHeartbeats 1000000
/-! Defs, calls, instances, methods of lists. -/
namespace BH
open PySem PySem.Spec PyProof.Rows L2

/-! ### defs -/
def finB (r : Res Fl) : Res MV := match r with
  | .ok (.rt v) st => .ok v st
  | .ok (.nx _) st => .ok .non st
  | .ok (.xc c fs _) st => .ex c fs st
  | _ => .bad
@[simp] theorem finB_rt (v : MV) (st : Mst) : finB (.ok (.rt v) st) = .ok v st := rfl
@[simp] theorem finB_nx (env : Env) (st : Mst) : finB (.ok (.nx env) st) = .ok .non st := rfl
@[simp] theorem finB_xc (c : Nat) (fs : Mfs) (env : Env) (st : Mst) : finB (.ok (.xc c fs env) st) = .ex c fs st := rfl
/-- a def with n parameters and N names -/
def fnM (N n : Nat) (body : MS) : List MV → M MV := fun us st => if us.length = n then finB (body (us.map some ++ List.replicate (N - n) none) st) else .bad
def spM (K : PySem.W.Frag) (cl : Nat → Addr) (n : Nat) (fm : List MV → M MV) : Sp := fun vs H Q E => vs.length = n ∧ ∃ β us st, RVs K β H us vs ∧ RSt K cl β st H ∧ Fin K cl β H (fm us st) (kV K Q) (fun c fs _ β' H' => ∀ d, RX K β' H' fs d → E (.ref (cl c)) d H')
structure FnG (P : Program) (w : World) (K : PySem.W.Frag) (mg : Str → Option Value) (base : Heap) (cl : Nat → Addr) (k : Nat) (f : Addr) (fd : FuncData) (ps : List Str) (fm : List MV → M MV) : Prop where
  ok : FnOk P w K mg base (L2.CX P w) k f fd ps (spM K cl ps.length fm)
  len : ∀ us st, us.length ≠ ps.length → fm us st = .bad
section
variable {P : Program} {w : World} {K : PySem.W.Frag} {mg : Str → Option Value} {base : Heap} {cl : Nat → Addr}
theorem FnG.mono {j k : Nat} {f : Addr} {fd : FuncData} {ps : List Str} {fm : List MV → M MV} (F : FnG P w K mg base cl j f fd ps fm) (h : j ≤ k) : FnG P w K mg base cl k f fd ps fm := ⟨F.ok.mono h, F.len⟩
/-- the wish of a def's body -/
abbrev wD (E : XK) : WX := fun cls d _ H => E cls d H
theorem tk_cx {N : List Str} {qual : Str} {scope : Scope} {f : Addr} {cd : Value} {A : Around} {outer : List PySem.Env} {s : Shared} {H : Hp} {E : XK} : Takes (cxOf (L2.CX P w) P w K mg base N qual scope f cd A outer s H E) (wD E) := takes_of rfl rfl rfl rfl
theorem po_cx {N : List Str} {qual : Str} {scope : Scope} {f : Addr} {cd : Value} {A : Around} {outer : List PySem.Env} {s : Shared} {H : Hp} {E : XK} :
    PassesOwn (model P w) (cxOf (L2.CX P w) P w K mg base N qual scope f cd A outer s H E).A (cxOf (L2.CX P w) P w K mg base N qual scope f cd A outer s H E).env (cxOf (L2.CX P w) P w K mg base N qual scope f cd A outer s H E).xe := by
  have h := passes_of (X := cxOf (L2.CX P w) P w K mg base N qual scope f cd A outer s H E) (K := fun e s'' => L2.CX P w outer H s E e s'') (E₁ := fun e s'' => L2.CX P w outer H s E e s'') rfl
  exact h
theorem FnG.of {x qual : Str} {st : Stmt} {f : Addr} {fd : FuncData} {N ps : List Str} {k : Nat} {body : MS} (F : L2.Fun K x qual st f fd) (S : FnScope N ps (defScope st))
    (hbody : ∀ (cdv : Value) (A : Around) (outer : List PySem.Env) (s : Shared) (H : Hp) (E : XK), Room k (A.deeper (envOfC qual (defScope st) s.heap.objs.size f cdv)) →
      SSs (cxOf (L2.CX P w) P w K mg base N qual (defScope st) f cdv A outer s H E) cl (wD E) (defBody st) body) : FnG P w K mg base cl (k + 1) f fd ps (fnM N.length ps.length body) := by
  have hlen : ∀ us st, us.length ≠ ps.length → fnM N.length ps.length body us st = .bad := fun us st h => by unfold fnM; rw [if_neg h]
  refine ⟨Fun.okX F S (fun vs H Q E h => h.1) fun cdv A outer s H vs Q E hr h => ?_, hlen⟩
  obtain ⟨hl, β, us, st0, rs, R, Fi⟩ := h
  refine ⟨_, hbody cdv A outer s H E hr, β, us.map some ++ List.replicate (N.length - ps.length) none, st0, ?_, R, ?_⟩
  · have ul : us.length = vs.length := rs.length.symm
    refine ⟨by simp [L2.start, ul, hl], fun i v hv => ?_⟩
    by_cases hi : i < us.length
    · rw [List.getElem?_append_left (by simpa using hi), List.getElem?_map] at hv
      cases hu : us[i]? with
      | none => rw [hu] at hv; cases hv
      | some u =>
        rw [hu] at hv
        cases hv
        obtain ⟨y, h1, h2⟩ := rs.get hu
        refine ⟨y, ?_, h2⟩
        unfold L2.start
        rw [List.getElem?_append_left (by simp; omega), List.getElem?_map, h1]
        rfl
    · rw [List.getElem?_append_right (by simpa using hi)] at hv
      rw [List.getElem?_replicate] at hv
      split at hv <;> cases hv
  · unfold fnM at Fi
    rw [if_pos (by rw [← hl]; exact rs.length.symm)] at Fi
    cases hb : body (us.map some ++ List.replicate (N.length - ps.length) none) st0 with
    | ok fl s1 =>
      rw [hb] at Fi
      cases fl with
      | nx env1 => exact fun β' H' e R' σ' re' => Fi.at e R' .non rfl
      | rt v => exact fun β' H' e R' w rw => Fi.at e R' w rw
      | bk env1 => exact Fi.elim
      | ct env1 => exact Fi.elim
      | xc c fs env1 => exact fun β' H' e R' σ' d re' hd => Fi β' H' e R' d hd
    | ex c fs s1 => rw [hb] at Fi; exact Fi.elim
    | bad => rw [hb] at Fi; exact Fi.elim
end

/-! ### calls -/
def mCallF (fm : List MV → M MV) (r : MA) (ds : List MV) : ME := fun env st => (r env st).bind fun vs s1 => fm (vs ++ ds) s1
def RKs (K : PySem.W.Frag) (vs : List MV) (ws : List V) : Prop := ∀ β H, RVs K β H vs ws
theorem rks_nil {K : PySem.W.Frag} : RKs K [] [] := fun _ _ => rfl
section
variable {X : Cx} {cl : Nat → Addr} {W : WX} {e o : Expr} {es : List Expr} {m mo : ME} {r : MA} {k : Nat} {f C : Addr} {fd : FuncData} {ps : List Str} {fm : List MV → M MV} {ds : List Value} {dvs : List V} {dms : List MV} {x mt : Str} {p pos apos : Pos}
theorem sp_call {β : List Addr} {H : Hp} {σ : L2.St} {us : List MV} {ws : List V} {st : Mst} {Q : VK} (F : FnG X.prog X.w X.K X.mg X.base cl k f fd ps fm) (hdm : RKs X.K dms dvs) (R : RSt X.K cl β st H) (rs : RVs X.K β H us ws) (Fi : Fin X.K cl β H (fm (us ++ dms) st) (kV X.K Q) (kX X.K cl W σ)) :
    spM X.K cl ps.length fm (ws ++ dvs) H Q (WE W σ) := by
  have ra := rs.append (hdm β H)
  refine ⟨?_, β, us ++ dms, st, ra, R, Fi⟩
  rw [ra.length]
  by_cases h : (us ++ dms).length = ps.length
  · exact h
  · rw [F.len _ _ h] at Fi
    exact Fi.elim
theorem se_call (F : FnG X.prog X.w X.K X.mg X.base cl k f fd ps fm) (hr : Room k X.A) (hg : Gl X x) (hm : X.mg x = some (.ref f)) (hk : PySem.W.keepIn X.K (.ref f) = true) (hb : Binds X.K fd ps ds) (hd : Vals dvs ds) (hdm : RKs X.K dms dvs) (tk : Takes X W)
    (ha : SA X cl W (e :: es) r) (hdb : (x == ("__debug__" : Str)) = false := by decide) (he : starEach (e :: es) X.env = (false, eval e X.env) :: starEach es X.env := by rfl) (hpl : (backTo pos (starEach es X.env)).any (·.1) = false := by rfl) :
    SE X cl W (.Call (.Name x p) (e :: es) [] pos) (mCallF fm r dms) := by
  refine PE.weaken (pe_callSD (E := WE W) F.ok hr hg hm hk hb hd (fun σ => passAt tk σ) ha hdb he hpl) fun σ H Q ⟨β, env, st, re, R, Fi⟩ => ?_
  exact tMA_bind re R Fi fun us ws β1 H1 st1 e1 rs re1 R1 F1 => sp_call F hdm R1 rs F1
theorem se_call0 (F : FnG X.prog X.w X.K X.mg X.base cl k f fd ps fm) (hr : Room k X.A) (hg : Gl X x) (hm : X.mg x = some (.ref f)) (hk : PySem.W.keepIn X.K (.ref f) = true) (hb : Binds X.K fd ps ds) (hd : Vals dvs ds) (hdm : RKs X.K dms dvs) (tk : Takes X W)
    (hdb : (x == ("__debug__" : Str)) = false := by decide) : SE X cl W (.Call (.Name x p) [] [] pos) (mCallF fm mNil dms) := by
  refine ⟨fun pins s σ H Q I ⟨β, env, st, re, R, Fi⟩ => ?_⟩
  refine wpAny_Call_Name_kw (ld_glob I hg hm ?_ hdb)
  exact PySem.W.callWith_K0 I.kIn hk (run_fnSD (us := []) (E := WE W) F.ok hr hb hd (passAt tk σ) I .nil (sp_call F hdm R (show RVs X.K β H [] [] from rfl) Fi))

/-! ### instances -/
def getF (cs : List Nat) (f : Str) (x : MV) : M MV := fun st => match x with
  | .ref a => match st[a]? with
    | some (.ins c fs) => if c ∈ cs then match fs.lookup f with
      | some v => .ok v st
      | none => .bad
      else .bad
    | _ => .bad
  | _ => .bad
def putFM (cs : List Nat) (f : Str) (x v : MV) : M Unit := fun st => match x with
  | .ref a => match st[a]? with
    | some (.ins c fs) => if c ∈ cs ∧ fs.length < 900 then .ok () (st.set a (.ins c (mputF f v fs))) else .bad
    | _ => .bad
  | _ => .bad
def ClsA (K : PySem.W.Frag) (cl : Nat → Addr) (cs : List Nat) (f : Str) : Prop := ∀ c, c ∈ cs → Cls K (cl c) ∧ NoAttr K (cl c) f
def mFld (cs : List Nat) (f : Str) (a : ME) : ME := mUn (getF cs f) a
theorem se_fld {cs : List Nat} {f : Str} (hc : ClsA X.K cl cs f) (he : SE X cl W e m) (hb : attributeBase e f X.env (eval e X.env) = eval e X.env := by rfl) : SE X cl W (.Attribute e f pos) (mFld cs f m) := by
  refine PE.weaken (pe_fld he hb) fun σ H Q ⟨β, env, st, re, R, F⟩ => ?_
  refine tM_bind re R F fun y w β1 H1 st1 e1 rw re1 R1 F1 => ?_
  unfold getF at F1
  split at F1
  · rename_i a
    obtain ⟨q, hq, rfl⟩ := rw.ref_of
    split at F1
    · rename_i c fs ho
      split at F1
      · rename_i hin
        split at F1
        · rename_i v hv
          obtain ⟨dx, gs, h1, h2, h3⟩ := R1.get hq ho
          obtain ⟨u, h4, h5⟩ := h3.lookup hv
          exact ⟨q, cl c, dx, gs, u, rfl, h1, (hc c hin).1, (hc c hin).2, h4, fin_val F1 R1 h5⟩
        · exact F1.elim
      · exact F1.elim
    · exact F1.elim
  · exact F1.elim
def sFldM (cs : List Nat) (f : Str) (a v : ME) : MS := fun env st => bindX env (v env st) fun y s1 => bindX env (a env s1) fun x s2 => (putFM cs f x y s2).bind fun _ s3 => .ok (.nx env) s3
theorem fld_put {β : List Addr} {H : Hp} {st : Mst} {a : Nat} {q : Addr} {c : Nat} {fs : Mfs} {v : MV} {w : V} {f : Str} {dx : Addr} {gs : List (Str × V)} (R : RSt X.K cl β st H) (hq : β[a]? = some q) (ho : st[a]? = some (.ins c fs)) (h1 : H q = some (.ins (cl c) dx gs)) (h2 : H dx = some (.own q)) (h3 : RFs X.K β H fs gs) (rv : RV X.K β H v w) :
    Ext X.K β β H (upd H q (.ins (cl c) dx (putF f w gs))) ∧ RSt X.K cl β (st.set a (.ins c (mputF f v fs))) (upd H q (.ins (cl c) dx (putF f w gs))) := by
  have hm : Mut (H q) := by rw [h1]; trivial
  have ne : dx ≠ q := by rintro rfl; rw [h1] at h2; cases h2
  refine ⟨.upd (.inr hm), R.set hq ho rfl rfl ⟨dx, _, upd_same, by rw [upd_ne ne]; exact h2, RFs.put (rv.mono (.upd (.inr hm))) (h3.mono (.upd (.inr hm)))⟩⟩
theorem ss_fld {cs : List Nat} {f : Str} {mv : ME} {value : Expr} {pos' : Pos} (hc : ClsA X.K cl cs f) (ho : SE X cl W o mo) (hv : SE X cl W value mv) (hs : swapsWith value (some (.Attribute o f pos')) pos.line X.env = pure false := by rfl) : SS X cl W (.Assign [.Attribute o f pos'] value pos) (sFldM cs f mo mv) := by
  refine PS.weaken (ps_fld ho hv hs) fun σ0 σ H ⟨β, env, st, re, R, F⟩ => ?_
  refine tMX (α := Unit) re R F fun y w β1 H1 st1 e1 rw re1 R1 F1 => ?_
  refine tMX (α := Unit) re1 R1 F1 fun z u β2 H2 st2 e2 ru re2 R2 F2 => ?_
  unfold putFM at F2
  split at F2
  · rename_i a
    obtain ⟨q, hq, rfl⟩ := ru.ref_of
    split at F2
    · rename_i c fs ho
      split at F2
      · rename_i hin
        obtain ⟨dx, gs, h1, h2, h3⟩ := R2.get hq ho
        obtain ⟨q1, q2⟩ := fld_put (f := f) R2 hq ho h1 h2 h3 (rw.mono e2)
        exact ⟨q, cl c, dx, gs, rfl, h1, (hc c hin.1).1, (hc c hin.1).2, by rw [h3.length]; omega, F2.at q1 q2 σ (re2.mono q1)⟩
      · exact F2.elim
    · exact F2.elim
  · exact F2.elim
def sFldAugM (c0 : Nat) (f : Str) (g : MV → MV → M MV) (a v : ME) : MS := fun env st => bindX env (a env st) fun x s1 => (getF [c0] f x s1).bind fun old s2 => bindX env (v env s2) fun y s3 => (g old y s3).bind fun z s4 => (putFM [c0] f x z s4).bind fun _ s5 => .ok (.nx env) s5
theorem ss_fldaug {c0 : Nat} {f : Str} {mv : ME} {value : Expr} {tpos : Pos} {op : Operator} {g : MV → MV → M MV} (hc : ClsA X.K cl [c0] f) (ho : SE X cl W o mo) (hv : SE X cl W value mv) (hop : OpG X cl (inplaceOp op) g) : SS X cl W (.AugAssign (.Attribute o f tpos) op value pos) (sFldAugM c0 f g mo mv) := by
  refine PS.weaken (ps_fldaug (rd := rG2 X.K cl g) ho hv (fun pins s σ H x y u v Q I r1 r2 hw => hop.run pins s σ H x y u v Q I r1 r2 hw)) fun D σ H ⟨β, env, st, re, R, F⟩ => ?_
  refine tMX (α := Unit) re R F fun y w β1 H1 st1 e1 rw re1 R1 F1 => ?_
  unfold getF at F1
  split at F1
  · rename_i a
    obtain ⟨q, hq, rfl⟩ := rw.ref_of
    split at F1
    · rename_i c fs ho
      split at F1
      · rename_i hin
        split at F1
        · rename_i v0 hv0
          obtain ⟨dx, gs, h1, h2, h3⟩ := R1.get hq ho
          obtain ⟨u, h4, h5⟩ := h3.lookup hv0
          refine ⟨q, cl c, dx, gs, u, rfl, h1, (hc c hin).1, (hc c hin).2, h4, ?_⟩
          refine tMX (α := Unit) re1 R1 F1 fun y2 w2 β2 H2 st2 e2 rw2 re2 R2 F2 => ?_
          refine ⟨β2, v0, y2, st2, h5.mono e2, rw2, R2, fin_no (hop.nx _ _ _) (F2.bind.imp (fun z st3 β3 H3 e3 R3 F3 w3 r3 => ?_) fun _ _ _ _ _ _ _ q => q)⟩
          unfold putFM at F3
          simp only at F3
          split at F3
          · rename_i c' fs' ho'
            split at F3
            · rename_i hin'
              have hq3 := e3.pre _ _ (e2.pre _ _ hq)
              obtain ⟨dx', gs', h1', h2', h3'⟩ := R3.get hq3 ho'
              obtain ⟨q1, q2⟩ := fld_put (f := f) R3 hq3 ho' h1' h2' h3' r3
              have ec : c = c0 := by simpa using hin
              have ec' : c' = c0 := by simpa using hin'.1
              rw [ec'] at h1' q1 q2
              rw [ec]
              exact ⟨dx', gs', h1', by rw [h3'.length]; omega, F3.at q1 (by rw [ec'] ; exact q2) σ ((re2.mono e3).mono q1)⟩
            · exact F3.elim
          · exact F3.elim
        · exact F1.elim
      · exact F1.elim
    · exact F1.elim
  · exact F1.elim
end
end BH

set_option Elab.async false
set_option linter.all false
set_option maxRecDepth 100000
set_option autoImplicit false
set_option maxHeartbeats 1000000
/-! Methods, making, methods of lists, loops. -/
namespace BH
open PySem PySem.Spec PyProof.Rows L2

section
variable {X : Cx} {cl : Nat → Addr} {W : WX} {e o : Expr} {es : List Expr} {m mo : ME} {r : MA} {k : Nat} {f C : Addr} {fd : FuncData} {ps : List Str} {fm : List MV → M MV} {ds : List Value} {dvs : List V} {dms : List MV} {x mt : Str} {p pos apos : Pos}
/-! ### o.m(..) of an instance of class c -/
def clsOf (c : Nat) (mt : Str) (x : MV) (st : Mst) : Bool := match x with
  | .ref a => match st[a]? with
    | some (.ins c' fs) => c' == c && (fs.lookup mt).isNone
    | _ => false
  | _ => false
def mMeth (c : Nat) (mt : Str) (fm : List MV → M MV) (o : ME) (r : MA) (ds : List MV) : ME := fun env st => (o env st).bind fun x s1 => if clsOf c mt x s1 = true then (r env s1).bind fun vs s2 => fm (x :: (vs ++ ds)) s2 else .bad
theorem clsOf_rv {K : PySem.W.Frag} {β : List Addr} {H : Hp} {c : Nat} {y : MV} {w : V} {st : Mst} (R : RSt K cl β st H) (r : RV K β H y w) (h : clsOf c mt y st = true) : ∃ a dx gs, w = .ref a ∧ H a = some (.ins (cl c) dx gs) ∧ gs.lookup mt = none := by
  unfold clsOf at h
  split at h
  · rename_i a
    obtain ⟨q, hq, rfl⟩ := r.ref_of
    split at h
    · rename_i c' fs ho
      rw [Bool.and_eq_true] at h
      obtain ⟨h1, h2⟩ := h
      have : c' = c := by simpa using h1
      subst this
      obtain ⟨dx, gs, g1, g2, g3⟩ := R.get hq ho
      exact ⟨q, dx, gs, rfl, g1, g3.lookup_none (by simpa using h2)⟩
    · cases h
  · cases h
theorem se_meth {pl : Sem Bool} {c : Nat} (he : SE X cl W o mo) (hcl : Cls X.K (cl c)) (hm : Meth X.K (cl c) mt f) (F : FnG X.prog X.w X.K X.mg X.base cl k f fd ps fm) (hr : Room k X.A) (hb : Binds X.K fd ps ds) (hd : Vals dvs ds) (hdm : RKs X.K dms dvs) (tk : Takes X W) (ha : SA X cl W (e :: es) r)
    (hst : starEach (e :: es) X.env = (false, eval e X.env) :: starEach es X.env := by rfl) (hpl : (backTo pos (starEach es X.env)).any (·.1) = false := by rfl)
    (ht : eval (.Call (.Attribute o mt apos) (e :: es) [] pos) X.env = (do
      let ov ← eval o X.env
      standAt apos.atName
      let (f, first) ← holding [ov] (getMethod ov mt pl)
      callWith pos f first (backTo pos (starEach (e :: es) X.env)) (backToKw pos (keywordEach [] X.env))) := by rfl) :
    SE X cl W (.Call (.Attribute o mt apos) (e :: es) [] pos) (mMeth c mt fm mo r dms) := by
  refine ⟨fun pins s σ H Q I ⟨β, env, st, re, R, Fi⟩ => ?_⟩
  have q0 : tM X.K cl W mo σ H fun y H1 => ∃ a dx gs, y = .ref a ∧ H1 a = some (.ins (cl c) dx gs) ∧ gs.lookup mt = none ∧ tMA X.K cl W r σ H1 fun vs H2 => spM X.K cl ps.length fm ((y :: vs) ++ dvs) H2 Q (WE W σ) := by
    refine tM_bind re R Fi fun y w β1 H1 st1 e1 rw re1 R1 F1 => ?_
    split at F1
    · rename_i hc
      obtain ⟨a, dx, gs, h1, h2, h3⟩ := clsOf_rv R1 rw hc
      refine ⟨a, dx, gs, h1, h2, h3, tMA_bind re1 R1 F1 fun us ws β2 H2 st2 e2 rs re2 R2 F2 => ?_⟩
      exact sp_call (us := y :: us) F hdm R2 ⟨w, ws, rfl, rw.mono e2, rs⟩ F2
    · exact F1.elim
  refine PySem.W.methodCall_KW (pl := pl) (thn (he.run pins s σ H _ I q0) fun u s1 ⟨y, H1, I1, rx, a, dx, fs, ex, ea, l, q⟩ => ?_) ht
  subst ex
  obtain rfl : u = Value.ref a := rx
  refine getmeth_ok I1 ea hcl hm l ?_
  refine PySem.W.callWith_K (first := [.ref a]) (h₀ := X.base) I.ok.mod.kin hm.kp (thn (ha.run pos pins s1 σ H1 _ I1 q) fun us s2 ⟨vs, H2, I2, r, q2⟩ => ⟨I2.kIn, ?_⟩) hst hpl
  exact run_fnSD (us := .ref a :: us) (vs := .ref a :: vs) (E := WE W) F.ok hr hb hd (passAt tk σ) I2 (.cons rfl r) q2
theorem se_meth0 {pl : Sem Bool} {c : Nat} (he : SE X cl W o mo) (hcl : Cls X.K (cl c)) (hm : Meth X.K (cl c) mt f) (F : FnG X.prog X.w X.K X.mg X.base cl k f fd ps fm) (hr : Room k X.A) (hb : Binds X.K fd ps ds) (hd : Vals dvs ds) (hdm : RKs X.K dms dvs) (tk : Takes X W)
    (ht : eval (.Call (.Attribute o mt apos) [] [] pos) X.env = (do
      let ov ← eval o X.env
      standAt apos.atName
      let (f, first) ← holding [ov] (getMethod ov mt pl)
      callWith pos f first (backTo pos (starEach [] X.env)) (backToKw pos (keywordEach [] X.env))) := by rfl) :
    SE X cl W (.Call (.Attribute o mt apos) [] [] pos) (mMeth c mt fm mo mNil dms) := by
  refine ⟨fun pins s σ H Q I ⟨β, env, st, re, R, Fi⟩ => ?_⟩
  have q0 : tM X.K cl W mo σ H fun y H1 => ∃ a dx gs, y = .ref a ∧ H1 a = some (.ins (cl c) dx gs) ∧ gs.lookup mt = none ∧ spM X.K cl ps.length fm ([y] ++ dvs) H1 Q (WE W σ) := by
    refine tM_bind re R Fi fun y w β1 H1 st1 e1 rw re1 R1 F1 => ?_
    split at F1
    · rename_i hc
      obtain ⟨a, dx, gs, h1, h2, h3⟩ := clsOf_rv R1 rw hc
      exact ⟨a, dx, gs, h1, h2, h3, sp_call (us := [y]) F hdm R1 ⟨w, [], rfl, rw, rfl⟩ F1⟩
    · exact F1.elim
  refine PySem.W.methodCall_KW (pl := pl) (thn (he.run pins s σ H _ I q0) fun u s1 ⟨y, H1, I1, rx, a, dx, fs, ex, ea, l, q⟩ => ?_) ht
  subst ex
  obtain rfl : u = Value.ref a := rx
  refine getmeth_ok I1 ea hcl hm l ?_
  exact PySem.W.callWith_K0 (first := [.ref a]) I1.kIn hm.kp (run_fnSD (us := [.ref a]) (vs := [.ref a]) (E := WE W) F.ok hr hb hd (passAt tk σ) I1 (.cons rfl .nil) q)

/-! ### C(..) -/
def mMake (c : Nat) (init : List MV → M MV) (r : MA) (ds : List MV) : ME := fun env st => (r env st).bind fun vs s1 => (init (.ref s1.length :: (vs ++ ds)) (s1 ++ [.ins c []])).bind fun v s2 => match v with
  | .non => .ok (.ref s1.length) s2
  | _ => .bad
theorem run_makeS {E : L2.St → XK} {pins : List (Addr × Obj)} {σ : L2.St} {H : Hp} {s : Shared} {Q : VK} {us : List Value} {vs : List V} {sp : Sp} {CX : CXT} (M : Mk X.K C f) (F : FnOk X.prog X.w X.K X.mg X.base CX k f fd ps sp) (hr : Room (k + 1) X.A) (hb : Binds X.K fd ps ds) (hd : Vals dvs ds)
    (hx : ∀ pins H s e s', Inv X pins σ H s → CX X.stack H s (E σ) e s' → X.xe e s') (I : Inv X pins σ H s) (r : Vals vs us)
    (h : ∀ x dx, H x = none → H dx = none → dx ≠ x → sp (.ref x :: (vs ++ dvs)) (upd (upd H dx (.own x)) x (.ins C dx [])) (fun v H2 => v = .non ∧ Q (.ref x) H2) (E σ)) :
    wpAny (model X.prog X.w) X.A (call (.ref C) us) (EP X pins σ Q) X.xe s := by
  have hq := h (s.heap.objs.size + 1) s.heap.objs.size (I.hok.fresh (Nat.le_succ _)) (I.hok.fresh (Nat.le_refl _)) (Nat.ne_of_lt (Nat.lt_succ_self _))
  have I2 := Inv.made (C := C) I
  have r2 : Vals (V.ref (s.heap.objs.size + 1) :: (vs ++ dvs)) (Value.ref (s.heap.objs.size + 1) :: (us ++ ds)) := .cons rfl (r.append hd)
  have hl : (Value.ref (s.heap.objs.size + 1) :: us ++ ds).length = ps.length := by
    have e := r2.length
    rw [F.len _ _ _ _ hq] at e
    exact e.symm
  refine wpAny_call (make_map (f := f) I.kIn M.makes M.init (beq_iff_eq.mp M.fn) (codeAny_mono (F.run _ X.stack _ _ ⟨Value.ref (s.heap.objs.size + 1) :: us, []⟩ (Value.ref (s.heap.objs.size + 1) :: (us ++ ds)) _ _ (E σ) (hr.make C us [])
    (I2.env0.make C us []) (hb _ (Value.ref (s.heap.objs.size + 1) :: us) I2.kIn hl) r2 hq) fun r s' hq' => ?_))
  cases r with
  | error e => exact hx pins _ _ e s' I2 hq'
  | ok fl =>
    cases fl with
    | ret u =>
      obtain ⟨v, H', I3, rv, ev, q3⟩ := I2.after hq'
      subst ev
      exact ⟨rv, ⟨V.ref (s.heap.objs.size + 1), H', I3, rfl, q3⟩⟩
    | next => exact False.elim hq'
    | brk => exact False.elim hq'
    | cont => exact False.elim hq'
theorem make_sp {c : Nat} {β : List Addr} {H : Hp} {σ : L2.St} {us : List MV} {ws : List V} {st : Mst} {Q : VK} (F : FnG X.prog X.w X.K X.mg X.base cl k f fd ps fm) (hdm : RKs X.K dms dvs) (R : RSt X.K cl β st H) (rs : RVs X.K β H us ws)
    (Fi : Fin X.K cl β H ((fm (.ref st.length :: (us ++ dms)) (st ++ [.ins c []])).bind fun v s2 => match v with
      | .non => .ok (.ref st.length) s2
      | _ => .bad) (kV X.K Q) (kX X.K cl W σ)) {x dx : Addr} (hx : H x = none) (hdx : H dx = none) (ne : dx ≠ x) :
    spM X.K cl ps.length fm (.ref x :: (ws ++ dvs)) (upd (upd H dx (.own x)) x (.ins (cl c) dx [])) (fun v H2 => v = .non ∧ Q (.ref x) H2) (WE W σ) := by
  have hx1 : (upd H dx (.own x)) x = none := by rw [upd_ne (Ne.symm ne)]; exact hx
  have R1 : RSt X.K cl β st (upd H dx (.own x)) := R.side hdx
  have E1 : Ext X.K β β H (upd H dx (.own x)) := .upd (.inl hdx)
  have E2 : Ext X.K β (β ++ [x]) (upd H dx (.own x)) (upd (upd H dx (.own x)) x (.ins (cl c) dx [])) := .snoc hx1
  have R2 : RSt X.K cl (β ++ [x]) (st ++ [.ins c []]) (upd (upd H dx (.own x)) x (.ins (cl c) dx [])) := R1.snoc hx1 ⟨dx, [], upd_same, by rw [upd_ne ne, upd_same], rfl⟩
  have E := E1.trans E2
  have rx : RV X.K (β ++ [x]) (upd (upd H dx (.own x)) x (.ins (cl c) dx [])) (.ref st.length) (.ref x) := ⟨x, by rw [← R.len]; simp, rfl⟩
  have F2 := (Fin.weak E Fi).bind
  refine sp_call (us := .ref st.length :: us) (ws := .ref x :: ws) F hdm R2 ⟨_, ws, rfl, rx, rs.mono E⟩ (F2.imp (fun v s2 β2 H2 e2 R3 F3 w rw => ?_) fun c fs s2 β2 H2 e2 R3 q => q)
  cases v with
  | non => cases (show w = .non from rw); exact ⟨rfl, F3.here R3 _ (rx.mono e2)⟩
  | _ => exact F3.elim
theorem se_make {c : Nat} (M : Mk X.K (cl c) f) (F : FnG X.prog X.w X.K X.mg X.base cl k f fd ps fm) (hr : Room (k + 1) X.A) (hg : Gl X x) (hm : X.mg x = some (.ref (cl c))) (hb : Binds X.K fd ps ds) (hd : Vals dvs ds) (hdm : RKs X.K dms dvs) (tk : Takes X W)
    (ha : SA X cl W (e :: es) r) (hdb : (x == ("__debug__" : Str)) = false := by decide) (he : starEach (e :: es) X.env = (false, eval e X.env) :: starEach es X.env := by rfl) (hpl : (backTo pos (starEach es X.env)).any (·.1) = false := by rfl) :
    SE X cl W (.Call (.Name x p) (e :: es) [] pos) (mMake c fm r dms) := by
  refine ⟨fun pins s σ H Q I ⟨β, env, st, re, R, Fi⟩ => ?_⟩
  have q0 : tMA X.K cl W r σ H fun vs H1 => ∀ x dx, H1 x = none → H1 dx = none → dx ≠ x → spM X.K cl ps.length fm (.ref x :: (vs ++ dvs)) (upd (upd H1 dx (.own x)) x (.ins (cl c) dx [])) (fun v H2 => v = .non ∧ Q (.ref x) H2) (WE W σ) :=
    tMA_bind re R Fi fun us ws β1 H1 st1 e1 rs re1 R1 F1 x dx hx hdx ne => make_sp F hdm R1 rs F1 hx hdx ne
  refine wpAny_Call_Name_kw (ld_glob I hg hm ?_ hdb)
  refine PySem.W.callWith_K (h₀ := X.base) I.ok.mod.kin M.kp (thn (ha.run pos pins s σ H _ I q0) fun us s1 ⟨vs, H1, I1, r, q⟩ => ⟨I1.kIn, ?_⟩) he hpl
  exact run_makeS (E := WE W) M F.ok hr hb hd (passAt tk σ) I1 r q
theorem se_make0 {c : Nat} (M : Mk X.K (cl c) f) (F : FnG X.prog X.w X.K X.mg X.base cl k f fd ps fm) (hr : Room (k + 1) X.A) (hg : Gl X x) (hm : X.mg x = some (.ref (cl c))) (hb : Binds X.K fd ps ds) (hd : Vals dvs ds) (hdm : RKs X.K dms dvs) (tk : Takes X W)
    (hdb : (x == ("__debug__" : Str)) = false := by decide) : SE X cl W (.Call (.Name x p) [] [] pos) (mMake c fm mNil dms) := by
  refine ⟨fun pins s σ H Q I ⟨β, env, st, re, R, Fi⟩ => ?_⟩
  refine wpAny_Call_Name_kw (ld_glob I hg hm ?_ hdb)
  exact PySem.W.callWith_K0 I.kIn M.kp (run_makeS (us := []) (vs := []) (E := WE W) M F.ok hr hb hd (passAt tk σ) I .nil fun x dx hx hdx ne => make_sp (us := []) (ws := []) F hdm R rfl Fi hx hdx ne)

/-! ### methods of lists -/
def gAppend : MV → List MV → M MV
  | .ref a, [y], st => match st[a]? with
    | some (.lst xs) => if xs.length < 16777216 then .ok .non (st.set a (.lst (xs ++ [y]))) else .bad
    | _ => .bad
  | _, _, _ => .bad
def gPop : MV → List MV → M MV
  | .ref a, [], st => match st[a]? with
    | some (.lst xs) => match xs[xs.length - 1]? with
      | some y => .ok y (st.set a (.lst xs.dropLast))
      | none => .bad
    | _ => .bad
  | _, _, _ => .bad
def gExtend : MV → List MV → M MV
  | .ref a, [.ref b], st => match st[a]?, st[b]? with
    | some (.lst xs), some (.lst ys) => if xs.length + ys.length ≤ 16777216 then .ok .non (st.set a (.lst (xs ++ ys))) else .bad
    | _, _ => .bad
  | _, _, _ => .bad
structure MtG (X : Cx) (cl : Nat → Addr) (T id : String) (g : MV → List MV → M MV) : Prop where
  run : MtR X id fun x xs H Q => ∃ β u us st, RV X.K β H u x ∧ RVs X.K β H us xs ∧ RSt X.K cl β st H ∧ Fin X.K cl β H (g u us st) (kV X.K Q) kNo
  nx : ∀ u us st c fs st', g u us st ≠ .ex c fs st'
/-- the receiver's kind -/
def tyM (T : String) (x : MV) (st : Mst) : Bool := match x with
  | .ref a => match st[a]? with
    | some (.lst _) => T == "list"
    | some (.rol _) => T == "list"
    | _ => false
  | .str _ => T == "str"
  | _ => false
theorem tyM_rv {K : PySem.W.Frag} {β : List Addr} {H : Hp} {T : String} {y : MV} {w : V} {st : Mst} (R : RSt K cl β st H) (r : RV K β H y w) (h : tyM T y st = true) : tyV K T w H := by
  unfold tyM at h
  split at h
  · rename_i a
    obtain ⟨q, hq, rfl⟩ := r.ref_of
    split at h
    · rename_i xs ho
      obtain ⟨ys, h1, h2⟩ := R.get hq ho
      exact .inl ⟨by simpa using h, ys, SqL.of h1⟩
    · rename_i xs ho
      obtain ⟨ys, h1, h2⟩ := R.get hq ho
      exact .inl ⟨by simpa using h, ys, h1.sq⟩
    · cases h
  · cases r.str_of
    exact (by simpa using h : T = "str")
  · cases h
def mBM (T : String) (g : MV → List MV → M MV) (o : ME) (r : MA) : ME := fun env st => (o env st).bind fun x s1 => if tyM T x s1 = true then (r env s1).bind fun vs s2 => g x vs s2 else .bad
theorem se_bm {name : Str} {T id : String} {cpos : Pos} {g : MV → List MV → M MV} (pa : PlainAttrs T) (slot : Slot T name id) (hty : typeOf (.builtin id) = pure (.type "method_descriptor")) (hm : MtG X cl T id g) (ho : SE X cl W o mo) (ha : SA X cl W (e :: es) r)
    (hbase : attributeBase o name X.env (eval o X.env) = eval o X.env := by rfl)
    (hfew : ((backTo cpos (starEach (e :: es) X.env)).all (fun x => !x.1) && (backToKw cpos (keywordEach [] X.env)).all (fun x => x.1.isSome)
      && decide ((e :: es).length + ([] : List Keyword).length + (if ([] : List Keyword).isEmpty then 0 else 1) < 30)) = true := by rfl)
    (hline : (apos.endLine == cpos.line) = true := by rfl) (hs : starEach (e :: es) X.env = (false, eval e X.env) :: starEach es X.env := by rfl) (hplain : (backTo cpos (starEach es X.env)).any (·.1) = false := by rfl) :
    SE X cl W (.Call (.Attribute o name apos) (e :: es) [] cpos) (mBM T g mo r) := by
  refine PE.weaken (pe_bm pa slot hty hm.run ho ha hbase hfew hline hs hplain) fun σ H Q ⟨β, env, st, re, R, F⟩ => ?_
  refine tM_bind re R F fun y w β1 H1 st1 e1 rw re1 R1 F1 => ?_
  split at F1
  · rename_i ht
    refine ⟨tyM_rv R1 rw ht, tMA_bind re1 R1 F1 fun us ws β2 H2 st2 e2 rs re2 R2 F2 => ?_⟩
    exact ⟨β2, y, us, st2, rw.mono e2, rs, R2, fin_no (hm.nx _ _ _) F2⟩
  · exact F1.elim
theorem se_bm0 {name : Str} {T id : String} {cpos : Pos} {g : MV → List MV → M MV} (pa : PlainAttrs T) (slot : Slot T name id) (hty : typeOf (.builtin id) = pure (.type "method_descriptor")) (hm : MtG X cl T id g) (ho : SE X cl W o mo)
    (hbase : attributeBase o name X.env (eval o X.env) = eval o X.env := by rfl) (hline : (apos.endLine == cpos.line) = true := by rfl) :
    SE X cl W (.Call (.Attribute o name apos) [] [] cpos) (mBM T g mo mNil) := by
  refine PE.weaken (pe_bm0 pa slot hty hm.run ho hbase hline) fun σ H Q ⟨β, env, st, re, R, F⟩ => ?_
  refine tM_bind re R F fun y w β1 H1 st1 e1 rw re1 R1 F1 => ?_
  split at F1
  · rename_i ht
    exact ⟨tyM_rv R1 rw ht, β1, y, [], st1, rw, rfl, R1, fin_no (hm.nx _ _ _) F1⟩
  · exact F1.elim
theorem mg_append : MtG X cl "list" "list.append" gAppend := by
  refine ⟨fun pins s σ H x xs v us Q I r1 r2 ⟨β, u, ms, st, ru, rs, R, F⟩ => mt_append pins s σ H x xs v us Q I r1 r2 ?_, fun u us st c fs st' h => ?_⟩
  · unfold gAppend at F
    split at F
    · rename_i a y st1
      obtain ⟨q, hq, rfl⟩ := ru.ref_of
      obtain ⟨w, rfl, rw⟩ := one_of rs
      split at F
      · rename_i zs ho
        obtain ⟨ys, h1, h2⟩ := R.get hq ho
        split at F
        · rename_i hl
          exact ⟨q, ys, w, rfl, rfl, h1, by rw [h2.length]; exact line_lt hl, fin_set F R hq ho rfl (h2.append (RVs.one rw)) (show _ = _ from rfl)⟩
        · exact F.elim
      · exact F.elim
    · exact F.elim
  · unfold gAppend at h
    repeat' (first | (split at h) | cases h)
theorem mg_pop : MtG X cl "list" "list.pop" gPop := by
  refine ⟨fun pins s σ H x xs v us Q I r1 r2 ⟨β, u, ms, st, ru, rs, R, F⟩ => mt_pop pins s σ H x xs v us Q I r1 r2 ?_, fun u us st c fs st' h => ?_⟩
  · unfold gPop at F
    split at F
    · rename_i a st1
      obtain ⟨q, hq, rfl⟩ := ru.ref_of
      split at F
      · rename_i zs ho
        obtain ⟨ys, h1, h2⟩ := R.get hq ho
        split at F
        · rename_i y hy
          obtain ⟨w, hw, rw⟩ := h2.get hy
          refine ⟨q, ys, w, rfl, (show xs = [] from rs), h1, by rw [h2.length]; exact hw, fin_set F R hq ho rfl ?_ rw⟩
          have e1 : ys.dropLast = ys.take zs.dropLast.length := by rw [List.dropLast_eq_take, List.length_dropLast, h2.length]
          have e2 : zs.dropLast = zs.take zs.dropLast.length := by rw [List.length_dropLast, ← List.dropLast_eq_take]
          rw [e1]
          rw [e2]
          simpa using h2.take (zs.length - 1)
        · exact F.elim
      · exact F.elim
    · exact F.elim
  · unfold gPop at h
    repeat' (first | (split at h) | cases h)
theorem mg_extend : MtG X cl "list" "list.extend" gExtend := by
  refine ⟨fun pins s σ H x xs v us Q I r1 r2 ⟨β, u, ms, st, ru, rs, R, F⟩ => mt_extend pins s σ H x xs v us Q I r1 r2 ?_, fun u us st c fs st' h => ?_⟩
  · unfold gExtend at F
    split at F
    · rename_i a b st1
      obtain ⟨q, hq, rfl⟩ := ru.ref_of
      obtain ⟨w, rfl, rw⟩ := one_of rs
      obtain ⟨q2, hq2, rfl⟩ := rw.ref_of
      split at F
      · rename_i zs zs2 ho ho2
        obtain ⟨ys, h1, h2⟩ := R.get hq ho
        obtain ⟨ys2, g1, g2⟩ := R.get hq2 ho2
        split at F
        · rename_i hl
          exact ⟨q, q2, ys, ys2, rfl, rfl, h1, g1, by rw [h2.length, g2.length]; exact line_le hl, fin_set F R hq ho rfl (h2.append g2) (show _ = _ from rfl)⟩
        · exact F.elim
      · exact F.elim
    · exact F.elim
  · unfold gExtend at h
    repeat' (first | (split at h) | cases h)
end
end BH

set_option Elab.async false
set_option linter.all false
set_option maxRecDepth 100000
set_option autoImplicit false
set_option maxHeartbeats 1000000
/-! Loops. -/
namespace BH
open PySem PySem.Spec PyProof.Rows L2

/-- what is walked: at turn i: no answer (none), the end (some none), an item -/
structure Src where
  next : Nat → Mst → Option (Option MV)
  size : Nat
abbrev MIter := Env → M Src
def RSrc (K : PySem.W.Frag) (cl : Nat → Addr) (β : List Addr) (H : Hp) (src : Src) (J : It) : Prop :=
  ∀ (i : Nat) (β1 : List Addr) (H1 : Hp) (st1 : Mst), Ext K β β1 H H1 → RSt K cl β1 st1 H1 → match src.next i st1 with
    | none => True
    | some none => J.stop i H1
    | some (some x) => J.go i H1 ∧ ∀ w H2, J.yld i H1 w H2 → Ext K β1 β1 H1 H2 ∧ RSt K cl β1 st1 H2 ∧ RV K β1 H2 x w
def tI (K : PySem.W.Frag) (cl : Nat → Addr) (W : WX) (mi : MIter) : TI := fun σ H R => ∃ β env st, REnv K β H env σ ∧ RSt K cl β st H ∧ Fin K cl β H (mi env st) (fun src _ β' H' => ∀ J, RSrc K cl β' H' src J → R J H') (kX K cl W σ)
def SI (X : Cx) (cl : Nat → Addr) (W : WX) (tg iter : Expr) (mi : MIter) : Prop := PI X tg iter (tI X.K cl W mi)
theorem PI.weaken {X : Cx} {tg iter : Expr} {t t' : TI} (h : PI X tg iter t) (i : ∀ σ H R, t' σ H R → t σ H R) : PI X tg iter t' := ⟨fun pins s σ H R I hw => h.run pins s σ H R I (i _ _ _ hw)⟩
theorem RSrc.mono {K : PySem.W.Frag} {cl : Nat → Addr} {β β' : List Addr} {H H' : Hp} {src : Src} {J : It} (e : Ext K β β' H H') (h : RSrc K cl β H src J) : RSrc K cl β' H' src J := fun i β1 H1 st1 e1 R1 => h i β1 H1 st1 (e.trans e1) R1

def srcItems (xs : List MV) : Src := ⟨fun i _ => some xs[i]?, xs.length⟩
def srcList (a : Nat) (n : Nat) : Src := ⟨fun i st => (itemsOf st (.ref a)).map fun xs => xs[i]?, n⟩
def srcRange (lo : Int) (n : Nat) : Src := ⟨fun i _ => some (if i < n then some (.int (lo + i)) else none), n⟩
def srcEnum (s : Src) : Src := ⟨fun i st => (s.next i st).map fun o => o.map fun x => .tup [.int (i : Nat), x], s.size⟩
def srcStr (x : Str) : Src := ⟨fun i _ => some (x.cps[i]?.map fun c => .str ⟨#[c]⟩), x.cps.size⟩
def srcOf (v : MV) : M Src := fun st => match v with
  | .tup xs => .ok (srcItems xs) st
  | .str x => .ok (srcStr x) st
  | .ref a => match itemsOf st (.ref a) with
    | some xs => .ok (srcList a xs.length) st
    | none => .bad
  | _ => .bad
def iOf (m : ME) : MIter := fun env st => (m env st).bind srcOf
def srcSeq (v : MV) : M Src := fun st => match v with
  | .str _ => .bad
  | v => srcOf v st
def iEnumM (m : ME) : MIter := fun env st => (m env st).bind fun v s1 => (srcSeq v s1).bind fun src s2 => .ok (srcEnum src) s2
def rngOf1 (vs : List MV) : M Src := fun st => match vs with
  | [.int j] => if -(2 ^ 62) ≤ j ∧ j < 2 ^ 62 then .ok (srcRange 0 j.toNat) st else .bad
  | _ => .bad
def rngOf2 (vs : List MV) : M Src := fun st => match vs with
  | [.int i, .int j] => if -(2 ^ 62) ≤ i ∧ i < 2 ^ 62 ∧ -(2 ^ 62) ≤ j ∧ j < 2 ^ 62 then .ok (srcRange i (j - i).toNat) st else .bad
  | _ => .bad
def iRange1 (r : MA) : MIter := fun env st => (r env st).bind rngOf1
def iRange2 (r : MA) : MIter := fun env st => (r env st).bind rngOf2

section
variable {K : PySem.W.Frag} {cl : Nat → Addr} {β : List Addr} {H : Hp}
theorem rsrc_range (lo : Int) (n : Nat) : RSrc K cl β H (srcRange lo n) (Itr lo n) := by
  intro i β1 H1 st1 e R
  show match some (if i < n then some (MV.int (lo + i)) else none) with
    | none => True
    | some none => (Itr lo n).stop i H1
    | some (some x) => (Itr lo n).go i H1 ∧ ∀ w H2, (Itr lo n).yld i H1 w H2 → Ext K β1 β1 H1 H2 ∧ RSt K cl β1 st1 H2 ∧ RV K β1 H2 x w
  by_cases h : i < n
  · rw [if_pos h]
    refine ⟨h, fun w H2 y => ?_⟩
    obtain ⟨rfl, rfl⟩ := y
    exact ⟨.refl, R, rfl⟩
  · rw [if_neg h]
    exact Nat.le_of_not_lt h
theorem rsrc_tup {p : Addr} {xs : List MV} {ys : List V} (hs : SqT K H p ys) (h : RVs K β H xs ys) : RSrc K cl β H (srcItems xs) (Itt K p) := by
  intro i β1 H1 st1 e R
  have hs1 := e.tup _ _ hs
  have h1 := h.mono e
  show match some xs[i]? with
    | none => True
    | some none => (Itt K p).stop i H1
    | some (some x) => (Itt K p).go i H1 ∧ ∀ w H2, (Itt K p).yld i H1 w H2 → Ext K β1 β1 H1 H2 ∧ RSt K cl β1 st1 H2 ∧ RV K β1 H2 x w
  cases hx : xs[i]? with
  | none =>
    refine ⟨ys, hs1, ?_⟩
    rw [h.length]
    exact List.getElem?_eq_none_iff.mp hx
  | some x =>
    obtain ⟨y, hy, ry⟩ := h1.get hx
    refine ⟨⟨ys, y, hs1, hy⟩, fun w H2 yl => ?_⟩
    obtain ⟨rfl, yl⟩ := yl
    have := yl ys hs1
    rw [hy] at this
    cases this
    exact ⟨.refl, R, ry⟩
theorem rsrc_str {x : Str} : RSrc K cl β H (srcStr x) (Its x) := by
  intro i β1 H1 st1 e R
  show match some (x.cps[i]?.map fun c => MV.str ⟨#[c]⟩) with
    | none => True
    | some none => (Its x).stop i H1
    | some (some y) => (Its x).go i H1 ∧ ∀ w H2, (Its x).yld i H1 w H2 → Ext K β1 β1 H1 H2 ∧ RSt K cl β1 st1 H2 ∧ RV K β1 H2 y w
  cases hx : x.cps[i]? with
  | none => exact Array.getElem?_eq_none_iff.mp hx
  | some c =>
    refine ⟨(Array.getElem?_eq_some_iff.mp hx).1, fun w H2 yl => ?_⟩
    obtain ⟨rfl, c', h1, rfl⟩ := yl
    rw [hx] at h1
    cases h1
    exact ⟨.refl, R, rfl⟩
theorem itemsL {a : Nat} {p : Addr} {st : Mst} {xs : List MV} (R : RSt K cl β st H) (hp : β[a]? = some p) (h : itemsOf st (.ref a) = some xs) : ∃ ys, SqL K H p ys ∧ RVs K β H xs ys := by
  simp only [itemsOf] at h
  split at h
  · rename_i zs ho
    cases h
    obtain ⟨ys, h1, h2⟩ := R.get hp ho
    exact ⟨ys, SqL.of h1, h2⟩
  · rename_i zs ho
    cases h
    obtain ⟨ys, h1, h2⟩ := R.get hp ho
    exact ⟨ys, h1.sq, h2⟩
  · cases h
theorem rsrc_list {a n : Nat} {p : Addr} (hp : β[a]? = some p) : RSrc K cl β H (srcList a n) (Itl K p) := by
  intro i β1 H1 st1 e R
  show match (itemsOf st1 (.ref a)).map fun xs => xs[i]? with
    | none => True
    | some none => (Itl K p).stop i H1
    | some (some x) => (Itl K p).go i H1 ∧ ∀ w H2, (Itl K p).yld i H1 w H2 → Ext K β1 β1 H1 H2 ∧ RSt K cl β1 st1 H2 ∧ RV K β1 H2 x w
  cases hx : itemsOf st1 (.ref a) with
  | none => trivial
  | some xs =>
    obtain ⟨ys, hs, h1⟩ := itemsL R (e.pre _ _ hp) hx
    simp only [Option.map_some]
    cases hi : xs[i]? with
    | none =>
      refine ⟨ys, hs, ?_⟩
      rw [h1.length]
      exact List.getElem?_eq_none_iff.mp hi
    | some x =>
      obtain ⟨y, hy, ry⟩ := h1.get hi
      refine ⟨⟨ys, y, hs, hy⟩, fun w H2 yl => ?_⟩
      obtain ⟨rfl, yl⟩ := yl
      have := yl ys hs
      rw [hy] at this
      cases this
      exact ⟨.refl, R, ry⟩
theorem rsrc_enumL {a n : Nat} {p : Addr} (hp : β[a]? = some p) : RSrc K cl β H (srcEnum (srcList a n)) (Ite K p) := by
  intro i β1 H1 st1 e R
  show match ((itemsOf st1 (.ref a)).map fun xs => xs[i]?).map fun o => o.map fun x => MV.tup [.int (i : Nat), x] with
    | none => True
    | some none => (Ite K p).stop i H1
    | some (some x) => (Ite K p).go i H1 ∧ ∀ w H2, (Ite K p).yld i H1 w H2 → Ext K β1 β1 H1 H2 ∧ RSt K cl β1 st1 H2 ∧ RV K β1 H2 x w
  cases hx : itemsOf st1 (.ref a) with
  | none => trivial
  | some xs =>
    obtain ⟨ys, hs, h1⟩ := itemsL R (e.pre _ _ hp) hx
    simp only [Option.map_some]
    cases hi : xs[i]? with
    | none =>
      refine ⟨ys, hs, ?_⟩
      rw [h1.length]
      exact List.getElem?_eq_none_iff.mp hi
    | some x =>
      obtain ⟨y, hy, ry⟩ := h1.get hi
      refine ⟨⟨ys, y, hs, hy⟩, fun w H2 yl => ?_⟩
      obtain ⟨T, y', rfl, hT, rfl, yl⟩ := yl
      have := yl ys hs
      rw [hy] at this
      cases this
      have E1 : Ext K β1 β1 H1 (upd H1 T (.tup [.int (i : Nat), y])) := .upd (.inl hT)
      exact ⟨E1, R.side hT, T, _, rfl, SqT.of upd_same, _, _, rfl, rfl, _, _, rfl, ry.mono E1, rfl⟩
/-- enumerate of a tuple -/
def IteT (K : PySem.W.Frag) (a : Addr) : It :=
  ⟨fun i H => ∃ (xs : List V) (x : V), SqT K H a xs ∧ xs[i]? = some x, fun i H v H' => ∃ T x, v = .ref T ∧ H T = none ∧ H' = upd H T (.tup [.int (i : Nat), x]) ∧ ∀ xs, SqT K H a xs → xs[i]? = some x, fun i H => ∃ xs : List V, SqT K H a xs ∧ xs.length ≤ i⟩
theorem rsrc_enumT {p : Addr} {xs : List MV} {ys : List V} (hs : SqT K H p ys) (h : RVs K β H xs ys) : RSrc K cl β H (srcEnum (srcItems xs)) (IteT K p) := by
  intro i β1 H1 st1 e R
  have hs1 := e.tup _ _ hs
  have h1 := h.mono e
  show match (some xs[i]?).map fun o => o.map fun x => MV.tup [.int (i : Nat), x] with
    | none => True
    | some none => (IteT K p).stop i H1
    | some (some x) => (IteT K p).go i H1 ∧ ∀ w H2, (IteT K p).yld i H1 w H2 → Ext K β1 β1 H1 H2 ∧ RSt K cl β1 st1 H2 ∧ RV K β1 H2 x w
  simp only [Option.map_some]
  cases hx : xs[i]? with
  | none =>
    refine ⟨ys, hs1, ?_⟩
    rw [h.length]
    exact List.getElem?_eq_none_iff.mp hx
  | some x =>
    obtain ⟨y, hy, ry⟩ := h1.get hx
    refine ⟨⟨ys, y, hs1, hy⟩, fun w H2 yl => ?_⟩
    obtain ⟨T, y', rfl, hT, rfl, yl⟩ := yl
    have := yl ys hs1
    rw [hy] at this
    cases this
    have E1 : Ext K β1 β1 H1 (upd H1 T (.tup [.int (i : Nat), y])) := .upd (.inl hT)
    exact ⟨E1, R.side hT, T, _, rfl, SqT.of upd_same, _, _, rfl, rfl, _, _, rfl, ry.mono E1, rfl⟩
end

/-! ### enumerate(tuple), at the library's level -/
theorem meets_enumerate_newT (l : Addr) (items : Array Value) (n : Nat) (dct : Option Addr) (sl : Array (Option Value)) :
    Meets (Builtin.«enumerate.__new__» ⟨[.type "enumerate", .ref l], []⟩) (fun _ R s => s.heap.get? l = some { cls := .type "tuple", dict := dct, data := .seq items n, slots := sl } ∧
      R (.ok (.ret (.ref (s.heap.push { cls := .type "tuple_iterator", data := .fields #[.ref l, .int 0 0] }).objs.size)))
        { s with heap := (s.heap.push { cls := .type "tuple_iterator", data := .fields #[.ref l, .int 0 0] }).push { cls := .type "enumerate", data := .fields #[.none, .bool false, .ref s.heap.objs.size, rawInt 0, .none, .none] } }) :=
  .of_wp fun prog w A R s h => by
    obtain ⟨hp, g, d, tk, os⟩ := s; obtain ⟨hl, h⟩ := h
    have hsub := sub_enumerate
    have hL : Heap.IsTuple (Shared.heap ⟨hp, g, d, tk, os⟩) l items := ⟨_, hl, rfl, n, rfl⟩
    wp_walk using AutoSeq1.wpAny_loadPart' hl
    refine wpAny_stack_any fun st => wpAny_pure ?_
    split
    · rename_i c _ _ _ _ _
      cases (c == Value.type "enumerate")
      · wp_walk using AutoSeq1.wpAny_loadPart' hl, wpAny_pyIter_tuple hL
        exact ⟨_, rfl, h⟩
      · wp_walk using AutoSeq1.wpAny_loadPart' hl, wpAny_pyIter_tuple hL
        exact ⟨_, rfl, h⟩
    · wp_walk using AutoSeq1.wpAny_loadPart' hl, wpAny_pyIter_tuple hL
      exact ⟨_, rfl, h⟩
section
variable {prog : Program} {w : World} {A : Around} {E : Value → Shared → Prop} {s : Shared}
theorem call_enumerate_tuple {l : Addr} {items : Array Value} {Q : Value → Shared → Prop} (hL : s.heap.IsTuple l items)
    (h : ∀ h', IsEnum h' (s.heap.objs.size + 1) s.heap.objs.size 0 .none → h'.IsTupleIter s.heap.objs.size l 0 → h'.objs.size = s.heap.objs.size + 2 →
      (∀ b o, s.heap.get? b = some o → h'.get? b = some o) → Q (.ref (s.heap.objs.size + 1)) { s with heap := h' }) :
    wpAny (model prog w) A (call (.type "enumerate") [.ref l]) Q E s := by
  obtain ⟨⟨c, dct, dt, sl⟩, hl, hc, n, hd⟩ := hL
  replace hc : c = .type "tuple" := hc
  replace hd : dt = .seq items n := hd
  subst hc hd
  refine callType_new F.called_enumerate (by decide) (F.typeCall_enumerate_1 _) (F.newCall_enumerate_1 _) (fun obj => F.args_object_init_2 obj _) F.entry_enumerate_new
    (meets_enumerate_newT l items n dct sl) ⟨hl, ?_⟩
  have hz : (s.heap.push { cls := .type "tuple_iterator", data := .fields #[.ref l, .int 0 0] }).objs.size = s.heap.objs.size + 1 := Heap.size_push ..
  show _ ∧ _
  rw [hz]
  have he : IsEnum ((s.heap.push { cls := .type "tuple_iterator", data := .fields #[.ref l, .int 0 0] }).push
      { cls := .type "enumerate", data := .fields #[.none, .bool false, .ref s.heap.objs.size, rawInt 0, .none, .none] }) (s.heap.objs.size + 1) s.heap.objs.size 0 .none := by
    have := Heap.get?_push_size (s.heap.push { cls := .type "tuple_iterator", data := .fields #[.ref l, .int 0 0] })
      (o := { cls := .type "enumerate", data := .fields #[.none, .bool false, .ref s.heap.objs.size, rawInt 0, .none, .none] }) rfl
    rw [hz] at this; exact this
  refine ⟨⟨_, he, rfl⟩, h _ he ?_ (by rw [Heap.size_push, hz]) fun b o x => Heap.get?_push_of_some _ (Heap.get?_push_of_some _ x)⟩
  exact ⟨_, Heap.get?_push_of_some _ (Heap.get?_push_size _ rfl), rfl, rfl⟩
end

theorem turn_enumT {P : Program} {w : World} {K : PySem.W.Frag} {elts : List Expr} {kk : Nat} {tpos : Pos} (a e it : Addr) :
    Turn P w K (.Tuple elts kk tpos) (IteT K a) [e, it] e (fun i h => (∃ old, IsEnum h e it ((i : Nat) : Int) old) ∧ h.IsTupleIter it a i ∧ e ≠ it ∧ a ≠ it ∧ e ≠ a) where
  mem := by simp
  obj := fun i h st b hb => by
    obtain ⟨⟨old, he⟩, ⟨o, ho, hc, hd⟩, _⟩ := st
    have e' : b = e ∨ b = it := by simpa using hb
    rcases e' with z | z
    · rw [z]; exact ⟨_, he, fun v q => nomatch q⟩
    · rw [z]; exact ⟨o, ho, fun v q => by rw [hd] at q; cases q⟩
  keep := fun i h h' st k => let ⟨⟨old, he⟩, hi, hne⟩ := st; ⟨⟨old, k e (by simp) _ he⟩, hi.at fun o q => k it (by simp) o q, hne⟩
  item := by
    intro X hP hw hK hc i pins s σ H E I hf st hg
    subst hP hw hK
    obtain ⟨⟨old, he⟩, hit, hne, hai, hea⟩ := st
    obtain ⟨xs, x, hq, hx⟩ := hg
    obtain ⟨its, rv, p, hz⟩ := I.tuple hq
    obtain ⟨u, hu, ru⟩ := rv.get hx
    have hel : e < s.heap.objs.size := Heap.lt_size he
    have hil : it < s.heap.objs.size := by obtain ⟨_, q, _⟩ := hit; exact Heap.lt_size q
    have hlt : i < its.toArray.size := by
      rw [List.size_toArray]
      exact (List.getElem?_eq_some_iff.mp hu).1
    refine wpAny_pyNext_enum_itemD (Draws.tuple (A := X.A.in1) (I.ok.hd hc) it a hai its.toArray) he ⟨hit, p⟩ hlt hne (by simp [hne, hea]) fun u' h' tk hu' ho hst' hT hsz hk => ?_
    obtain ⟨hit', p'⟩ := hst'
    have eu : u' = u := by
      have h1 : its[i]? = some u' := by simpa using hu'
      rw [hu] at h1
      exact (Option.some.inj h1).symm
    subst eu
    refine ⟨_, rfl, wpAny_letOwnedTupleGo_enum (s := { s with heap := h', toks := tk + 1 }) ho fun h'' he' sb => ?_⟩
    have hT2 : h''.get? s.heap.objs.size = some { cls := .type "tuple", data := .seq #[.int i tk, u'] } := (sb.2 _ (Nat.ne_of_gt hel)).trans hT
    have new : ObjOk X.prog X.w (upd H s.heap.objs.size (.tup [.int (i : Nat), x])) h'' s.heap.objs.size (.tup [.int (i : Nat), x]) :=
      ⟨by show 2 ≤ sizeLine; decide, [.int i tk, u'], .cons ⟨_, rfl⟩ (.cons ru .nil), ⟨_, hT2, rfl, _, rfl⟩⟩
    have I1 : Inv X pins σ (upd H s.heap.objs.size (.tup [.int (i : Nat), x])) { s with heap := h'', toks := tk + 1 } :=
      I.turnedNew (ch := [e, it]) (fun b ob hb q => (sb.2 b (fun z => hb (by simp [z]))).trans (hk b ob (fun z => hb (by simp [z])) (fun z => hb (by simp [z])) q)) hf (Nat.le_refl _) new
    refine ⟨.ref s.heap.objs.size, _, I1, rfl, ⟨_, x, rfl, I.hok.fresh (Nat.le_refl _), rfl, fun ys hy => by rw [I.tuple_inj hy hq]; exact hx⟩, ⟨⟨u', ?_⟩, hit'.at fun o q => (sb.2 it (Ne.symm hne)).trans q, hne, hai, hea⟩, fun b hb => ?_⟩
    · have e1 : ((i + 1 : Nat) : Int) = (i : Int) + 1 := by omega
      rw [e1]; exact he'
    · have hb' : b < s.heap.objs.size := by
        have e' : b = e ∨ b = it := by simpa using hb
        rcases e' with z | z
        · rw [z]; exact hel
        · rw [z]; exact hil
      rw [upd_ne (Nat.ne_of_lt hb')]
      exact (hf b hb).1
  done := by
    intro X hP hw hK hc i pins s σ H E I hf st hg
    subst hP hw hK
    obtain ⟨⟨old, he⟩, hit, hne, hai, hea⟩ := st
    obtain ⟨xs, hq, hx⟩ := hg
    obtain ⟨its, rv, p, hz⟩ := I.tuple hq
    obtain ⟨f0, f1, f2, f3, f4, f5⟩ := hf it (by simp)
    have hl := rv.length
    have hT : s.TypeIs (.ref e) "enumerate" := ⟨_, he, rfl⟩
    unfold pyNext
    refine wpAny_bind (wpAny_attempt (wpAny_callSpecial?_slot (name := Str.ofString "__next__") hT F.slot_enumerate_next
      (wpAny_call_entry F.slot_enumerate_next hT F.entry_enumerate_next ?_ (F.args_enumerate_next_1 _))))
    show wpAny _ _ (field (.ref e) 2 >>= _) _ _ _
    refine wpAny_bind (wpAny_field he rfl (x := .ref it) rfl ?_)
    refine wpAny_bind (wpAny_nextOf_tuple_end (I.ok.hd hc) hit p (by simp; omega) fun h' x he' hx' => ?_)
    obtain ⟨o, ho, hc⟩ := hx'
    refine wpAny_bind (wpAny_isInstance (T := "StopIteration") (b := true) ⟨o, ho, hc⟩ isSubtype_stop ?_)
    exact wpAny_pure ⟨rfl, I.turned (t' := s.toks) (fun b o hb q => he' b o hb q) f0 f1 f3 f4 f5⟩
  self := fun A i s Q E st h => let ⟨⟨_, he⟩, _⟩ := st; wpAny_pyIter_enum he h

def iEnumT (K : PySem.W.Frag) (ta : TA) : TI := fun σ H R => ta σ H fun vs H1 => ∃ a xs, vs = [.ref a] ∧ SqT K H1 a xs ∧ R (IteT K a) H1
theorem pi_enumT {X : Cx} {e : Expr} {ta : TA} {p pos tpos : Pos} {elts : List Expr} {kk : Nat} (hg : Gl X "enumerate") (hm : X.mg "enumerate" = none) (ha : PA X [e] ta) (hs : starEach [e] X.env = [(false, eval e X.env)] := by rfl) :
    PI X (.Tuple elts kk tpos) (.Call (.Name "enumerate" p) [e] [] pos) (iEnumT X.K ta) := by
  refine ⟨fun pins s σ H R I h => ?_⟩
  refine Call_ (ld_blt I hg hm boot_enumerate (PyProof.Rows.callWith_type1 (thn (ha.run pos pins s σ H _ I h) fun us s1 ⟨vs, H1, I1, r1, q1⟩ => ?_) hs rfl))
  obtain ⟨a, xs, ex, hq, q⟩ := q1
  subst ex
  cases r1 with
  | cons r rr =>
    cases rr
    cases r
    obtain ⟨its, rv, p', hz⟩ := I1.tuple hq
    have hal : a < s1.heap.objs.size := by
      obtain ⟨o, ho, _⟩ := p'
      exact Heap.lt_size ho
    refine call_enumerate_tuple (show s1.heap.IsTuple a its.toArray from p') fun h' he hit hsz hk => wpAny_pyIter_enum he ?_
    have I2 : Inv X pins σ H1 { s1 with heap := h' } := I1.kept (t' := s1.toks) hk
    refine ⟨s1.heap.objs.size + 1, [s1.heap.objs.size + 1, s1.heap.objs.size], _, _, H1, rfl, I2, turn_enumT a (s1.heap.objs.size + 1) s1.heap.objs.size, ⟨⟨.none, he⟩, hit, Nat.succ_ne_self _, Nat.ne_of_lt hal, Nat.ne_of_gt (Nat.lt_succ_of_lt hal)⟩, fun b hb => ?_, q⟩
    have e' : b = s1.heap.objs.size + 1 ∨ b = s1.heap.objs.size := by simpa using hb
    have hle : s1.heap.objs.size ≤ b := by
      rcases e' with z | z
      · rw [z]; exact Nat.le_add_right _ _
      · rw [z]; exact Nat.le_refl _
    exact I1.fpOk hle (I1.hok.fresh hle)

section
variable {X : Cx} {cl : Nat → Addr} {W : WX} {tg e iter : Expr} {es : List Expr} {m : ME} {r : MA} {mi : MIter} {p pos : Pos}
theorem PI.or {t1 t2 : TI} (h1 : PI X tg iter t1) (h2 : PI X tg iter t2) : PI X tg iter (fun σ H R => t1 σ H R ∨ t2 σ H R) := ⟨fun pins s σ H R I hw => hw.elim (fun h => h1.run pins s σ H R I h) fun h => h2.run pins s σ H R I h⟩
theorem si_of (he : SE X cl W e m) : SI X cl W tg e (iOf m) := by
  refine PI.weaken (PI.or (PI.or (pi_list he) (pi_tup he)) (pi_str he)) fun σ H Rr ⟨β, env, st, re, R, F⟩ => ?_
  cases hm : m env st with
  | bad => unfold iOf at F; rw [hm] at F; exact F.elim
  | ex c fs s1 =>
    unfold iOf at F
    rw [hm] at F
    refine .inl (.inl ⟨β, env, st, re, R, ?_⟩)
    rw [hm]
    exact F
  | ok v s1 =>
    unfold iOf at F
    rw [hm] at F
    simp only [Res.bind_ok] at F
    cases v with
    | tup xs =>
      refine .inl (.inr ⟨β, env, st, re, R, ?_⟩)
      rw [hm]
      intro β1 H1 e1 R1 w rw
      obtain ⟨p, ys, rfl, hs, h2⟩ := rw
      exact ⟨p, rfl, ⟨ys, hs⟩, F.at e1 R1 _ (rsrc_tup hs h2)⟩
    | ref a =>
      refine .inl (.inl ⟨β, env, st, re, R, ?_⟩)
      rw [hm]
      intro β1 H1 e1 R1 w rw
      obtain ⟨p, hp, rfl⟩ := rw
      simp only [srcOf] at F
      split at F
      · rename_i xs hx
        obtain ⟨ys, hs, _⟩ := itemsL R1 hp hx
        exact ⟨p, rfl, ⟨ys, hs⟩, F.at e1 R1 _ (rsrc_list hp)⟩
      · exact F.elim
    | str x =>
      refine .inr ⟨β, env, st, re, R, ?_⟩
      rw [hm]
      intro β1 H1 e1 R1 w rw
      cases rw.str_of
      exact ⟨x, rfl, F.at e1 R1 _ rsrc_str⟩
    | _ => exact F.elim
theorem si_enum {elts : List Expr} {kk : Nat} {tpos : Pos} (hg : Gl X "enumerate") (hm : X.mg "enumerate" = none) (he : SE X cl W e m) (hs : starEach [e] X.env = [(false, eval e X.env)] := by rfl) :
    SI X cl W (.Tuple elts kk tpos) (.Call (.Name "enumerate" p) [e] [] pos) (iEnumM m) := by
  have ha : SA X cl W [e] (mCons m mNil) := sa_cons he sa_nil hs
  refine PI.weaken (PI.or (pi_enum hg hm ha hs) (pi_enumT hg hm ha hs)) fun σ H Rr ⟨β, env, st, re, R, F⟩ => ?_
  cases hm : m env st with
  | bad => unfold iEnumM at F; rw [hm] at F; exact F.elim
  | ex c fs s1 =>
    unfold iEnumM at F
    rw [hm] at F
    refine .inl ⟨β, env, st, re, R, ?_⟩
    unfold mCons
    rw [hm]
    exact F
  | ok v s1 =>
    unfold iEnumM at F
    rw [hm] at F
    simp only [Res.bind_ok] at F
    have one : mCons m mNil env st = .ok [v] s1 := by unfold mCons; rw [hm]; rfl
    cases v with
    | tup xs =>
      refine .inr ⟨β, env, st, re, R, ?_⟩
      rw [one]
      intro β1 H1 e1 R1 ws rws
      obtain ⟨w, rfl, rw⟩ := one_of rws
      obtain ⟨p, ys, rfl, hs, h2⟩ := rw
      exact ⟨p, ys, rfl, hs, F.at e1 R1 _ (rsrc_enumT hs h2)⟩
    | ref a =>
      refine .inl ⟨β, env, st, re, R, ?_⟩
      rw [one]
      intro β1 H1 e1 R1 ws rws
      obtain ⟨w, rfl, rw⟩ := one_of rws
      obtain ⟨p, hp, rfl⟩ := rw
      simp only [srcSeq, srcOf] at F
      cases hx : itemsOf s1 (.ref a) with
      | none => rw [hx] at F; exact F.elim
      | some xs =>
        rw [hx] at F
        obtain ⟨ys, hs, _⟩ := itemsL R1 hp hx
        exact ⟨p, ys, rfl, hs, F.at e1 R1 _ (rsrc_enumL hp)⟩
    | _ => exact F.elim
theorem si_range1 {a : Expr} (hg : Gl X "range") (hm : X.mg "range" = none) (ha : SA X cl W [a] r) (hs : starEach [a] X.env = [(false, eval a X.env)] := by rfl) : SI X cl W tg (.Call (.Name "range" p) [a] [] pos) (iRange1 r) := by
  refine PI.weaken (pi_range1 hg hm ha hs) fun σ H Rr ⟨β, env, st, re, R, F⟩ => ?_
  refine tMA_bind re R F fun us ws β1 H1 st1 e1 rs re1 R1 F1 => ?_
  unfold rngOf1 at F1
  split at F1
  · rename_i j
    obtain ⟨w, rfl, rw⟩ := one_of rs
    cases rw.int_of
    split at F1
    · rename_i h
      exact ⟨j, rfl, h.1, h.2, F1.here R1 _ (rsrc_range 0 j.toNat)⟩
    · exact F1.elim
  · exact F1.elim
theorem si_range2 {a b : Expr} (hg : Gl X "range") (hm : X.mg "range" = none) (ha : SA X cl W [a, b] r) (hs : starEach [a, b] X.env = [(false, eval a X.env), (false, eval b X.env)] := by rfl) (hs2 : starEach [b] X.env = [(false, eval b X.env)] := by rfl) :
    SI X cl W tg (.Call (.Name "range" p) [a, b] [] pos) (iRange2 r) := by
  refine PI.weaken (pi_range2 hg hm ha hs hs2) fun σ H Rr ⟨β, env, st, re, R, F⟩ => ?_
  refine tMA_bind re R F fun us ws β1 H1 st1 e1 rs re1 R1 F1 => ?_
  unfold rngOf2 at F1
  split at F1
  · rename_i i j
    obtain ⟨w, z, rfl, rw, rz⟩ := two_of rs
    cases rw.int_of
    cases rz.int_of
    split at F1
    · rename_i h
      exact ⟨i, j, rfl, h, F1.here R1 _ (rsrc_range i (j - i).toNat)⟩
    · exact F1.elim
  · exact F1.elim
end

/-! ### for -/
def forL (src : Src) (g : MG) (body : MS) : Nat → Nat → Env → M Fl
  | 0, _, _, _ => .bad
  | n + 1, i, env, st => match src.next i st with
    | none => .bad
    | some none => .ok (.nx env) st
    | some (some x) => (g x env st).bind fun env1 s1 => (body env1 s1).bind fun fl s2 => match fl with
      | .nx env2 => forL src g body n (i + 1) env2 s2
      | .ct env2 => forL src g body n (i + 1) env2 s2
      | .bk env2 => .ok (.nx env2) s2
      | .rt v => .ok (.rt v) s2
      | .xc c fs env2 => .ok (.xc c fs env2) s2
def sFor (mi : MIter) (g : MG) (body : MS) : MS := fun env st => bindX env (mi env st) fun src s1 => forL src g body (src.size + 1) 0 env s1
section
variable {X : Cx} {cl : Nat → Addr} {W : WX} {tg iter c : Expr} {bs : List Stmt} {mi : MIter} {g : MG} {body : MS} {pos : Pos}
theorem ss_for (hp : PassesOwn (model X.prog X.w) X.A X.env X.xe) (hc : X.calm = true) (hi : SI X cl W tg iter mi) (hg : SG X cl tg g) (hb : SSs X cl W bs body)
    (hs : ∀ x, foldedSetIterable iter X.env x = pure x := by intro _; rfl) : SS X cl W (.For tg iter bs [] pos) (sFor mi g body) := by
  refine PS.weaken (ps_for hp hc hi hg hb hs) fun D σ H ⟨β, env, st, re, R, F⟩ => ?_
  refine ⟨β, env, st, re, R, (bindX_fin re F).imp (fun src st1 β1 H1 e1 R1 F1 J hJ => ?_) fun _ _ _ _ _ _ _ q => q⟩
  refine ⟨fun i m σ' H' => ∃ β2 env2 st2, REnv X.K β2 H' env2 σ' ∧ RSt X.K cl β2 st2 H' ∧ Ext X.K β1 β2 H1 H' ∧ Fin X.K cl β2 H' (forL src g body m i env2 st2) (kS X.K cl W D) kNo, ⟨src.size + 1, β1, env, st1, re.mono e1, R1, .refl, F1⟩, ?_⟩
  rintro i m σ2 H2 ⟨β2, env2, st2, re2, R2, e2, F2⟩
  cases m with
  | zero => exact F2.elim
  | succ n =>
    have hJ2 := hJ i β2 H2 st2 e2 R2
    simp only [forL] at F2
    split at F2
    · exact F2.elim
    · rename_i hn
      rw [hn] at hJ2
      exact .inl ⟨hJ2, F2.here R2 σ2 re2⟩
    · rename_i x hn
      rw [hn] at hJ2
      obtain ⟨go, yl⟩ := hJ2
      refine .inr ⟨go, fun σ' H' => ∃ β3 env3 st3, REnv X.K β3 H' env3 σ' ∧ RSt X.K cl β3 st3 H' ∧ Ext X.K β1 β3 H1 H' ∧ Fin X.K cl β3 H' (forL src g body n (i + 1) env3 st3) (kS X.K cl W D) kNo, fun σ' H' h => ⟨n, Nat.lt_succ_self n, h⟩, fun w H3 hy => ?_⟩
      obtain ⟨e3, R3, rx⟩ := yl w H3 hy
      refine ⟨β2, x, env2, st2, rx, re2.mono e3, R3, (Fin.weak e3 F2).bind.imp (fun env4 st4 β4 H4 e4 R4 F4 σ4 re4 => ?_) fun _ _ _ _ _ _ _ q => q⟩
      refine ⟨β4, env4, st4, re4, R4, F4.bind.imp (fun fl st5 β5 H5 e5 R5 F5 => ?_) fun _ _ _ _ _ _ _ q => q⟩
      have e15 : Ext X.K β1 β5 H1 H5 := ((e2.trans e3).trans e4).trans e5
      cases fl with
      | nx env6 => exact fun σ6 re6 => ⟨β5, env6, st5, re6, R5, e15, F5⟩
      | ct env6 => exact fun σ6 re6 => ⟨β5, env6, st5, re6, R5, e15, F5⟩
      | bk env6 => exact F5.here R5
      | rt v => exact F5.here R5
      | xc c fs env6 => exact F5.here R5
/-! ### while -/
def whileL (t : MT) (body : MS) : Nat → Env → M Fl
  | 0, _, _ => .bad
  | n + 1, env, st => bindX env (t env st) fun k s1 => if k = true then (body env s1).bind fun fl s2 => match fl with
      | .nx env2 => whileL t body n env2 s2
      | .ct env2 => whileL t body n env2 s2
      | .bk env2 => .ok (.nx env2) s2
      | .rt v => .ok (.rt v) s2
      | .xc c fs env2 => .ok (.xc c fs env2) s2
    else .ok (.nx env) s1
def sWhile (fuel : Nat) (t : MT) (body : MS) : MS := fun env st => whileL t body fuel env st
theorem ss_while {t : MT} (fuel : Nat) (hp : PassesOwn (model X.prog X.w) X.A X.env X.xe) (hc : ST X cl W c t) (hb : SSs X cl W bs body) : SS X cl W (.While c bs [] pos) (sWhile fuel t body) := by
  refine PS.weaken (ps_while hp hc hb) fun D σ H ⟨β, env, st, re, R, F⟩ => ?_
  refine ⟨fun m σ' H' => ∃ β2 env2 st2, REnv X.K β2 H' env2 σ' ∧ RSt X.K cl β2 st2 H' ∧ Fin X.K cl β2 H' (whileL t body m env2 st2) (kS X.K cl W D) kNo, ⟨fuel, β, env, st, re, R, F⟩, ?_⟩
  rintro m σ2 H2 ⟨β2, env2, st2, re2, R2, F2⟩
  cases m with
  | zero => exact F2.elim
  | succ n =>
    simp only [whileL] at F2
    refine tMTX re2 R2 F2 fun k β3 H3 st3 e3 re3 R3 F3 => ?_
    cases k with
    | true =>
      rw [if_pos rfl] at F3 ⊢
      refine ⟨fun σ' H' => ∃ β3 env3 st3, REnv X.K β3 H' env3 σ' ∧ RSt X.K cl β3 st3 H' ∧ Fin X.K cl β3 H' (whileL t body n env3 st3) (kS X.K cl W D) kNo, fun σ' H' h => ⟨n, Nat.lt_succ_self n, h⟩, ?_⟩
      refine ⟨β3, env2, st3, re3, R3, F3.bind.imp (fun fl st5 β5 H5 e5 R5 F5 => ?_) fun _ _ _ _ _ _ _ q => q⟩
      cases fl with
      | nx env6 => exact fun σ6 re6 => ⟨β5, env6, st5, re6, R5, F5⟩
      | ct env6 => exact fun σ6 re6 => ⟨β5, env6, st5, re6, R5, F5⟩
      | bk env6 => exact F5.here R5
      | rt v => exact F5.here R5
      | xc c fs env6 => exact F5.here R5
    | false =>
      rw [if_neg (by decide)] at F3 ⊢
      exact F3.here R3 σ2 re3
end
end BH

set_option Elab.async false
set_option linter.all false
set_option maxRecDepth 100000
set_option autoImplicit false
set_option maxHeartbeats 1000000
/-! Comprehensions. -/
namespace BH
open PySem PySem.Spec PyProof.Rows L2

inductive Tgt where
  | nm (i : Nat)
  | tp (is : List Nat)
def setMany : List Nat → List MV → Env → Env
  | i :: is, x :: xs, env => setMany is xs (env.set i (some x))
  | _, _, env => env
def Tgt.put : Tgt → MV → Env → Option Env
  | .nm i, x, env => some (env.set i (some x))
  | .tp is, .tup xs, env => if xs.length = is.length then some (setMany is xs env) else none
  | .tp _, _, _ => none
def Tgt.slots : Tgt → List Nat
  | .nm i => [i]
  | .tp is => is
def gNames : List Nat → TGs
  | [] => gNil
  | i :: is => gCons (gName i) (gNames is)
def gT (K : PySem.W.Frag) : Tgt → TG
  | .nm i => gName i
  | .tp is => gTup K is.length (gNames is)
def mwipe (env : Env) : List Nat → Env
  | [] => env
  | v :: vs => (mwipe env vs).set v none
theorem mwipe_length (env : Env) : ∀ vs, (mwipe env vs).length = env.length
  | [] => rfl
  | v :: vs => by unfold mwipe; rw [List.length_set, mwipe_length env vs]
theorem mwipe_some {env : Env} {i : Nat} {x : MV} : ∀ {vs : List Nat}, (mwipe env vs)[i]? = some (some x) → env[i]? = some (some x) ∧ i ∉ vs
  | [], h => ⟨h, by simp⟩
  | v :: vs, h => by
    unfold mwipe at h
    by_cases hi : v = i
    · subst hi
      by_cases hv : v < (mwipe env vs).length
      · rw [List.getElem?_set_self hv] at h; cases h
      · rw [List.getElem?_eq_none (by simpa using hv)] at h; cases h
    · rw [List.getElem?_set_ne hi] at h
      obtain ⟨h1, h2⟩ := mwipe_some h
      exact ⟨h1, by simp only [List.mem_cons, not_or]; exact ⟨fun e => hi e.symm, h2⟩⟩
theorem wipe_get (σ : L2.St) (j : Nat) : ∀ vs : List Nat, (wipe σ vs)[j]? = if j ∈ vs ∧ j < σ.length then some none else σ[j]?
  | [] => by simp [wipe]
  | v :: vs => by
    unfold wipe
    rw [List.getElem?_set]
    have ih := wipe_get σ j vs
    have hl := wipe_length σ vs
    by_cases hv : v = j
    · subst hv
      by_cases h2 : v < σ.length
      · simp [hl, h2]
      · rw [if_pos rfl, hl, if_neg h2, if_neg (by intro h; exact h2 h.2)]
        exact (List.getElem?_eq_none (by omega)).symm
    · rw [if_neg hv, ih]
      have : j ∈ v :: vs ↔ j ∈ vs := by simp [Ne.symm hv]
      simp only [this]
theorem wipe_set {σ : L2.St} {i : Nat} {o : Option V} {vs : List Nat} (h : i ∈ vs) : wipe (σ.set i o) vs = wipe σ vs := by
  apply List.ext_getElem?
  intro j
  rw [wipe_get, wipe_get, List.length_set]
  by_cases hj : j ∈ vs ∧ j < σ.length
  · rw [if_pos hj, if_pos hj]
  · rw [if_neg hj, if_neg hj, List.getElem?_set]
    by_cases e : i = j
    · subst e
      rw [if_pos rfl]
      have : ¬ i < σ.length := fun z => hj ⟨h, z⟩
      rw [if_neg this]
      exact (List.getElem?_eq_none (by omega)).symm
    · rw [if_neg e]
theorem wipe_idem (σ : L2.St) (vs : List Nat) : wipe (wipe σ vs) vs = wipe σ vs := by
  apply List.ext_getElem?
  intro j
  rw [wipe_get, wipe_length, wipe_get]
  by_cases hj : j ∈ vs ∧ j < σ.length
  · rw [if_pos hj, if_pos hj]
  · rw [if_neg hj, if_neg hj]
section
variable {K : PySem.W.Frag} {cl : Nat → Addr} {β : List Addr} {H : Hp} {env : Env} {σ : L2.St}
theorem REnv.wipe (r : REnv K β H env σ) (vs : List Nat) : REnv K β H (mwipe env vs) (L2.wipe σ vs) := by
  refine ⟨by rw [mwipe_length, wipe_length, r.len], fun i v h => ?_⟩
  obtain ⟨h1, h2⟩ := mwipe_some h
  obtain ⟨w, h3, h4⟩ := r.at_ i v h1
  refine ⟨w, ?_, h4⟩
  rw [wipe_get, if_neg (fun z => h2 z.1)]
  exact h3
theorem gNames_ok {Q : L2.St → Hp → Prop} {vs : List Nat} {σ0 : L2.St} : ∀ {is : List Nat} {xs : List MV} {ws : List V} {env : Env} {σ : L2.St}, REnv K β H env σ → RVs K β H xs ws → xs.length = is.length → (∀ i ∈ is, i ∈ vs) → wipe σ vs = σ0 → (∀ σ2, REnv K β H (setMany is xs env) σ2 → wipe σ2 vs = σ0 → Q σ2 H) → gNames is ws σ H Q
  | [], [], ws, env, σ, re, rs, _, _, e, h => ⟨rs, h σ re e⟩
  | i :: is, x :: xs, ws, env, σ, re, ⟨w, ws', e1, r1, r2⟩, hl, hi, e, h => by
    subst e1
    refine ⟨w, ws', rfl, ?_⟩
    refine gNames_ok (re.set r1) r2 (by simpa using hl) (fun j hj => hi j (List.mem_cons_of_mem _ hj)) ?_ h
    rw [wipe_set (hi i List.mem_cons_self)]
    exact e
theorem gT_ok {t : Tgt} {x : MV} {w : V} {env1 : Env} {vs : List Nat} {Q : L2.St → Hp → Prop} (re : REnv K β H env σ) (rx : RV K β H x w) (hp : t.put x env = some env1) (hs : ∀ i ∈ t.slots, i ∈ vs)
    (h : ∀ σ2, REnv K β H env1 σ2 → wipe σ2 vs = wipe σ vs → Q σ2 H) : gT K t w σ H Q := by
  cases t with
  | nm i =>
    cases hp
    exact h _ (re.set rx) (wipe_set (hs i (by simp [Tgt.slots])))
  | tp is =>
    cases x with
    | tup xs =>
      simp only [Tgt.put] at hp
      split at hp
      · rename_i hl
        cases hp
        obtain ⟨p, ys, rfl, h1, h2⟩ := rx
        exact ⟨p, ys, rfl, h1, by rw [h2.length, hl], gNames_ok re h2 hl hs rfl h⟩
      · cases hp
    | _ => cases hp
end

def lappend (D : Nat) (y : MV) : M Unit := fun st => match st[D]? with
  | some (.lst acc) => if acc.length < 16777216 then .ok () (st.set D (.lst (acc ++ [y]))) else .bad
  | _ => .bad
def lcL (src : Src) (t : Tgt) (test : MT) (elt : ME) (env : Env) (D : Nat) : Nat → Nat → M MV
  | 0, _, _ => .bad
  | n + 1, i, st => match src.next i st with
    | none => .bad
    | some none => .ok (.ref D) st
    | some (some x) => match t.put x env with
      | none => .bad
      | some env1 => (noX (test env1 st)).bind fun b s1 => if b = true then (noX (elt env1 s1)).bind fun y s2 => (lappend D y s2).bind fun _ s3 => lcL src t test elt env D n (i + 1) s3
        else lcL src t test elt env D n (i + 1) s1
def mLc (mi : MIter) (vs : List Nat) (t : Tgt) (test : MT) (elt : ME) : ME := fun env st => (mi env st).bind fun src s1 => lcL src t test elt (mwipe env vs) s1.length (src.size + 1) 0 (s1 ++ [.lst []])
def mYes : MT := fun _ st => .ok true st
abbrev W0 : WX := fun _ _ _ _ => False
theorem PTs.weaken {X : Cx} {es : List Expr} {t t' : TT} (h : PTs X es t) (i : ∀ σ H Q, t' σ H Q → t σ H Q) : PTs X es t' := ⟨fun pins s σ H Q I hw => h.run pins s σ H Q I (i _ _ _ hw)⟩
def STs (X : Cx) (cl : Nat → Addr) (es : List Expr) (m : MT) : Prop := PTs X es (tMT X.K cl W0 m)
theorem sts_nil {X : Cx} {cl : Nat → Addr} : STs X cl [] mYes := PTs.weaken pts_nil fun σ H Q ⟨β, env, st, re, R, F⟩ => F.here R
theorem sts_one {X : Cx} {cl : Nat → Addr} {e : Expr} {m : MT} (h : ST X cl W0 e m) : STs X cl [e] m := pts_one h

section
variable {X : Cx} {cl : Nat → Addr} {W : WX} {elt tg iter : Expr} {ifs : List Expr} {scope : Scope} {own : List (Str × Nat)} {pos : Pos} {mi : MIter} {t : Tgt} {test : MT} {me : ME}
/-- the reading of a comprehension over the plain machine -/
theorem lc_read {K : PySem.W.Frag} {β : List Addr} {env : Env} {st : Mst} {σ : L2.St} {H : Hp} {Q : VK} {vs : List Nat} {ke : Nat → Mfs → Mst → List Addr → Hp → Prop} {src : Src} {J : It} (hs : ∀ i ∈ t.slots, i ∈ vs) (re : REnv K β H env σ) (R : RSt K cl β st H) (hJ : RSrc K cl β H src J)
    (F : Fin K cl β H (lcL src t test me (mwipe env vs) st.length (src.size + 1) 0 (st ++ [.lst []])) (kV K Q) ke) :
    ∀ D, H D = none → ∃ Wp : Nat → Nat → Hp → Prop, (∃ m, Wp 0 m (upd H D (.lst []))) ∧ ∀ i m H, Wp i m H →
      (J.stop i H ∧ Q (.ref D) H) ∨ (J.go i H ∧ ∃ Nx : Hp → Prop, (∀ H', Nx H' → ∃ m', m' < m ∧ Wp (i + 1) m' H') ∧ ∀ x H', J.yld i H x H' → gT K t x (wipe σ vs) H' fun σ2 H2 => wipe σ2 vs = wipe σ vs ∧ tMT K cl W0 test σ2 H2 fun b H3 =>
        if b = true then tM K cl W0 me σ2 H3 fun y H4 => ∃ acc, H4 D = some (.lst acc) ∧ acc.length < sizeLine ∧ Nx (upd H4 D (.lst (acc ++ [y]))) else Nx H3) := by
  intro D hD
  have E0 : Ext K β (β ++ [D]) H (upd H D (.lst [])) := .snoc hD
  have R0 : RSt K cl (β ++ [D]) (st ++ [.lst []]) (upd H D (.lst [])) := R.snoc hD ⟨[], upd_same, rfl⟩
  have bD : (β ++ [D])[st.length]? = some D := by rw [← R.len]; simp
  refine ⟨fun i m H' => ∃ β2 st2, RSt K cl β2 st2 H' ∧ Ext K (β ++ [D]) β2 (upd H D (.lst [])) H' ∧ Fin K cl β2 H' (lcL src t test me (mwipe env vs) st.length m i st2) (kV K Q) ke, ⟨src.size + 1, β ++ [D], st ++ [.lst []], R0, .refl, Fin.weak E0 F⟩, ?_⟩
  rintro i m H2 ⟨β2, st2, R2, E2, F2⟩
  cases m with
  | zero => exact F2.elim
  | succ n =>
    have hJ2 := hJ i β2 H2 st2 (E0.trans E2) R2
    simp only [lcL] at F2
    split at F2
    · exact F2.elim
    · rename_i hn
      rw [hn] at hJ2
      exact .inl ⟨hJ2, F2.here R2 _ ⟨D, E2.pre _ _ bD, rfl⟩⟩
    · rename_i x hn
      rw [hn] at hJ2
      obtain ⟨go, yl⟩ := hJ2
      refine .inr ⟨go, fun H' => ∃ β3 st3, RSt K cl β3 st3 H' ∧ Ext K (β ++ [D]) β3 (upd H D (.lst [])) H' ∧ Fin K cl β3 H' (lcL src t test me (mwipe env vs) st.length n (i + 1) st3) (kV K Q) ke, fun H' h => ⟨n, Nat.lt_succ_self n, h⟩, fun w H3 hy => ?_⟩
      obtain ⟨e3, R3, rx⟩ := yl w H3 hy
      split at F2
      · exact F2.elim
      · rename_i env1 hp
        have E3 := E2.trans e3
        refine gT_ok ((re.mono (E0.trans E3)).wipe vs) rx hp hs fun σ2 re2 hw => ⟨by rw [hw, wipe_idem], ?_⟩
        refine tMT_noX re2 R3 (Fin.weak e3 F2) fun b β4 H4 st4 e4 re4 R4 F4 => ?_
        cases b with
        | false =>
          rw [if_neg (by decide)] at F4 ⊢
          exact ⟨β4, st4, R4, E3.trans e4, F4⟩
        | true =>
          rw [if_pos rfl] at F4 ⊢
          refine tM_noX re4 R4 F4 fun y z β5 H5 st5 e5 rz re5 R5 F5 => ?_
          have E5 := (E3.trans e4).trans e5
          unfold lappend at F5
          split at F5
          · rename_i acc ho
            split at F5
            · rename_i hl
              have hq := E5.pre _ _ bD
              obtain ⟨ys, h1, h2⟩ := R5.get hq ho
              have hm : Mut (H5 D) := by rw [h1]; trivial
              refine ⟨ys, h1, by rw [h2.length]; exact line_lt hl, ?_⟩
              have Eu : Ext K β5 β5 H5 (upd H5 D (.lst (ys ++ [z]))) := .upd (.inr hm)
              exact ⟨β5, _, R5.set (o' := .lst (acc ++ [y])) hq ho rfl rfl ⟨_, upd_same, (h2.append (RVs.one rz)).mono Eu⟩, E5.trans Eu, Fin.weak Eu F5⟩
            · exact F5.elim
          · exact F5.elim
theorem tI_read {K : PySem.W.Frag} {β : List Addr} {env : Env} {st : Mst} {σ : L2.St} {H : Hp} {α : Type} {f : Src → Mst → Res α} {k : α → Mst → List Addr → Hp → Prop} (re : REnv K β H env σ) (R : RSt K cl β st H)
    (F : Fin K cl β H ((mi env st).bind f) k (kX K cl W σ)) {Rr : It → Hp → Prop}
    (h : ∀ src β' H' st' J, Ext K β β' H H' → RSrc K cl β' H' src J → REnv K β' H' env σ → RSt K cl β' st' H' → Fin K cl β' H' (f src st') k (kX K cl W σ) → Rr J H') : tI K cl W mi σ H Rr :=
  ⟨β, env, st, re, R, F.bind.imp (fun src st' β' H' e R' F' J hJ => h src β' H' st' J e hJ (re.mono e) R' F') fun _ _ _ _ _ _ _ q => q⟩
theorem tI_readX {K : PySem.W.Frag} {β : List Addr} {env : Env} {st : Mst} {σ : L2.St} {H : Hp} {f : Src → Mst → Res Fl} {D : Ends} (re : REnv K β H env σ) (R : RSt K cl β st H)
    (F : Fin K cl β H (bindX env (mi env st) f) (kS K cl W D) kNo) {Rr : It → Hp → Prop}
    (h : ∀ src β' H' st' J, Ext K β β' H H' → RSrc K cl β' H' src J → REnv K β' H' env σ → RSt K cl β' st' H' → Fin K cl β' H' (f src st') (kS K cl W D) kNo → Rr J H') : tI K cl W mi σ H Rr :=
  ⟨β, env, st, re, R, (bindX_fin re F).imp (fun src st' β' H' e R' F' J hJ => h src β' H' st' J e hJ (re.mono e) R' F') fun _ _ _ _ _ _ _ q => q⟩
theorem se_lc {vs : List Nat} (hc : X.calm = true) (hN : X.N.Nodup) (hi : SI X cl W tg iter mi) (ok : BlkOk X.N X.env.scope scope own) (hvs : own.map (·.2) = vs) (hsl : ∀ i ∈ t.slots, i ∈ vs)
    (hg : ∀ (s : Shared) (H : Hp) (C : Addr) (ce : List (Str × Addr)) (fp : List Addr), PG (X.blk s H scope (compEnvC scope ce C X.env) fp) tg (gT X.K t)) (ht : ∀ (s : Shared) (H : Hp) (C : Addr) (ce : List (Str × Addr)) (fp : List Addr), STs (X.blk s H scope (compEnvC scope ce C X.env) fp) cl ifs test)
    (he : ∀ (s : Shared) (H : Hp) (C : Addr) (ce : List (Str × Addr)) (fp : List Addr), SE (X.blk s H scope (compEnvC scope ce C X.env) fp) cl W0 elt me) (hs : ∀ x, foldedSetIterable iter X.env x = pure x := by intro _; rfl) :
    SE X cl W (.ListComp elt [⟨tg, iter, ifs, 0⟩] scope pos) (mLc mi vs t test me) := by
  subst hvs
  refine PE.weaken (pe_lc (tt := tMT X.K cl W0 test) (te := tM X.K cl W0 me) hc hN hi ok hg (fun s H C ce fp => ht s H C ce fp) (fun s H C ce fp => he s H C ce fp) hs) fun σ H Q ⟨β, env, st, re, R, F⟩ => ?_
  exact tI_read re R F fun src β1 H1 st1 J e1 hJ re1 R1 F1 => lc_read hsl re1 R1 hJ F1
theorem ss_setLc {vs : List Nat} {i : Nat} {y : Str} {py spos : Pos} (hc : X.calm = true) (hN : X.N.Nodup) (hy : X.N[i]? = some y) (hyl : X.env.scope.names.lookup y = some .local)
    (hsw : swapsWith (.ListComp elt [⟨tg, iter, ifs, 0⟩] scope pos) (some (.Name y py)) spos.line X.env = pure true) (hi : SI X cl W tg iter mi) (ok : BlkOk X.N X.env.scope scope own) (hvs : own.map (·.2) = vs) (hsl : ∀ i ∈ t.slots, i ∈ vs)
    (hg : ∀ (s : Shared) (H : Hp) (C : Addr) (ce : List (Str × Addr)) (fp : List Addr), PG (X.blk s H scope (compEnvC scope ce C X.env) fp) tg (gT X.K t)) (ht : ∀ (s : Shared) (H : Hp) (C : Addr) (ce : List (Str × Addr)) (fp : List Addr), STs (X.blk s H scope (compEnvC scope ce C X.env) fp) cl ifs test)
    (he : ∀ (s : Shared) (H : Hp) (C : Addr) (ce : List (Str × Addr)) (fp : List Addr), SE (X.blk s H scope (compEnvC scope ce C X.env) fp) cl W0 elt me) (hs : ∀ x, foldedSetIterable iter X.env x = pure x := by intro _; rfl) :
    SS X cl W (.Assign [.Name y py] (.ListComp elt [⟨tg, iter, ifs, 0⟩] scope pos) spos) (sAsg (mLc mi vs t test me) (gtName i)) := by
  subst hvs
  refine PS.weaken (ps_setLc (tt := tMT X.K cl W0 test) (te := tM X.K cl W0 me) hc hN hy hyl hsw hi ok hg (fun s H C ce fp => ht s H C ce fp) (fun s H C ce fp => he s H C ce fp) hs) fun D σ H ⟨β, env, st, re, R, F⟩ => ?_
  unfold sAsg mLc at F
  have as1 : bindX env ((mi env st).bind fun src s1 => lcL src t test me (mwipe env (own.map (·.2))) s1.length (src.size + 1) 0 (s1 ++ [.lst []])) (fun v s1 => (gtName i v env s1).bind fun env1 s2 => .ok (.nx env1) s2) =
      bindX env (mi env st) fun src s1 => bindX env (lcL src t test me (mwipe env (own.map (·.2))) s1.length (src.size + 1) 0 (s1 ++ [.lst []])) (fun v s1 => (gtName i v env s1).bind fun env1 s2 => .ok (.nx env1) s2) := by
    cases mi env st <;> rfl
  rw [as1] at F
  refine tI_readX re R F fun src β1 H1 st1 J e1 hJ re1 R1 F1 => ?_
  refine lc_read (ke := kX X.K cl W σ) (Q := fun x H1 => gName i x σ H1 D.nx) hsl re1 R1 hJ ((bindX_fin re1 F1).imp (fun v st2 β2 H2 e2 R2 F2 w rw => ?_) fun _ _ _ _ _ _ _ q => q)
  exact F2.here R2 _ ((re1.mono e2).set rw)
end

/-! ### two clauses -/
def lcI (src : Src) (t : Tgt) (test : MT) (elt : ME) (env : Env) (D : Nat) : Nat → Nat → M Unit
  | 0, _, _ => .bad
  | n + 1, i, st => match src.next i st with
    | none => .bad
    | some none => .ok () st
    | some (some x) => match t.put x env with
      | none => .bad
      | some env1 => (noX (test env1 st)).bind fun b s1 => if b = true then (noX (elt env1 s1)).bind fun y s2 => (lappend D y s2).bind fun _ s3 => lcI src t test elt env D n (i + 1) s3
        else lcI src t test elt env D n (i + 1) s1
def lcL2 (src : Src) (t : Tgt) (test : MT) (mi1 : MIter) (vs1 : List Nat) (t1 : Tgt) (test1 : MT) (elt : ME) (env : Env) (D : Nat) : Nat → Nat → M MV
  | 0, _, _ => .bad
  | n + 1, i, st => match src.next i st with
    | none => .bad
    | some none => .ok (.ref D) st
    | some (some x) => match t.put x env with
      | none => .bad
      | some env1 => (noX (test env1 st)).bind fun b s1 => if b = true then (noX (mi1 env1 s1)).bind fun src1 s2 => (lcI src1 t1 test1 elt (mwipe env1 vs1) D (src1.size + 1) 0 s2).bind fun _ s3 => lcL2 src t test mi1 vs1 t1 test1 elt env D n (i + 1) s3
        else lcL2 src t test mi1 vs1 t1 test1 elt env D n (i + 1) s1
def mLc2 (mi : MIter) (vs : List Nat) (t : Tgt) (test : MT) (mi1 : MIter) (vs1 : List Nat) (t1 : Tgt) (test1 : MT) (elt : ME) : ME := fun env st => (mi env st).bind fun src s1 => lcL2 src t test mi1 vs1 t1 test1 elt (mwipe env vs) s1.length (src.size + 1) 0 (s1 ++ [.lst []])
section
variable {X : Cx} {cl : Nat → Addr} {W : WX} {elt tg iter tg1 iter1 : Expr} {ifs ifs1 : List Expr} {scope : Scope} {own : List (Str × Nat)} {pos : Pos} {mi mi1 : MIter} {t t1 : Tgt} {test test1 : MT} {me : ME} {vs1 : List Nat}
theorem tI_noX {K : PySem.W.Frag} {W' : WX} {α : Type} {f : Src → Mst → Res α} {β : List Addr} {env : Env} {st : Mst} {σ : L2.St} {H : Hp} {k : α → Mst → List Addr → Hp → Prop} {ke : Nat → Mfs → Mst → List Addr → Hp → Prop} (re : REnv K β H env σ) (R : RSt K cl β st H)
    (F : Fin K cl β H ((noX (mi env st)).bind f) k ke) {Rr : It → Hp → Prop}
    (h : ∀ src β' H' st' J, Ext K β β' H H' → RSrc K cl β' H' src J → REnv K β' H' env σ → RSt K cl β' st' H' → Fin K cl β' H' (f src st') k ke → Rr J H') : tI K cl W' mi σ H Rr := by
  refine ⟨β, env, st, re, R, ?_⟩
  cases hm : mi env st with
  | ok v s1 =>
    rw [hm] at F
    exact fun β' H' e R' J hJ => h v β' H' s1 J e hJ (re.mono e) R' (Fin.weak e F)
  | ex c fs s1 => rw [hm] at F; exact F.elim
  | bad => rw [hm] at F; exact F.elim
theorem lc2_read {K : PySem.W.Frag} {β : List Addr} {env : Env} {st : Mst} {σ : L2.St} {H : Hp} {Q : VK} {vs : List Nat} {ke : Nat → Mfs → Mst → List Addr → Hp → Prop} {src : Src} {J : It} (hs : ∀ i ∈ t.slots, i ∈ vs) (hs1 : ∀ i ∈ t1.slots, i ∈ vs1) (re : REnv K β H env σ) (R : RSt K cl β st H) (hJ : RSrc K cl β H src J)
    (F : Fin K cl β H (lcL2 src t test mi1 vs1 t1 test1 me (mwipe env vs) st.length (src.size + 1) 0 (st ++ [.lst []])) (kV K Q) ke) :
    ∀ D, H D = none → ∃ Wp : Nat → Nat → Hp → Prop, (∃ m, Wp 0 m (upd H D (.lst []))) ∧ ∀ i m H, Wp i m H →
      (J.stop i H ∧ Q (.ref D) H) ∨ (J.go i H ∧ ∃ Nx : Hp → Prop, (∀ H', Nx H' → ∃ m', m' < m ∧ Wp (i + 1) m' H') ∧ ∀ x H', J.yld i H x H' → gT K t x (wipe σ vs) H' fun σ2 H2 => wipe σ2 vs = wipe σ vs ∧ tMT K cl W0 test σ2 H2 fun b H3 =>
        if b = true then tI K cl W0 mi1 σ2 H3 fun J1 H4 => ∃ W1 : Nat → Nat → Hp → Prop, (∃ m, W1 0 m H4) ∧ ∀ j k H, W1 j k H →
          (J1.stop j H ∧ Nx H) ∨ (J1.go j H ∧ ∃ Nx1 : Hp → Prop, (∀ H', Nx1 H' → ∃ k', k' < k ∧ W1 (j + 1) k' H') ∧ ∀ x H', J1.yld j H x H' → gT K t1 x (wipe σ2 vs1) H' fun σ3 H5 => wipe σ3 vs1 = wipe σ2 vs1 ∧ tMT K cl W0 test1 σ3 H5 fun b H6 =>
            if b = true then tM K cl W0 me σ3 H6 fun y H7 => ∃ acc, H7 D = some (.lst acc) ∧ acc.length < sizeLine ∧ Nx1 (upd H7 D (.lst (acc ++ [y]))) else Nx1 H6)
        else Nx H3) := by
  intro D hD
  have E0 : Ext K β (β ++ [D]) H (upd H D (.lst [])) := .snoc hD
  have R0 : RSt K cl (β ++ [D]) (st ++ [.lst []]) (upd H D (.lst [])) := R.snoc hD ⟨[], upd_same, rfl⟩
  have bD : (β ++ [D])[st.length]? = some D := by rw [← R.len]; simp
  refine ⟨fun i m H' => ∃ β2 st2, RSt K cl β2 st2 H' ∧ Ext K (β ++ [D]) β2 (upd H D (.lst [])) H' ∧ Fin K cl β2 H' (lcL2 src t test mi1 vs1 t1 test1 me (mwipe env vs) st.length m i st2) (kV K Q) ke, ⟨src.size + 1, β ++ [D], st ++ [.lst []], R0, .refl, Fin.weak E0 F⟩, ?_⟩
  rintro i m H2 ⟨β2, st2, R2, E2, F2⟩
  cases m with
  | zero => exact F2.elim
  | succ n =>
    have hJ2 := hJ i β2 H2 st2 (E0.trans E2) R2
    simp only [lcL2] at F2
    split at F2
    · exact F2.elim
    · rename_i hn
      rw [hn] at hJ2
      exact .inl ⟨hJ2, F2.here R2 _ ⟨D, E2.pre _ _ bD, rfl⟩⟩
    · rename_i x hn
      rw [hn] at hJ2
      obtain ⟨go, yl⟩ := hJ2
      refine .inr ⟨go, fun H' => ∃ β3 st3, RSt K cl β3 st3 H' ∧ Ext K (β ++ [D]) β3 (upd H D (.lst [])) H' ∧ Fin K cl β3 H' (lcL2 src t test mi1 vs1 t1 test1 me (mwipe env vs) st.length n (i + 1) st3) (kV K Q) ke, fun H' h => ⟨n, Nat.lt_succ_self n, h⟩, fun w H3 hy => ?_⟩
      obtain ⟨e3, R3, rx⟩ := yl w H3 hy
      split at F2
      · exact F2.elim
      · rename_i env1 hp
        have E3 := E2.trans e3
        refine gT_ok ((re.mono (E0.trans E3)).wipe vs) rx hp hs fun σ2 re2 hw => ⟨by rw [hw, wipe_idem], ?_⟩
        refine tMT_noX re2 R3 (Fin.weak e3 F2) fun b β4 H4 st4 e4 re4 R4 F4 => ?_
        cases b with
        | false =>
          rw [if_neg (by decide)] at F4 ⊢
          exact ⟨β4, st4, R4, E3.trans e4, F4⟩
        | true =>
          rw [if_pos rfl] at F4 ⊢
          refine tI_noX re4 R4 F4 fun src1 β5 H5 st5 J1 e5 hJ1 re5 R5 F5 => ?_
          have E5 := (E3.trans e4).trans e5
          refine ⟨fun j k H' => ∃ β6 st6, RSt K cl β6 st6 H' ∧ Ext K β5 β6 H5 H' ∧ Fin K cl β6 H' (lcI src1 t1 test1 me (mwipe env1 vs1) st.length k j st6) (fun _ st' β' H' => Fin K cl β' H' (lcL2 src t test mi1 vs1 t1 test1 me (mwipe env vs) st.length n (i + 1) st') (kV K Q) ke) ke, ⟨src1.size + 1, β5, st5, R5, .refl, F5.bind⟩, ?_⟩
          rintro j k H6 ⟨β6, st6, R6, E6, F6⟩
          cases k with
          | zero => exact F6.elim
          | succ k =>
            have hJ6 := hJ1 j β6 H6 st6 E6 R6
            simp only [lcI] at F6
            split at F6
            · exact F6.elim
            · rename_i hn6
              rw [hn6] at hJ6
              exact .inl ⟨hJ6, β6, st6, R6, E5.trans E6, F6.here R6⟩
            · rename_i x6 hn6
              rw [hn6] at hJ6
              obtain ⟨go6, yl6⟩ := hJ6
              refine .inr ⟨go6, fun H' => ∃ β7 st7, RSt K cl β7 st7 H' ∧ Ext K β5 β7 H5 H' ∧ Fin K cl β7 H' (lcI src1 t1 test1 me (mwipe env1 vs1) st.length k (j + 1) st7) (fun _ st' β' H' => Fin K cl β' H' (lcL2 src t test mi1 vs1 t1 test1 me (mwipe env vs) st.length n (i + 1) st') (kV K Q) ke) ke, fun H' h => ⟨k, Nat.lt_succ_self k, h⟩, fun w7 H7 hy7 => ?_⟩
              obtain ⟨e7, R7, rx7⟩ := yl6 w7 H7 hy7
              split at F6
              · exact F6.elim
              · rename_i env7 hp7
                have E7 := E6.trans e7
                refine gT_ok ((re5.mono E7).wipe vs1) rx7 hp7 hs1 fun σ7 re7 hw7 => ⟨by rw [hw7, wipe_idem], ?_⟩
                refine tMT_noX re7 R7 (Fin.weak e7 F6) fun b β8 H8 st8 e8 re8 R8 F8 => ?_
                cases b with
                | false =>
                  rw [if_neg (by decide)] at F8 ⊢
                  exact ⟨β8, st8, R8, E7.trans e8, F8⟩
                | true =>
                  rw [if_pos rfl] at F8 ⊢
                  refine tM_noX re8 R8 F8 fun y z β9 H9 st9 e9 rz re9 R9 F9 => ?_
                  have E9 := (E7.trans e8).trans e9
                  unfold lappend at F9
                  split at F9
                  · rename_i acc ho
                    split at F9
                    · rename_i hl
                      have hq := (E5.trans E9).pre _ _ bD
                      obtain ⟨ys, h1, h2⟩ := R9.get hq ho
                      have hm : Mut (H9 D) := by rw [h1]; trivial
                      refine ⟨ys, h1, by rw [h2.length]; exact line_lt hl, ?_⟩
                      have Eu : Ext K β9 β9 H9 (upd H9 D (.lst (ys ++ [z]))) := .upd (.inr hm)
                      exact ⟨β9, _, R9.set (o' := .lst (acc ++ [y])) hq ho rfl rfl ⟨_, upd_same, (h2.append (RVs.one rz)).mono Eu⟩, E9.trans Eu, Fin.weak Eu F9⟩
                    · exact F9.elim
                  · exact F9.elim
theorem se_lc2 {vs : List Nat} (hc : X.calm = true) (hN : X.N.Nodup) (hi : SI X cl W tg iter mi) (ok : BlkOk X.N X.env.scope scope own) (hvs : own.map (·.2) = vs) (hsl : ∀ i ∈ t.slots, i ∈ vs) (hv : ∀ i ∈ vs1, i ∈ vs) (hsl1 : ∀ i ∈ t1.slots, i ∈ vs1)
    (hg : ∀ (s : Shared) (H : Hp) (C : Addr) (ce : List (Str × Addr)) (fp : List Addr), PG (X.blk s H scope (compEnvC scope ce C X.env) fp) tg (gT X.K t)) (ht : ∀ (s : Shared) (H : Hp) (C : Addr) (ce : List (Str × Addr)) (fp : List Addr), STs (X.blk s H scope (compEnvC scope ce C X.env) fp) cl ifs test)
    (hi1 : ∀ (s : Shared) (H : Hp) (C : Addr) (ce : List (Str × Addr)) (fp : List Addr), SI (X.blk s H scope (compEnvC scope ce C X.env) fp) cl W0 tg1 iter1 mi1)
    (hg1 : ∀ (s : Shared) (H : Hp) (C : Addr) (ce : List (Str × Addr)) (fp : List Addr), PG (X.blk s H scope (compEnvC scope ce C X.env) fp) tg1 (gT X.K t1)) (ht1 : ∀ (s : Shared) (H : Hp) (C : Addr) (ce : List (Str × Addr)) (fp : List Addr), STs (X.blk s H scope (compEnvC scope ce C X.env) fp) cl ifs1 test1)
    (he : ∀ (s : Shared) (H : Hp) (C : Addr) (ce : List (Str × Addr)) (fp : List Addr), SE (X.blk s H scope (compEnvC scope ce C X.env) fp) cl W0 elt me) (hs : ∀ x, foldedSetIterable iter X.env x = pure x := by intro _; rfl) (hs1 : ∀ env x, foldedSetIterable iter1 env x = pure x := by intro _ _; rfl) :
    SE X cl W (.ListComp elt [⟨tg, iter, ifs, 0⟩, ⟨tg1, iter1, ifs1, 0⟩] scope pos) (mLc2 mi vs t test mi1 vs1 t1 test1 me) := by
  subst hvs
  refine PE.weaken (pe_lc2 (tt := tMT X.K cl W0 test) (tt1 := tMT X.K cl W0 test1) (te := tM X.K cl W0 me) (wi1 := tI X.K cl W0 mi1) hc hN hi ok hv hg (fun s H C ce fp => ht s H C ce fp) (fun s H C ce fp => hi1 s H C ce fp) hg1 (fun s H C ce fp => ht1 s H C ce fp) (fun s H C ce fp => he s H C ce fp) hs hs1) fun σ H Q ⟨β, env, st, re, R, F⟩ => ?_
  exact tI_read re R F fun src β1 H1 st1 J e1 hJ re1 R1 F1 => lc2_read hsl hsl1 re1 R1 hJ F1
theorem ss_setLc2 {vs : List Nat} {i : Nat} {y : Str} {py spos : Pos} (hc : X.calm = true) (hN : X.N.Nodup) (hy : X.N[i]? = some y) (hyl : X.env.scope.names.lookup y = some .local)
    (hsw : swapsWith (.ListComp elt [⟨tg, iter, ifs, 0⟩, ⟨tg1, iter1, ifs1, 0⟩] scope pos) (some (.Name y py)) spos.line X.env = pure true) (hi : SI X cl W tg iter mi) (ok : BlkOk X.N X.env.scope scope own) (hvs : own.map (·.2) = vs) (hsl : ∀ i ∈ t.slots, i ∈ vs) (hv : ∀ i ∈ vs1, i ∈ vs) (hsl1 : ∀ i ∈ t1.slots, i ∈ vs1)
    (hg : ∀ (s : Shared) (H : Hp) (C : Addr) (ce : List (Str × Addr)) (fp : List Addr), PG (X.blk s H scope (compEnvC scope ce C X.env) fp) tg (gT X.K t)) (ht : ∀ (s : Shared) (H : Hp) (C : Addr) (ce : List (Str × Addr)) (fp : List Addr), STs (X.blk s H scope (compEnvC scope ce C X.env) fp) cl ifs test)
    (hi1 : ∀ (s : Shared) (H : Hp) (C : Addr) (ce : List (Str × Addr)) (fp : List Addr), SI (X.blk s H scope (compEnvC scope ce C X.env) fp) cl W0 tg1 iter1 mi1)
    (hg1 : ∀ (s : Shared) (H : Hp) (C : Addr) (ce : List (Str × Addr)) (fp : List Addr), PG (X.blk s H scope (compEnvC scope ce C X.env) fp) tg1 (gT X.K t1)) (ht1 : ∀ (s : Shared) (H : Hp) (C : Addr) (ce : List (Str × Addr)) (fp : List Addr), STs (X.blk s H scope (compEnvC scope ce C X.env) fp) cl ifs1 test1)
    (he : ∀ (s : Shared) (H : Hp) (C : Addr) (ce : List (Str × Addr)) (fp : List Addr), SE (X.blk s H scope (compEnvC scope ce C X.env) fp) cl W0 elt me) (hs : ∀ x, foldedSetIterable iter X.env x = pure x := by intro _; rfl) (hs1 : ∀ env x, foldedSetIterable iter1 env x = pure x := by intro _ _; rfl) :
    SS X cl W (.Assign [.Name y py] (.ListComp elt [⟨tg, iter, ifs, 0⟩, ⟨tg1, iter1, ifs1, 0⟩] scope pos) spos) (sAsg (mLc2 mi vs t test mi1 vs1 t1 test1 me) (gtName i)) := by
  subst hvs
  refine PS.weaken (ps_setLc2 (tt := tMT X.K cl W0 test) (tt1 := tMT X.K cl W0 test1) (te := tM X.K cl W0 me) (wi1 := tI X.K cl W0 mi1) hc hN hy hyl hsw hi ok hv hg (fun s H C ce fp => ht s H C ce fp) (fun s H C ce fp => hi1 s H C ce fp) hg1 (fun s H C ce fp => ht1 s H C ce fp) (fun s H C ce fp => he s H C ce fp) hs hs1) fun D σ H ⟨β, env, st, re, R, F⟩ => ?_
  unfold sAsg mLc2 at F
  have as1 : bindX env ((mi env st).bind fun src s1 => lcL2 src t test mi1 vs1 t1 test1 me (mwipe env (own.map (·.2))) s1.length (src.size + 1) 0 (s1 ++ [.lst []])) (fun v s1 => (gtName i v env s1).bind fun env1 s2 => .ok (.nx env1) s2) =
      bindX env (mi env st) fun src s1 => bindX env (lcL2 src t test mi1 vs1 t1 test1 me (mwipe env (own.map (·.2))) s1.length (src.size + 1) 0 (s1 ++ [.lst []])) (fun v s1 => (gtName i v env s1).bind fun env1 s2 => .ok (.nx env1) s2) := by
    cases mi env st <;> rfl
  rw [as1] at F
  refine tI_readX re R F fun src β1 H1 st1 J e1 hJ re1 R1 F1 => ?_
  refine lc2_read (ke := kX X.K cl W σ) (Q := fun x H1 => gName i x σ H1 D.nx) hsl hsl1 re1 R1 hJ ((bindX_fin re1 F1).imp (fun v st2 β2 H2 e2 R2 F2 w rw => ?_) fun _ _ _ _ _ _ _ q => q)
  exact F2.here R2 _ ((re1.mono e2).set rw)
end
end BH

set_option Elab.async false
set_option linter.all false
set_option maxRecDepth 100000
set_option autoImplicit false
set_option maxHeartbeats 1000000
/-! Further built-ins; defs, methods and classes as bundles. -/
namespace BH
open PySem PySem.Spec PyProof.Rows L2

section
variable {X : Cx} {cl : Nat → Addr} {W : WX} {e a b c o : Expr} {es : List Expr} {m ma mb mo : ME} {r : MA} {pos p apos : Pos}

/-! ### - of an int -/
def gNeg : MV → M MV
  | .int i, st => .ok (.int (-i)) st
  | _, _ => .bad
theorem se_neg (ha : SE X cl W a ma) : SE X cl W (.UnaryOp .USub a pos) (mUn gNeg ma) := by
  refine PE.weaken (pe_un un_neg ha) fun σ H Q ⟨β, env, st, re, R, F⟩ => ?_
  refine tM_bind re R F fun x w β1 H1 st1 e1 rw re1 R1 F1 => ?_
  cases x with
  | int i => cases rw.int_of; exact ⟨i, rfl, fin_val F1 R1 (show _ = _ from rfl)⟩
  | _ => exact F1.elim
/-! ### a built-in type as a value -/
theorem se_bltn {x : Str} {n : String} (hg : Gl X x) (hm : X.mg x = none) (hv : bootBuiltins x = some (.type n)) (hn : x ≠ "__name__" := by decide) (hd : (x == ("__debug__" : Str)) = false := by decide) : SE X cl W (.Name x pos) (mC (.ty n)) :=
  PE.weaken (pe_bltn (v := .ty n) hg hm hv rfl hn hd) fun σ H Q ⟨β, env, st, re, R, F⟩ => fin_val F R (show _ = _ from rfl)
/-! ### isinstance of built-in types -/
def tyName (st : Mst) : MV → Option String
  | .non => some "NoneType"
  | .bl _ => some "bool"
  | .int _ => some "int"
  | .str _ => some "str"
  | .tup _ => some "tuple"
  | .ref a => match st[a]? with
    | some (.lst _) => some "list"
    | some (.rol _) => some "list"
    | _ => none
  | .ty _ => none
def isiT (T n : String) : Option Bool := if n = T then some true else if T = "bool" ∧ n = "int" then some true else if n = "int" ∨ n = "bool" ∨ n = "str" ∨ n = "tuple" ∨ n = "list" then some false else none
def gIsi : List MV → M MV
  | [x, .ty n], st => match (tyName st x).bind fun T => isiT T n with
    | some b => .ok (.bl b) st
    | none => .bad
  | _, _ => .bad
theorem isiT_ok {T n : String} {b : Bool} (hT : T = "NoneType" ∨ T = "bool" ∨ T = "int" ∨ T = "str" ∨ T = "tuple" ∨ T = "list") (h : isiT T n = some b) : kitB T n = some b := by
  unfold isiT at h
  split at h
  · rename_i e
    cases h
    subst e
    unfold kitB
    rw [if_pos (by simp)]
  · split at h
    · rename_i e
      obtain ⟨rfl, rfl⟩ := e
      cases h
      decide +kernel
    · split at h
      · rename_i n1 n2 e
        cases h
        rcases hT with rfl | rfl | rfl | rfl | rfl | rfl <;> rcases e with rfl | rfl | rfl | rfl | rfl <;> first | (exact absurd rfl n1; done) | (exact absurd ⟨rfl, rfl⟩ n2; done) | decide +kernel
      · cases h
theorem cg_isi : CallG X cl (.builtin "isinstance") gIsi := by
  refine ⟨CallR.weaken call_isi fun xs H Q ⟨β, us, st, rs, R, F⟩ => ?_, fun us st c fs st' h => ?_⟩
  · unfold gIsi at F
    split at F
    · rename_i x n
      obtain ⟨w, z, rfl, rw, rz⟩ := two_of rs
      cases (show z = .ty n from rz)
      split at F
      · rename_i b hb
        obtain ⟨T, h1, h2⟩ := Option.bind_eq_some_iff.mp hb
        have key : ∀ t, TyX X.K H w (.type t) → T = t → (t = "NoneType" ∨ t = "bool" ∨ t = "int" ∨ t = "str" ∨ t = "tuple" ∨ t = "list") → rIsi X.K [w, .ty n] H Q := fun t ht e hm => by
          subst e
          exact ⟨w, .ty n, .type T, .type n, b, rfl, .ty n, ht, kit_ty (isiT_ok hm h2), fin_val F R (show _ = _ from rfl)⟩
        cases x with
        | non => cases (show w = _ from rw); cases h1; exact key _ (.base .non) rfl (by simp)
        | bl i => cases (show w = _ from rw); cases h1; exact key _ (.base (.bl i)) rfl (by simp)
        | int i => cases (show w = _ from rw); cases h1; exact key _ (.base (.int i)) rfl (by simp)
        | str i => cases (show w = _ from rw); cases h1; exact key _ (.base (.str i)) rfl (by simp)
        | tup xs =>
          cases h1
          obtain ⟨q, ys, rfl, hs, _⟩ := rw
          refine key "tuple" ?_ rfl (by simp)
          rcases hs with (hs | ⟨o, hs⟩) | ⟨o, its, k, hk, hc, hd, _⟩
          · exact .base (.tup hs)
          · exact .fTuple hs
          · exact .kTuple hk hc
        | ref a =>
          obtain ⟨q, hq, rfl⟩ := rw
          simp only [tyName] at h1
          split at h1
          · rename_i ys ho
            cases h1
            obtain ⟨zs, g1, _⟩ := R.get hq ho
            exact key "list" (.base (.lst g1)) rfl (by simp)
          · rename_i ys ho
            cases h1
            obtain ⟨zs, g1, _⟩ := R.get hq ho
            refine key "list" ?_ rfl (by simp)
            rcases g1 with ⟨o, g1⟩ | ⟨o, its, k, hk, hc, hd, _⟩
            · exact .base (.frz g1)
            · exact .kList hk hc
          · cases h1
        | ty n => cases h1
      · exact F.elim
    · exact F.elim
  · unfold gIsi at h
    repeat' (first | (split at h) | cases h)
/-! ### list(range(..)) -/
def rgM (a b : Int) : List MV := (List.range (b - a).toNat).map fun i => .int (a + (i : Nat))
def gListRg1 : MV → M MV
  | .int n, st => if 0 ≤ n ∧ n ≤ 16777216 then .ok (.ref st.length) (st ++ [.lst (rgM 0 n)]) else .bad
  | _, _ => .bad
theorem rvs_map {K : PySem.W.Frag} {β : List Addr} {H : Hp} {α : Type} (f : α → MV) (g : α → V) (h : ∀ x, RV K β H (f x) (g x)) : ∀ xs : List α, RVs K β H (xs.map f) (xs.map g)
  | [] => rfl
  | x :: xs => ⟨g x, _, rfl, h x, rvs_map f g h xs⟩
theorem rgM_rv {K : PySem.W.Frag} {β : List Addr} {H : Hp} (a b : Int) : RVs K β H (rgM a b) (rgV a b) := rvs_map (fun i : Nat => MV.int (a + (i : Nat))) (fun i : Nat => V.int (a + (i : Nat))) (fun _ => (show _ = _ from rfl)) _
theorem se_listRg1 {pp : Pos} (hc : X.calm = true) (hg : Gl X "list") (hm : X.mg "list" = none) (hg2 : Gl X "range") (hm2 : X.mg "range" = none) (ha : SE X cl W a ma)
    (na1 : starEach [a] X.env = (false, eval a X.env) :: starEach [] X.env := by rfl) (na : starEach [.Call (.Name "range" pp) [a] [] apos] X.env = (false, eval (.Call (.Name "range" pp) [a] [] apos) X.env) :: starEach [] X.env := by rfl) :
    SE X cl W (.Call (.Name "list" p) [.Call (.Name "range" pp) [a] [] apos] [] pos) (mUn gListRg1 ma) := by
  refine PE.weaken (pe_listRg hc hg hm (prg_1 hg2 hm2 ha na1) na) fun σ H Q ⟨β, env, st, re, R, F⟩ => ?_
  refine tM_bind re R F fun x w β1 H1 st1 e1 rw re1 R1 F1 => ?_
  cases x with
  | int n =>
    cases rw.int_of
    simp only [gListRg1] at F1
    split at F1
    · rename_i h
      exact ⟨n, rfl, .of_le (by omega) h.2 (by omega) h.1, fun q hq => fin_lst F1 R1 (rgM_rv 0 n) hq⟩
    · exact F1.elim
  | _ => exact F1.elim

/-! ### x in a dict of the module with text keys -/
/-- the texts that are keys -/
def KKeys (K : PySem.W.Frag) (w : World) (d : Addr) (ks : List Str) : Prop := ∃ es n, KDict K w d es n ∧ ∀ z : Str, ∃ r, PySem.W.nsIn K d z = some r ∧ r.isSome = decide (z ∈ ks)
def gInK (neg : Bool) (ks : List Str) : MV → M MV
  | .str z, st => .ok (.bl (if neg then !decide (z ∈ ks) else decide (z ∈ ks))) st
  | _, _ => .bad
theorem se_inK {x : Str} {d : Addr} {ks : List Str} {p2 : Pos} (hk : KKeys X.K X.w d ks) (hg : Gl X x) (hm : X.mg x = some (.ref d)) (ha : SE X cl W a ma) (hb : behindInMarks .In (.Name x p2) = false := by rfl) (hd : (x == ("__debug__" : Str)) = false := by decide) :
    SE X cl W (.Compare a [.In] [.Name x p2] pos) (mUn (gInK false ks) ma) := by
  obtain ⟨es, n, D, hz⟩ := hk
  refine PE.weaken (pe_cmpR (op_in_kd D) ha (pe_glob (v := .ref d) hg hm rfl hd) hb) fun σ H Q ⟨β, env, st, re, R, F⟩ => ?_
  refine tM_bind re R F fun y w β1 H1 st1 e1 rw re1 R1 F1 => ?_
  cases y with
  | str z =>
    cases rw.str_of
    obtain ⟨r, h1, h2⟩ := hz z
    exact ⟨z, r, rfl, rfl, h1, by rw [h2]; exact fin_val F1 R1 (show _ = _ from rfl)⟩
  | _ => exact F1.elim
theorem se_notInK {x : Str} {d : Addr} {ks : List Str} {p2 : Pos} (hk : KKeys X.K X.w d ks) (hg : Gl X x) (hm : X.mg x = some (.ref d)) (ha : SE X cl W a ma) (hb : behindInMarks .NotIn (.Name x p2) = false := by rfl) (hd : (x == ("__debug__" : Str)) = false := by decide) :
    SE X cl W (.Compare a [.NotIn] [.Name x p2] pos) (mUn (gInK true ks) ma) := by
  obtain ⟨es, n, D, hz⟩ := hk
  refine PE.weaken (pe_cmpR (op_notIn_kd D) ha (pe_glob (v := .ref d) hg hm rfl hd) hb) fun σ H Q ⟨β, env, st, re, R, F⟩ => ?_
  refine tM_bind re R F fun y w β1 H1 st1 e1 rw re1 R1 F1 => ?_
  cases y with
  | str z =>
    cases rw.str_of
    obtain ⟨r, h1, h2⟩ := hz z
    exact ⟨z, r, rfl, rfl, h1, by rw [h2]; exact fin_val F1 R1 (show _ = _ from rfl)⟩
  | _ => exact F1.elim
/-- a value that is known to be a bool, as a test -/
theorem st_val (h : SE X cl W e m) (he : ∀ whole, isTrue e X.env whole = (do let v ← whole; standAt e.pos; holding [v] (truthy v)) := by intro _; rfl) : ST X cl W e (mTest m) := by
  refine PT.weaken (pt_val h he) fun σ H Q ⟨β, env, st, re, R, F⟩ => ?_
  refine tM_bind re R F fun x w β1 H1 st1 e1 rw re1 R1 F1 => ?_
  cases x with
  | bl c => cases rw.bl_of; exact ⟨c, rfl, F1.here R1⟩
  | _ => exact F1.elim
theorem st_inK {x : Str} {d : Addr} {ks : List Str} {p2 : Pos} (hk : KKeys X.K X.w d ks) (hg : Gl X x) (hm : X.mg x = some (.ref d)) (ha : SE X cl W a ma) (hb : behindInMarks .In (.Name x p2) = false := by rfl) (hd : (x == ("__debug__" : Str)) = false := by decide) :
    ST X cl W (.Compare a [.In] [.Name x p2] pos) (mTest (mUn (gInK false ks) ma)) := by
  obtain ⟨es, n, D, hz⟩ := hk
  refine PT.weaken (pt_cmpR (op_in_kd D) ha (pe_glob (v := .ref d) hg hm rfl hd) hb) fun σ H Q ⟨β, env, st, re, R, F⟩ => ?_
  have as1 : mTest (mUn (gInK false ks) ma) env st = (ma env st).bind fun x s1 => (gInK false ks x s1).bind toB := by
    unfold mTest mUn
    cases ma env st <;> rfl
  rw [as1] at F
  refine tM_bind re R F fun y w β1 H1 st1 e1 rw re1 R1 F1 => ?_
  cases y with
  | str z =>
    cases rw.str_of
    obtain ⟨r, h1, h2⟩ := hz z
    exact ⟨z, r, rfl, rfl, h1, _, rfl, by rw [h2]; exact F1.here R1⟩
  | _ => exact F1.elim
theorem st_notInK {x : Str} {d : Addr} {ks : List Str} {p2 : Pos} (hk : KKeys X.K X.w d ks) (hg : Gl X x) (hm : X.mg x = some (.ref d)) (ha : SE X cl W a ma) (hb : behindInMarks .NotIn (.Name x p2) = false := by rfl) (hd : (x == ("__debug__" : Str)) = false := by decide) :
    ST X cl W (.Compare a [.NotIn] [.Name x p2] pos) (mTest (mUn (gInK true ks) ma)) := by
  obtain ⟨es, n, D, hz⟩ := hk
  refine PT.weaken (pt_cmpR (op_notIn_kd D) ha (pe_glob (v := .ref d) hg hm rfl hd) hb) fun σ H Q ⟨β, env, st, re, R, F⟩ => ?_
  have as1 : mTest (mUn (gInK true ks) ma) env st = (ma env st).bind fun x s1 => (gInK true ks x s1).bind toB := by
    unfold mTest mUn
    cases ma env st <;> rfl
  rw [as1] at F
  refine tM_bind re R F fun y w β1 H1 st1 e1 rw re1 R1 F1 => ?_
  cases y with
  | str z =>
    cases rw.str_of
    obtain ⟨r, h1, h2⟩ := hz z
    exact ⟨z, r, rfl, rfl, h1, _, rfl, by rw [h2]; exact F1.here R1⟩
  | _ => exact F1.elim
end

/-! ### bundles -/
section
variable (P : Program) (w : World) (K : PySem.W.Frag) (mg : Str → Option Value) (base : Heap) (cl : Nat → Addr)
/-- a def of the module, as it stands -/
structure DefT (x : Str) (qual : Str) (st : Stmt) (ps : List Str) (dms : List MV) : Prop where
  ex : ∃ (f : Addr) (fd : FuncData) (ds : List Value) (dvs : List V), L2.Fun K x qual st f fd ∧ mg x = some (.ref f) ∧ Binds K fd ps ds ∧ Vals dvs ds ∧ RKs K dms dvs
/-- .. and what it does -/
structure DefG (k : Nat) (x : Str) (ps : List Str) (dms : List MV) (fm : List MV → M MV) : Prop where
  ex : ∃ (f : Addr) (fd : FuncData) (ds : List Value) (dvs : List V), FnG P w K mg base cl k f fd ps fm ∧ mg x = some (.ref f) ∧ PySem.W.keepIn K (.ref f) = true ∧ Binds K fd ps ds ∧ Vals dvs ds ∧ RKs K dms dvs
/-- a method -/
structure MethT (c : Nat) (x : Str) (qual : Str) (st : Stmt) (ps : List Str) (dms : List MV) : Prop where
  ex : ∃ (f : Addr) (fd : FuncData) (ds : List Value) (dvs : List V), L2.Fun K x qual st f fd ∧ Meth K (cl c) x f ∧ Binds K fd ps ds ∧ Vals dvs ds ∧ RKs K dms dvs
structure MethG (k : Nat) (c : Nat) (x : Str) (ps : List Str) (dms : List MV) (fm : List MV → M MV) : Prop where
  ex : ∃ (f : Addr) (fd : FuncData) (ds : List Value) (dvs : List V), FnG P w K mg base cl k f fd ps fm ∧ Meth K (cl c) x f ∧ Binds K fd ps ds ∧ Vals dvs ds ∧ RKs K dms dvs
/-- the __init__ of a class of the module named x -/
structure InitT (c : Nat) (x : Str) (qual : Str) (st : Stmt) (ps : List Str) (dms : List MV) : Prop where
  ex : ∃ (f : Addr) (fd : FuncData) (ds : List Value) (dvs : List V), L2.Fun K "__init__" qual st f fd ∧ mg x = some (.ref (cl c)) ∧ Mk K (cl c) f ∧ Binds K fd ps ds ∧ Vals dvs ds ∧ RKs K dms dvs
structure InitG (k : Nat) (c : Nat) (x : Str) (ps : List Str) (dms : List MV) (fm : List MV → M MV) : Prop where
  ex : ∃ (f : Addr) (fd : FuncData) (ds : List Value) (dvs : List V), FnG P w K mg base cl k f fd ps fm ∧ mg x = some (.ref (cl c)) ∧ Mk K (cl c) f ∧ Binds K fd ps ds ∧ Vals dvs ds ∧ RKs K dms dvs
end
section
variable {P : Program} {w : World} {K : PySem.W.Frag} {mg : Str → Option Value} {base : Heap} {cl : Nat → Addr} {x qual : Str} {st : Stmt} {ps N : List Str} {dms : List MV} {body : MS} {k c : Nat}
abbrev BodyOk (P : Program) (w : World) (K : PySem.W.Frag) (mg : Str → Option Value) (base : Heap) (cl : Nat → Addr) (k : Nat) (N : List Str) (qual : Str) (st : Stmt) (body : MS) : Prop :=
  ∀ (f : Addr) (cdv : Value) (A : Around) (outer : List PySem.Env) (s : Shared) (H : Hp) (E : XK), Room k (A.deeper (envOfC qual (defScope st) s.heap.objs.size f cdv)) →
      SSs (cxOf (L2.CX P w) P w K mg base N qual (defScope st) f cdv A outer s H E) cl (wD E) (defBody st) body
theorem DefG.of (T : DefT K mg x qual st ps dms) (S : FnScope N ps (defScope st)) (h : BodyOk P w K mg base cl k N qual st body) : DefG P w K mg base cl (k + 1) x ps dms (fnM N.length ps.length body) := by
  obtain ⟨f, fd, ds, dvs, F, hm, hb, hd, hdm⟩ := T.ex
  exact ⟨f, fd, ds, dvs, FnG.of F S fun cdv A outer s H E hr => h f cdv A outer s H E hr, hm, F.kp, hb, hd, hdm⟩
theorem MethG.of (T : MethT K cl c x qual st ps dms) (S : FnScope N ps (defScope st)) (h : BodyOk P w K mg base cl k N qual st body) : MethG P w K mg base cl (k + 1) c x ps dms (fnM N.length ps.length body) := by
  obtain ⟨f, fd, ds, dvs, F, hm, hb, hd, hdm⟩ := T.ex
  exact ⟨f, fd, ds, dvs, FnG.of F S fun cdv A outer s H E hr => h f cdv A outer s H E hr, hm, hb, hd, hdm⟩
theorem InitG.of (T : InitT K mg cl c x qual st ps dms) (S : FnScope N ps (defScope st)) (h : BodyOk P w K mg base cl k N qual st body) : InitG P w K mg base cl (k + 1) c x ps dms (fnM N.length ps.length body) := by
  obtain ⟨f, fd, ds, dvs, F, hm, hM, hb, hd, hdm⟩ := T.ex
  exact ⟨f, fd, ds, dvs, FnG.of F S fun cdv A outer s H E hr => h f cdv A outer s H E hr, hm, hM, hb, hd, hdm⟩
end
section
variable {X : Cx} {cl : Nat → Addr} {W : WX} {e o : Expr} {es : List Expr} {m mo : ME} {r : MA} {k c : Nat} {ps : List Str} {fm : List MV → M MV} {dms : List MV} {x mt : Str} {p pos apos : Pos}
theorem se_callD (D : DefG X.prog X.w X.K X.mg X.base cl k x ps dms fm) (hr : Room k X.A) (hg : Gl X x) (tk : Takes X W)
    (ha : SA X cl W (e :: es) r) (hdb : (x == ("__debug__" : Str)) = false := by decide) (he : starEach (e :: es) X.env = (false, eval e X.env) :: starEach es X.env := by rfl) (hpl : (backTo pos (starEach es X.env)).any (·.1) = false := by rfl) :
    SE X cl W (.Call (.Name x p) (e :: es) [] pos) (mCallF fm r dms) := by
  obtain ⟨f, fd, ds, dvs, F, hm, hk, hb, hd, hdm⟩ := D.ex
  exact se_call F hr hg hm hk hb hd hdm tk ha hdb he hpl
theorem se_callD0 (D : DefG X.prog X.w X.K X.mg X.base cl k x ps dms fm) (hr : Room k X.A) (hg : Gl X x) (tk : Takes X W) (hdb : (x == ("__debug__" : Str)) = false := by decide) :
    SE X cl W (.Call (.Name x p) [] [] pos) (mCallF fm mNil dms) := by
  obtain ⟨f, fd, ds, dvs, F, hm, hk, hb, hd, hdm⟩ := D.ex
  exact se_call0 F hr hg hm hk hb hd hdm tk hdb
theorem se_methD (pl : Sem Bool) (D : MethG X.prog X.w X.K X.mg X.base cl k c mt ps dms fm) (hcl : Cls X.K (cl c)) (hr : Room k X.A) (tk : Takes X W) (he : SE X cl W o mo) (ha : SA X cl W (e :: es) r)
    (hst : starEach (e :: es) X.env = (false, eval e X.env) :: starEach es X.env := by rfl) (hpl : (backTo pos (starEach es X.env)).any (·.1) = false := by rfl)
    (ht : eval (.Call (.Attribute o mt apos) (e :: es) [] pos) X.env = (do
      let ov ← eval o X.env
      standAt apos.atName
      let (f, first) ← holding [ov] (getMethod ov mt pl)
      callWith pos f first (backTo pos (starEach (e :: es) X.env)) (backToKw pos (keywordEach [] X.env))) := by rfl) :
    SE X cl W (.Call (.Attribute o mt apos) (e :: es) [] pos) (mMeth c mt fm mo r dms) := by
  obtain ⟨f, fd, ds, dvs, F, hm, hb, hd, hdm⟩ := D.ex
  exact se_meth (pl := pl) he hcl hm F hr hb hd hdm tk ha hst hpl ht
theorem se_methD0 (pl : Sem Bool) (D : MethG X.prog X.w X.K X.mg X.base cl k c mt ps dms fm) (hcl : Cls X.K (cl c)) (hr : Room k X.A) (tk : Takes X W) (he : SE X cl W o mo)
    (ht : eval (.Call (.Attribute o mt apos) [] [] pos) X.env = (do
      let ov ← eval o X.env
      standAt apos.atName
      let (f, first) ← holding [ov] (getMethod ov mt pl)
      callWith pos f first (backTo pos (starEach [] X.env)) (backToKw pos (keywordEach [] X.env))) := by rfl) :
    SE X cl W (.Call (.Attribute o mt apos) [] [] pos) (mMeth c mt fm mo mNil dms) := by
  obtain ⟨f, fd, ds, dvs, F, hm, hb, hd, hdm⟩ := D.ex
  exact se_meth0 (pl := pl) he hcl hm F hr hb hd hdm tk ht
theorem se_makeD (D : InitG X.prog X.w X.K X.mg X.base cl k c x ps dms fm) (hr : Room (k + 1) X.A) (hg : Gl X x) (tk : Takes X W)
    (ha : SA X cl W (e :: es) r) (hdb : (x == ("__debug__" : Str)) = false := by decide) (he : starEach (e :: es) X.env = (false, eval e X.env) :: starEach es X.env := by rfl) (hpl : (backTo pos (starEach es X.env)).any (·.1) = false := by rfl) :
    SE X cl W (.Call (.Name x p) (e :: es) [] pos) (mMake c fm r dms) := by
  obtain ⟨f, fd, ds, dvs, F, hm, hM, hb, hd, hdm⟩ := D.ex
  exact se_make hM F hr hg hm hb hd hdm tk ha hdb he hpl
theorem se_makeD0 (D : InitG X.prog X.w X.K X.mg X.base cl k c x ps dms fm) (hr : Room (k + 1) X.A) (hg : Gl X x) (tk : Takes X W) (hdb : (x == ("__debug__" : Str)) = false := by decide) :
    SE X cl W (.Call (.Name x p) [] [] pos) (mMake c fm mNil dms) := by
  obtain ⟨f, fd, ds, dvs, F, hm, hM, hb, hd, hdm⟩ := D.ex
  exact se_make0 hM F hr hg hm hb hd hdm tk hdb
end

section
structure GlobT (K : PySem.W.Frag) (mg : Str → Option Value) (x : Str) (v : MV) : Prop where
  ex : ∃ u w, mg x = some u ∧ RelV w u ∧ RK K v w
structure KeysT (K : PySem.W.Frag) (w : World) (mg : Str → Option Value) (x : Str) (ks : List Str) : Prop where
  ex : ∃ d, mg x = some (.ref d) ∧ KKeys K w d ks
theorem ClsA.only {K : PySem.W.Frag} {cl : Nat → Addr} {cs : List Nat} {f : Str} {c : Nat} (h : ClsA K cl cs f) (hc : c ∈ cs) : ClsA K cl [c] f := fun d hd => h d (by
  have : d = c := by simpa using hd
  subst this
  exact hc)
variable {X : Cx} {cl : Nat → Addr} {W : WX} {a : Expr} {ma : ME} {x : Str} {v : MV} {ks : List Str} {p2 pos : Pos}
theorem se_globD (G : GlobT X.K X.mg x v) (hg : Gl X x) (hd : (x == ("__debug__" : Str)) = false := by decide) : SE X cl W (.Name x pos) (mC v) := by
  obtain ⟨u, w, h1, h2, h3⟩ := G.ex
  exact se_glob hg h1 h2 h3 hd
theorem se_inKD (G : KeysT X.K X.w X.mg x ks) (hg : Gl X x) (ha : SE X cl W a ma) (hb : behindInMarks .In (.Name x p2) = false := by rfl) (hd : (x == ("__debug__" : Str)) = false := by decide) : SE X cl W (.Compare a [.In] [.Name x p2] pos) (mUn (gInK false ks) ma) := by
  obtain ⟨d, h1, h2⟩ := G.ex
  exact se_inK h2 hg h1 ha hb hd
theorem se_notInKD (G : KeysT X.K X.w X.mg x ks) (hg : Gl X x) (ha : SE X cl W a ma) (hb : behindInMarks .NotIn (.Name x p2) = false := by rfl) (hd : (x == ("__debug__" : Str)) = false := by decide) : SE X cl W (.Compare a [.NotIn] [.Name x p2] pos) (mUn (gInK true ks) ma) := by
  obtain ⟨d, h1, h2⟩ := G.ex
  exact se_notInK h2 hg h1 ha hb hd
theorem st_inKD (G : KeysT X.K X.w X.mg x ks) (hg : Gl X x) (ha : SE X cl W a ma) (hb : behindInMarks .In (.Name x p2) = false := by rfl) (hd : (x == ("__debug__" : Str)) = false := by decide) : ST X cl W (.Compare a [.In] [.Name x p2] pos) (mTest (mUn (gInK false ks) ma)) := by
  obtain ⟨d, h1, h2⟩ := G.ex
  exact st_inK h2 hg h1 ha hb hd
theorem st_notInKD (G : KeysT X.K X.w X.mg x ks) (hg : Gl X x) (ha : SE X cl W a ma) (hb : behindInMarks .NotIn (.Name x p2) = false := by rfl) (hd : (x == ("__debug__" : Str)) = false := by decide) : ST X cl W (.Compare a [.NotIn] [.Name x p2] pos) (mTest (mUn (gInK true ks) ma)) := by
  obtain ⟨d, h1, h2⟩ := G.ex
  exact st_notInK h2 hg h1 ha hb hd
end
end BH

set_option Elab.async false
set_option linter.all false
set_option maxRecDepth 100000
set_option autoImplicit false
set_option maxHeartbeats 1000000
/-! The ends: what the top leaves, and the law's own row. -/
namespace BH
open PySem PySem.Spec PyProof.Rows L2

section
variable {w : World} {K : PySem.W.Frag} {mg : Str → Option Value} {h : Heap} {cl : Nat → Addr}
/-- how n plain parameters bind -/
abbrev BindsAll (x qual : Str) (st : Stmt) (ps : List Str) : Prop := ∀ (kV doc pm : Value) (an : Option Addr) (cdv ct : Value) (us : List Value), us.length = ps.length → bindArgs (PySem.W.fnOf x qual (defArgs st) (defBody st) (defScope st) .none kV doc pm an cdv ct) ⟨us, []⟩ = pure (ps.zip us)
theorem DefT.mk' {x qual : Str} {st : Stmt} {ps : List Str} {f : Addr} {oc kV doc pm cd ct : Value} {od an : Option Addr} {sl : Array (Option Value)} (hb : BindsAll x qual st ps) (X : K.In h) (G : h.Ns mainGlobals mg)
    (a : PySem.W.nsIn K mainGlobals x = some (some (.ref f))) (l : K.lookup f = some ⟨oc, od, .func (PySem.W.fnOf x qual (defArgs st) (defBody st) (defScope st) .none kV doc pm an cd ct), sl⟩) (c : PySem.W.codeIn K cd qual = true) (k : PySem.W.keepIn K (.ref f) = true) :
    DefT K mg x qual st ps [] := by
  have F := fun_mk (st := st) l c k
  exact ⟨f, _, [], [], F, PySem.W.mg_of X G a, F.binds hb, .nil, rks_nil⟩
theorem MethT.mk' {c0 : Nat} {x qual : Str} {st : Stmt} {ps : List Str} {f : Addr} {oc kV doc pm cd ct : Value} {od an : Option Addr} {sl : Array (Option Value)} (hb : BindsAll x qual st ps)
    (a : PySem.W.findIn K (.ref (cl c0)) x = some (some (.ref f))) (i : PySem.W.isFn K (.ref f) = true) (l : K.lookup f = some ⟨oc, od, .func (PySem.W.fnOf x qual (defArgs st) (defBody st) (defScope st) .none kV doc pm an cd ct), sl⟩) (c : PySem.W.codeIn K cd qual = true) (k : PySem.W.keepIn K (.ref f) = true) :
    MethT K cl c0 x qual st ps [] := by
  have F := fun_mk (st := st) l c k
  exact ⟨f, _, [], [], F, ⟨a, i, k⟩, F.binds hb, .nil, rks_nil⟩
theorem InitT.mk' {c0 : Nat} {x qual : Str} {st : Stmt} {ps : List Str} {f : Addr} {oc kV doc pm cd ct : Value} {od an : Option Addr} {sl : Array (Option Value)} (hb : BindsAll "__init__" qual st ps) (X : K.In h) (G : h.Ns mainGlobals mg)
    (a : PySem.W.nsIn K mainGlobals x = some (some (.ref (cl c0)))) (mk : PySem.W.makesIn K (cl c0) = true) (fi : PySem.W.findIn K (.ref (cl c0)) "__init__" = some (some (.ref f))) (i : PySem.W.isFn K (.ref f) = true) (kc : PySem.W.keepIn K (.ref (cl c0)) = true)
    (l : K.lookup f = some ⟨oc, od, .func (PySem.W.fnOf "__init__" qual (defArgs st) (defBody st) (defScope st) .none kV doc pm an cd ct), sl⟩) (c : PySem.W.codeIn K cd qual = true) (k : PySem.W.keepIn K (.ref f) = true) :
    InitT K mg cl c0 x qual st ps [] := by
  have F := fun_mk (st := st) l c k
  exact ⟨f, _, [], [], F, PySem.W.mg_of X G a, ⟨mk, fi, i, kc⟩, F.binds hb, .nil, rks_nil⟩
/-- constants -/
theorem GlobT.int {x : Str} {i : Int} {t : Tok} (X : K.In h) (G : h.Ns mainGlobals mg) (a : PySem.W.nsIn K mainGlobals x = some (some (.int i t))) : GlobT K mg x (.int i) := ⟨_, .int i, PySem.W.mg_of X G a, ⟨_, rfl⟩, fun _ _ => (show _ = _ from rfl)⟩
theorem GlobT.str {x : Str} {i : Str} {t : Tok} (X : K.In h) (G : h.Ns mainGlobals mg) (a : PySem.W.nsIn K mainGlobals x = some (some (.str i t))) : GlobT K mg x (.str i) := ⟨_, .str i, PySem.W.mg_of X G a, ⟨_, rfl⟩, fun _ _ => (show _ = _ from rfl)⟩
/-- a written value -/
def wrV : Value → Option (MV × V)
  | .none => some (.non, .non)
  | .bool b => some (.bl b, .bl b)
  | .int i _ => some (.int i, .int i)
  | .str x _ => some (.str x, .str x)
  | _ => none
theorem wrV_ok {u : Value} {v : MV} {x : V} (e : wrV u = some (v, x)) : RelV x u ∧ ∀ β H, RV K β H v x := by
  cases u <;> first | (cases e; exact ⟨rfl, fun _ _ => (show _ = _ from rfl)⟩) | (cases e; exact ⟨⟨_, rfl⟩, fun _ _ => (show _ = _ from rfl)⟩) | cases e
def wrVs : List Value → Option (List MV × List V)
  | [] => some ([], [])
  | u :: us => match wrV u, wrVs us with
    | some (v, x), some (vs, xs) => some (v :: vs, x :: xs)
    | _, _ => none
theorem wrVs_ok : ∀ {us : List Value} {vs : List MV} {xs : List V}, wrVs us = some (vs, xs) → Vals xs us ∧ ∀ β H, RVs K β H vs xs
  | [], _, _, e => by cases e; exact ⟨.nil, fun _ _ => rfl⟩
  | u :: us, vs, xs, e => by
    simp only [wrVs] at e
    split at e
    · rename_i v x vs' xs' h1 h2
      cases e
      obtain ⟨a1, a2⟩ := wrV_ok (K := K) h1
      obtain ⟨b1, b2⟩ := wrVs_ok h2
      exact ⟨.cons a1 b1, fun β H => ⟨x, xs', rfl, a2 β H, b2 β H⟩⟩
    · cases e
theorem GlobT.tup {x : Str} {p : Addr} {od : Option Addr} {its : Array Value} {n : Nat} {sl : Array (Option Value)} {vs : List MV} {xs : List V} (X : K.In h) (G : h.Ns mainGlobals mg) (a : PySem.W.nsIn K mainGlobals x = some (some (.ref p)))
    (l : K.lookup p = some ⟨.type "tuple", od, .seq its n, sl⟩) (e : wrVs its.toList = some (vs, xs)) (hz : its.size ≤ 1000) : GlobT K mg x (.tup vs) := by
  obtain ⟨h1, h2⟩ := wrVs_ok (K := K) e
  exact ⟨_, .ref p, PySem.W.mg_of X G a, rfl, fun β H => ⟨p, xs, rfl, .inr ⟨_, its, n, l, rfl, rfl, by rw [sizeLine_eq]; omega, h1⟩, h2 β H⟩⟩
/-- dicts with text keys -/
def keysOf : List DictEntry → Option (List Str)
  | [] => some []
  | e :: r => match e.key, keysOf r with
    | .str x _, some ks => some (x :: ks)
    | _, _ => none
theorem keysOf_find : ∀ {es : List DictEntry} {ks : List Str}, keysOf es = some ks → ∀ z : Str, (es.find? (·.key.isStr z)).isSome = decide (z ∈ ks) ∧ es.any (·.refKey) = false
  | [], _, e, z => by cases e; simp
  | d :: r, ks, e, z => by
    simp only [keysOf] at e
    split at e
    · rename_i x t ks' h1 h2
      cases e
      obtain ⟨i1, i2⟩ := keysOf_find h2 z
      have hr : d.refKey = false := by
        unfold DictEntry.refKey
        rw [h1]
      refine ⟨?_, by rw [List.any_cons, hr, i2]; rfl⟩
      rw [List.find?_cons]
      have hk : d.key.isStr z = decide (x = z) := by
        rw [h1]
        by_cases q : x = z
        · subst q
          simp [Value.isStr]
        · simp [Value.isStr, q]
      rw [hk]
      by_cases q : x = z
      · subst q; simp
      · have q' : ¬ z = x := fun z' => q z'.symm
        simp [q, q', i1]
    · cases e
theorem KeysT.mk' {x : Str} {d : Addr} {es : Array DictEntry} {n : Nat} {ks : List Str} (X : K.In h) (G : h.Ns mainGlobals mg) (a : PySem.W.nsIn K mainGlobals x = some (some (.ref d)))
    (l : K.lookup d = some ⟨.type "dict", none, .dict es n, #[]⟩) (e : keysOf es.toList = some ks) (lit : PySem.W.KeysLit w.params es.toList) (low : (d == sysModules) = false) : KeysT K w mg x ks := by
  refine ⟨d, PySem.W.mg_of X G a, es, n, ⟨l, lit, low⟩, fun z => ?_⟩
  obtain ⟨h1, h2⟩ := keysOf_find e z
  unfold PySem.W.nsIn
  rw [l]
  simp only
  cases q : es.toList.find? (·.key.isStr z) with
  | some en =>
    rw [q] at h1
    exact ⟨_, rfl, h1⟩
  | none =>
    rw [q] at h1
    simp only [h2, Bool.false_eq_true, if_false]
    exact ⟨_, rfl, h1⟩
end

theorem clsA_nil {K : PySem.W.Frag} {cl : Nat → Addr} {f : Str} : ClsA K cl [] f := fun c h => by cases h
theorem clsA_cons {K : PySem.W.Frag} {cl : Nat → Addr} {f : Str} {c : Nat} {cs : List Nat} (h1 : Cls K (cl c)) (h2 : NoAttr K (cl c) f) (h3 : ClsA K cl cs f) : ClsA K cl (c :: cs) f := fun d h => by
  rcases List.mem_cons.mp h with e | e
  · rw [e]; exact ⟨h1, h2⟩
  · exact h3 d e
/-! ### the law -/
def spL (K : PySem.W.Frag) : Sp := fun vs H Q _ => ∃ (a : Addr) (ns : List Int), vs = [.ref a] ∧ RoL K H a (ns.map V.int) ∧ ns.length ≤ 63 ∧ ∀ H', Q (.bl true) H'
theorem spL_of {K : PySem.W.Frag} {cl : Nat → Addr} {lm : List MV → M MV} (law : ∀ ns : List Int, ns.length ≤ 63 → ∃ st, lm [.ref 0] [.rol (ns.map .int)] = .ok (.bl true) st) :
    ∀ vs H Q E, spL K vs H Q E → spM K cl 1 lm vs H Q E := by
  intro vs H Q E ⟨a, ns, e, hr, hl, q⟩
  subst e
  obtain ⟨st, hst⟩ := law ns hl
  refine ⟨rfl, [a], [.ref 0], [.rol (ns.map .int)], ⟨.ref a, [], rfl, ⟨a, rfl, rfl⟩, rfl⟩, ⟨rfl, fun i o h => ?_, fun i j p o u h1 h2 h3 h4 m1 m2 => ?_⟩, ?_⟩
  · cases i with
    | zero => cases h; exact ⟨a, rfl, ns.map V.int, hr, rvs_map MV.int V.int (fun _ => (show _ = _ from rfl)) ns⟩
    | succ i => simp at h
  · cases i with
    | zero => cases h3; cases m1
    | succ i => simp at h3
  · rw [hst]
    exact fun β' H' e R w rw => by
      cases rw.bl_of
      exact q H'
/-- the law's def gives True at every script -/
theorem law_ends {l : PySem.W.OpenLaw} {q : Program} {loose : List Str} {XP : (Str → Option Value) → Heap → Prop} {YP : World → Heap → Prop} {d : DefRec} {K : Params → PySem.W.Frag} {k : Nat} {lm : List MV → M MV} (hn : l.most = some 63) (hdf : d.params.defaults = []) (hk : Room k callerA)
    (hY : ∀ (w : World) (h : Heap), YP w h → (K w.params).In h)
    (F : ∀ (w : World) (mg : Str → Option Value) (fa : Addr) (h : Heap), (K w.params).In h → h.Ns mainGlobals mg → mg d.name = some (.ref fa) →
      ∃ (cl : Nat → Addr) (fd : FuncData), (∀ (s : Shared) (u : Value), BindsTo s fd ⟨[u], []⟩ [("script", u)]) ∧ ∀ base : Heap, FnG l.prog w (K w.params) mg base cl k fa fd ["script"] lm)
    (law : ∀ ns : List Int, ns.length ≤ 63 → ∃ st, lm [.ref 0] [.rol (ns.map .int)] = .ok (.bl true) st) :
    PySem.W.WalkO q loose XP YP l.row.toRowW d [] (fun f vs => PySem.call f vs) := by
  refine L2.walk_of (n := 63) (k := k) (x := "script") (CX := fun w => L2.CX l.prog w) (sp := fun w => spL (K w.params)) hn (by decide) hdf hk hY (fun w mg fa h KX G hmg => ?_) (fun w H a ns hl hO hS => ?_) fun w H s e s' c => ?_
  · obtain ⟨cl, fd, hb, hF⟩ := F w mg fa h KX G hmg
    exact ⟨fd, hb, fun base _ _ => (hF base).ok.imp (spL_of law)⟩
  · refine ⟨a, ns, rfl, ?_, hl, fun _ => rfl⟩
    rcases hS with (hS | ⟨o, hS⟩) | hS
    · rcases hO a with z | ⟨o, xs, z⟩
      · rw [z] at hS; cases hS
      · rw [z] at hS; cases hS
    · exact .inl ⟨o, hS⟩
    · exact .inr hS
  · obtain ⟨_, _, _, _, _, _, _, _, _, _, _, _, z⟩ := c
    exact z.elim
end BH

set_option Elab.async false
set_option linter.all false
set_option maxRecDepth 100000
set_option autoImplicit false
/-! Reckoning with the plain machine. -/
namespace BH
open PySem
section
variable (i j : Nat) (v w : MV) (env : BH.Env) (st : Mst) (g g' : MV → MV → M MV) (a b c : ME) (r : MA) (t t' : MT) (p q : MS)
@[simp] theorem mVar_ap : mVar i env st = getO env[i]? st := (rfl)
@[simp] theorem mC_ap : mC v env st = .ok v st := (rfl)
@[simp] theorem mBin_ap : mBin g a b env st = (a env st).bind fun x s1 => (b env s1).bind fun y s2 => g x y s2 := (rfl)
@[simp] theorem mUn_ap (g : MV → M MV) : mUn g a env st = (a env st).bind fun x s1 => g x s1 := (rfl)
@[simp] theorem mTest_ap : mTest a env st = (a env st).bind toB := (rfl)
@[simp] theorem mTru_ap : mTru a env st = (a env st).bind truM := (rfl)
@[simp] theorem truM_bl (b : Bool) : truM (.bl b) st = .ok b st := (rfl)
@[simp] theorem mNil_ap : mNil env st = .ok [] st := (rfl)
@[simp] theorem mCons_ap : mCons a r env st = (a env st).bind fun x s1 => (r env s1).bind fun xs s2 => .ok (x :: xs) s2 := (rfl)
@[simp] theorem mTup_ap : mTup r env st = (r env st).bind fun xs s1 => if xs.length ≤ 16777216 then .ok (.tup xs) s1 else .bad := (rfl)
@[simp] theorem mLst_ap : mLst r env st = (r env st).bind fun xs s1 => newL xs s1 := (rfl)
@[simp] theorem mCallB_ap (g : List MV → M MV) : mCallB g r env st = (r env st).bind g := (rfl)
@[simp] theorem mCallF_ap (g : List MV → M MV) (ds : List MV) : mCallF g r ds env st = (r env st).bind fun vs s1 => g (vs ++ ds) s1 := (rfl)
@[simp] theorem mAnd_ap : mAnd t t' env st = (t env st).bind fun c s1 => if c = true then t' env s1 else .ok false s1 := (rfl)
@[simp] theorem mOr_ap : mOr t t' env st = (t env st).bind fun c s1 => if c = true then .ok true s1 else t' env s1 := (rfl)
@[simp] theorem mNot_ap : mNot t env st = (t env st).bind fun c s1 => .ok (!c) s1 := (rfl)
@[simp] theorem mIf_ap : mIf t a b env st = (t env st).bind fun k s1 => if k = true then a env s1 else b env s1 := (rfl)
@[simp] theorem mAndV_ap : mAndV a b env st = (a env st).bind fun v s1 => (toB v s1).bind fun c s2 => if c = true then b env s2 else .ok (.bl false) s2 := (rfl)
@[simp] theorem mOrV_ap : mOrV a b env st = (a env st).bind fun v s1 => (toB v s1).bind fun c s2 => if c = true then .ok (.bl true) s2 else b env s2 := (rfl)
@[simp] theorem mNotV_ap : mNotV a env st = (a env st).bind fun v s1 => (truM v s1).bind fun c s2 => .ok (.bl (!c)) s2 := (rfl)
@[simp] theorem mChain_ap : mChain g g' a b c env st = (a env st).bind fun x s1 => (b env s1).bind fun y s2 => (g x y s2).bind fun z s3 => (toB z s3).bind fun k s4 => if k = true then (c env s4).bind fun w s5 => g' y w s5 else .ok (.bl false) s4 := (rfl)
@[simp] theorem mNoPart_ap : mNoPart env st = .ok none st := (rfl)
@[simp] theorem mPart_ap : mPart a env st = (a env st).bind fun v s1 => match v with | .int i => .ok (some i) s1 | _ => .bad := (rfl)
@[simp] theorem mSl_ap (l h : MP) : mSl a l h env st = (a env st).bind fun x s1 => (l env s1).bind fun lo s2 => (h env s2).bind fun hi s3 => gSl x lo hi s3 := (rfl)
@[simp] theorem mFld_ap (cs : List Nat) (f : Str) : mFld cs f a env st = (a env st).bind fun x s1 => getF cs f x s1 := (rfl)
@[simp] theorem mMeth_ap (k : Nat) (mt : Str) (fm : List MV → M MV) (ds : List MV) : mMeth k mt fm a r ds env st = (a env st).bind fun x s1 => if clsOf k mt x s1 = true then (r env s1).bind fun vs s2 => fm (x :: (vs ++ ds)) s2 else .bad := (rfl)
@[simp] theorem mBM_ap (T : String) (g : MV → List MV → M MV) : mBM T g a r env st = (a env st).bind fun x s1 => if tyM T x s1 = true then (r env s1).bind fun vs s2 => g x vs s2 else .bad := (rfl)
@[simp] theorem mMake_ap (k : Nat) (init : List MV → M MV) (ds : List MV) : mMake k init r ds env st = (r env st).bind fun vs s1 => (init (.ref s1.length :: (vs ++ ds)) (s1 ++ [.ins k []])).bind fun v s2 => match v with | .non => .ok (.ref s1.length) s2 | _ => .bad := (rfl)
@[simp] theorem mYes_ap : mYes env st = .ok true st := (rfl)
@[simp] theorem sNext_ap : sNext env st = .ok (.nx env) st := (rfl)
@[simp] theorem sBreak_ap : sBreak env st = .ok (.bk env) st := (rfl)
@[simp] theorem sCont_ap : sCont env st = .ok (.ct env) st := (rfl)
@[simp] theorem sBad_ap : sBad env st = .bad := (rfl)
@[simp] theorem sSeq_ap : sSeq p q env st = (p env st).bind fun fl s1 => match fl with | .nx env1 => q env1 s1 | fl => .ok fl s1 := (rfl)
@[simp] theorem sExpr_ap : sExpr a env st = bindX env (a env st) fun _ s1 => .ok (.nx env) s1 := (rfl)
@[simp] theorem sRet_ap : sRet a env st = bindX env (a env st) fun v s1 => .ok (.rt v) s1 := (rfl)
@[simp] theorem sRetN_ap : sRetN env st = .ok (.rt .non) st := (rfl)
@[simp] theorem sIf_ap : sIf t p q env st = bindX env (t env st) fun k s1 => if k = true then p env s1 else q env s1 := (rfl)
@[simp] theorem gtName_ap : gtName i v env st = .ok (env.set i (some v)) st := (rfl)
@[simp] theorem gtNil_ap : gtNil [] env st = .ok env st := (rfl)
@[simp] theorem gtCons_ap (x : MG) (y : MGs) (vs : List MV) : gtCons x y (v :: vs) env st = (x v env st).bind fun env1 s1 => y vs env1 s1 := (rfl)
@[simp] theorem gtTup_ap (n : Nat) (y : MGs) (xs : List MV) : gtTup n y (.tup xs) env st = if xs.length = n then y xs env st else .bad := (rfl)
@[simp] theorem gtSub_ap : gtSub a b v env st = (noX (a env st)).bind fun ov s1 => (noX (b env s1)).bind fun iv s2 => (gSetIx ov iv v s2).bind fun _ s3 => .ok env s3 := (rfl)
@[simp] theorem noX_ok {α : Type} (x : α) : noX (.ok x st) = .ok x st := (rfl)
@[simp] theorem sAsg_ap (x : MG) : sAsg a x env st = bindX env (a env st) fun v s1 => (x v env s1).bind fun env1 s2 => .ok (.nx env1) s2 := (rfl)
@[simp] theorem sAug_ap : sAug i g a env st = match env[i]? with
  | some (some x) => bindX env (a env st) fun y s1 => (g x y s1).bind fun z s2 => .ok (.nx (env.set i (some z))) s2
  | _ => .bad := (rfl)
@[simp] theorem sFldM_ap (cs : List Nat) (f : Str) : sFldM cs f a b env st = bindX env (b env st) fun y s1 => bindX env (a env s1) fun x s2 => (putFM cs f x y s2).bind fun _ s3 => .ok (.nx env) s3 := (rfl)
@[simp] theorem sFldAugM_ap (k : Nat) (f : Str) : sFldAugM k f g a b env st = bindX env (a env st) fun x s1 => (getF [k] f x s1).bind fun old s2 => bindX env (b env s2) fun y s3 => (g old y s3).bind fun z s4 => (putFM [k] f x z s4).bind fun _ s5 => .ok (.nx env) s5 := (rfl)
@[simp] theorem sFor_ap (mi : MIter) (x : MG) : sFor mi x p env st = bindX env (mi env st) fun src s1 => forL src x p (src.size + 1) 0 env s1 := (rfl)
@[simp] theorem iRange1_ap : iRange1 r env st = (r env st).bind rngOf1 := (rfl)
@[simp] theorem iRange2_ap : iRange2 r env st = (r env st).bind rngOf2 := (rfl)
@[simp] theorem iOf_ap : iOf a env st = (a env st).bind srcOf := (rfl)
@[simp] theorem iEnumM_ap : iEnumM a env st = (a env st).bind fun v s1 => (srcSeq v s1).bind fun src s2 => .ok (srcEnum src) s2 := (rfl)
theorem fnM_ap (N n : Nat) (us : List MV) (h : us.length = n) : fnM N n p us st = finB (p (us.map some ++ List.replicate (N - n) none) st) := by unfold fnM; rw [if_pos h]
end
section
variable (i j : Int) (x y : Str) (st : Mst) (xs ys : List MV) (a b : Nat)
@[simp] theorem gAdd_int : gAdd (.int i) (.int j) st = .ok (.int (i + j)) st := (rfl)
@[simp] theorem gSub_int : gSub (.int i) (.int j) st = .ok (.int (i - j)) st := (rfl)
theorem gMul_l (h : small64 i = true) : gMul (.int i) (.int j) st = .ok (.int (i * j)) st := by simp [gMul, h]
theorem gMul_r (h : small64 j = true) : gMul (.int i) (.int j) st = .ok (.int (i * j)) st := by simp [gMul, h]
theorem gMod_int (h : 0 < j) : gMod (.int i) (.int j) st = .ok (.int (i % j)) st := by simp [gMod, h]
theorem gDiv_int (h : 0 < j ∧ j < 1073741824) : gDiv (.int i) (.int j) st = .ok (.int (i / j)) st := by simp [gDiv, h]
@[simp] theorem gLt_int : gLt (.int i) (.int j) st = .ok (.bl (decide (i < j))) st := (rfl)
@[simp] theorem gLe_int : gLe (.int i) (.int j) st = .ok (.bl (decide (i ≤ j))) st := (rfl)
@[simp] theorem gGt_int : gGt (.int i) (.int j) st = .ok (.bl (decide (j < i))) st := (rfl)
@[simp] theorem gGe_int : gGe (.int i) (.int j) st = .ok (.bl (decide (j ≤ i))) st := (rfl)
@[simp] theorem gIAdd_int : gIAdd (.int i) (.int j) st = .ok (.int (i + j)) st := (rfl)
@[simp] theorem gInt_int : gInt [.int i] st = .ok (.int i) st := (rfl)
@[simp] theorem gInt_bl (k : Bool) : gInt [.bl k] st = .ok (.int (if k then 1 else 0)) st := (rfl)
@[simp] theorem gAbs_int : gAbs [.int i] st = .ok (.int (if i < 0 then -i else i)) st := (rfl)
@[simp] theorem ofString_inj (s t : String) : (Str.ofString s = Str.ofString t) ↔ s = t := by
  rw [Str.ofString_eq_toList, Str.ofString_eq_toList]
  constructor
  · intro h
    have h1 : s.toList.map Char.toNat = t.toList.map Char.toNat := by simpa using h
    have h2 : ∀ (l m : List Char), l.map Char.toNat = m.map Char.toNat → l = m := by
      intro l
      induction l with
      | nil => intro m h; cases m with
        | nil => rfl
        | cons a b => cases h
      | cons a l ih => intro m h; cases m with
        | nil => cases h
        | cons b m =>
          rw [List.map_cons, List.map_cons] at h
          injection h with e1 e2
          rw [ih m e2, Char.toNat_inj.mp e1]
    exact String.toList_inj.mp (h2 _ _ h1)
  · intro h; rw [h]
@[simp] theorem ofString_beq (s t : String) : (Str.ofString s == Str.ofString t) = (s == t) := by
  rw [Bool.eq_iff_iff]
  simp
@[simp] theorem strOk_ofString (s : String) : PyData.strOk (Str.ofString s) = true := by
  rw [Str.ofString_eq_toList]
  unfold PyData.strOk
  simp only [List.all_toArray, List.all_map, List.all_eq_true]
  intro c _
  have h := c.valid
  simp only [Function.comp, decide_eq_true_eq]
  show c.val.toNat < 0x110000
  rcases h with h | h <;> omega
end
section
variable (N : Nat) (p : MS) (st : Mst) (a b c d e : MV)
@[simp] theorem fnM1 : fnM N 1 p [a] st = finB (p ([some a] ++ List.replicate (N - 1) none) st) := (rfl)
@[simp] theorem fnM2 : fnM N 2 p [a, b] st = finB (p ([some a, some b] ++ List.replicate (N - 2) none) st) := (rfl)
@[simp] theorem fnM3 : fnM N 3 p [a, b, c] st = finB (p ([some a, some b, some c] ++ List.replicate (N - 3) none) st) := (rfl)
@[simp] theorem fnM4 : fnM N 4 p [a, b, c, d] st = finB (p ([some a, some b, some c, some d] ++ List.replicate (N - 4) none) st) := (rfl)
@[simp] theorem fnM5 : fnM N 5 p [a, b, c, d, e] st = finB (p ([some a, some b, some c, some d, some e] ++ List.replicate (N - 5) none) st) := (rfl)
end
end BH

set_option Elab.async false
set_option linter.all false
set_option maxRecDepth 100000
set_option autoImplicit false
/-! Rules for loops, places, equality. -/
namespace BH
open PySem PyProof.Rows L2
/-! ### places -/
theorem matI_nat {xs : List MV} {i : Int} {k : Nat} {v : MV} (e : i = (k : Int)) (h : xs[k]? = some v) : matI xs i = some v := by
  have hk : k < xs.length := (List.getElem?_eq_some_iff.mp h).1
  unfold matI mixN
  subst e
  rw [if_pos (by omega), if_pos (by omega)]
  simpa using h
theorem gIx_tup {xs : List MV} {i : Int} {k : Nat} {v : MV} {st : Mst} (e : i = (k : Int)) (h : xs[k]? = some v) : gIx (.tup xs) (.int i) st = .ok v st := by
  simp only [gIx, itemsOf, matI_nat e h]
theorem gIx_lst {xs : List MV} {a : Nat} {i : Int} {k : Nat} {v : MV} {st : Mst} (ha : st[a]? = some (.lst xs)) (e : i = (k : Int)) (h : xs[k]? = some v) : gIx (.ref a) (.int i) st = .ok v st := by
  simp only [gIx, itemsOf, ha, matI_nat e h]
theorem gIx_rol {xs : List MV} {a : Nat} {i : Int} {k : Nat} {v : MV} {st : Mst} (ha : st[a]? = some (.rol xs)) (e : i = (k : Int)) (h : xs[k]? = some v) : gIx (.ref a) (.int i) st = .ok v st := by
  simp only [gIx, itemsOf, ha, matI_nat e h]
theorem mixN_nat {n : Nat} {i : Int} {k : Nat} (e : i = (k : Int)) (h : k < n) : mixN n i = some k := by
  unfold mixN
  subst e
  rw [if_pos (by omega), if_pos (by omega)]
  simp
@[simp] theorem gLen_tup (xs : List MV) (st : Mst) : gLen [.tup xs] st = .ok (.int xs.length) st := rfl
theorem gLen_lst {xs : List MV} {a : Nat} {st : Mst} (ha : st[a]? = some (.lst xs)) : gLen [.ref a] st = .ok (.int xs.length) st := by simp only [gLen, itemsOf, ha]
theorem gLen_rol {xs : List MV} {a : Nat} {st : Mst} (ha : st[a]? = some (.rol xs)) : gLen [.ref a] st = .ok (.int xs.length) st := by simp only [gLen, itemsOf, ha]
@[simp] theorem gTuple_tup (xs : List MV) (st : Mst) : gTuple [.tup xs] st = .ok (.tup xs) st := rfl
theorem gTuple_lst {xs : List MV} {a : Nat} {st : Mst} (ha : st[a]? = some (.lst xs)) : gTuple [.ref a] st = .ok (.tup xs) st := by simp only [gTuple, itemsOf, ha]
theorem gList_tup {xs : List MV} {st : Mst} (h : xs.length ≤ 16777216) : gList [.tup xs] st = .ok (.ref st.length) (st ++ [.lst xs]) := by simp only [gList, itemsOf, newL, if_pos h]
theorem gList_lst {xs : List MV} {a : Nat} {st : Mst} (ha : st[a]? = some (.lst xs)) (h : xs.length ≤ 16777216) : gList [.ref a] st = .ok (.ref st.length) (st ++ [.lst xs]) := by simp only [gList, itemsOf, ha, newL, if_pos h]
theorem gAppend_lst {xs : List MV} {a : Nat} {y : MV} {st : Mst} (ha : st[a]? = some (.lst xs)) (h : xs.length < 16777216) : gAppend (.ref a) [y] st = .ok .non (st.set a (.lst (xs ++ [y]))) := by simp only [gAppend, ha, if_pos h]
theorem tyM_lst {xs : List MV} {a : Nat} {st : Mst} (ha : st[a]? = some (.lst xs)) : tyM "list" (.ref a) st = true := by simp only [tyM, ha]; rfl
theorem gSetIx_lst {xs : List MV} {a : Nat} {i : Int} {k : Nat} {v : MV} {st : Mst} (ha : st[a]? = some (.lst xs)) (e : i = (k : Int)) (h : k < xs.length) : gSetIx (.ref a) (.int i) v st = .ok () (st.set a (.lst (xs.set k v))) := by
  simp only [gSetIx, ha, mixN_nat e h]
theorem getF_ins {a c : Nat} {fs : Mfs} {f : Str} {v : MV} {st : Mst} {cs : List Nat} (ha : st[a]? = some (.ins c fs)) (hc : c ∈ cs) (hf : fs.lookup f = some v) : getF cs f (.ref a) st = .ok v st := by
  simp only [getF, ha, if_pos hc, hf]
theorem putFM_ins {a c : Nat} {fs : Mfs} {f : Str} {v : MV} {st : Mst} {cs : List Nat} (ha : st[a]? = some (.ins c fs)) (hc : c ∈ cs) (hl : fs.length < 900) : putFM cs f (.ref a) v st = .ok () (st.set a (.ins c (mputF f v fs))) := by
  simp only [putFM, ha, if_pos (show c ∈ cs ∧ fs.length < 900 from ⟨hc, hl⟩)]
theorem clsOf_ins {a c : Nat} {fs : Mfs} {f : Str} {st : Mst} (ha : st[a]? = some (.ins c fs)) (hf : fs.lookup f = none) : clsOf c f (.ref a) st = true := by
  simp only [clsOf, ha, hf]
  simp
/-! ### sources -/
theorem srcOf_tup (xs : List MV) (st : Mst) : srcOf (.tup xs) st = .ok (srcItems xs) st := rfl
theorem srcOf_lst {xs : List MV} {a : Nat} {st : Mst} (ha : st[a]? = some (.lst xs)) : srcOf (.ref a) st = .ok (srcList a xs.length) st := by simp only [srcOf, itemsOf, ha]
theorem rngOf1_nat {j : Int} {n : Nat} {st : Mst} (e : j = (n : Int)) (h : n < 4611686018427387904) : rngOf1 [.int j] st = .ok (srcRange 0 n) st := by
  subst e
  simp only [rngOf1]
  rw [if_pos (by omega)]
  simp
theorem rngOf2_nat {i j : Int} {n : Nat} {st : Mst} (e : j - i = (n : Int)) (h1 : 0 ≤ i) (h : j < 4611686018427387904) : rngOf2 [.int i, .int j] st = .ok (srcRange i n) st := by
  simp only [rngOf2]
  rw [if_pos (by omega), e]
  simp
/-! ### for -/
/-- what a turn must do -/
def Turns (I : Env → Mst → Prop) (r : Res Fl) : Prop := ∃ env' st', (r = .ok (.nx env') st' ∨ r = .ok (.ct env') st') ∧ I env' st'
theorem for_rule {src : Src} {g : MG} {body : MS} {n : Nat} (I : Nat → Env → Mst → Prop) (hstop : ∀ env st, I n env st → src.next n st = some none)
    (step : ∀ i env st, i < n → I i env st → ∃ x env1 s1, src.next i st = some (some x) ∧ g x env st = .ok env1 s1 ∧ Turns (I (i + 1)) (body env1 s1)) :
    ∀ (m i : Nat) (env : Env) (st : Mst), i ≤ n → n - i < m → I i env st → ∃ env' st', forL src g body m i env st = .ok (.nx env') st' ∧ I n env' st'
  | 0, i, env, st, _, hm, _ => by omega
  | m + 1, i, env, st, hi, hm, h => by
    by_cases e : i = n
    · subst e
      exact ⟨env, st, by simp only [forL, hstop env st h], h⟩
    · obtain ⟨x, env1, s1, h1, h2, env2, s2, h3, h4⟩ := step i env st (by omega) h
      obtain ⟨env', st', h5, h6⟩ := for_rule I hstop step m (i + 1) env2 s2 (by omega) (by omega) h4
      refine ⟨env', st', ?_, h6⟩
      simp only [forL, h1, h2, Res.bind_ok]
      rcases h3 with h3 | h3
      · simp only [h3, Res.bind_ok, h5]
      · simp only [h3, Res.bind_ok, h5]
theorem for_range {lo : Int} {n : Nat} {g : MG} {body : MS} {env : Env} {st : Mst} (I : Nat → Env → Mst → Prop) (h0 : I 0 env st)
    (step : ∀ i env st, i < n → I i env st → ∃ env1 s1, g (.int (lo + i)) env st = .ok env1 s1 ∧ Turns (I (i + 1)) (body env1 s1)) :
    ∃ env' st', forL (srcRange lo n) g body (n + 1) 0 env st = .ok (.nx env') st' ∧ I n env' st' := by
  refine for_rule I (fun env st _ => by simp [srcRange]) (fun i env st hi h => ?_) (n + 1) 0 env st (Nat.zero_le _) (by omega) h0
  obtain ⟨env1, s1, h1, h2⟩ := step i env st hi h
  exact ⟨_, env1, s1, by simp [srcRange, hi], h1, h2⟩
theorem for_items {xs : List MV} {g : MG} {body : MS} {env : Env} {st : Mst} (I : Nat → Env → Mst → Prop) (h0 : I 0 env st)
    (step : ∀ i x env st, xs[i]? = some x → I i env st → ∃ env1 s1, g x env st = .ok env1 s1 ∧ Turns (I (i + 1)) (body env1 s1)) :
    ∃ env' st', forL (srcItems xs) g body (xs.length + 1) 0 env st = .ok (.nx env') st' ∧ I xs.length env' st' := by
  refine for_rule I (fun env st _ => by simp [srcItems]) (fun i env st hi h => ?_) (xs.length + 1) 0 env st (Nat.zero_le _) (by omega) h0
  have hx : xs[i]? = some xs[i] := by simp [hi]
  obtain ⟨env1, s1, h1, h2⟩ := step i xs[i] env st hx h
  exact ⟨_, env1, s1, by simp [srcItems, hx], h1, h2⟩
theorem for_list {a : Nat} {xs : List MV} {g : MG} {body : MS} {env : Env} {st : Mst} (I : Nat → Env → Mst → Prop) (hr : ∀ i env st, I i env st → itemsOf st (.ref a) = some xs) (h0 : I 0 env st)
    (step : ∀ i x env st, xs[i]? = some x → I i env st → ∃ env1 s1, g x env st = .ok env1 s1 ∧ Turns (I (i + 1)) (body env1 s1)) :
    ∃ env' st', forL (srcList a xs.length) g body (xs.length + 1) 0 env st = .ok (.nx env') st' ∧ I xs.length env' st' := by
  refine for_rule I (fun env st h => by simp only [srcList, hr _ _ _ h]; simp) (fun i env st hi h => ?_) (xs.length + 1) 0 env st (Nat.zero_le _) (by omega) h0
  have hx : xs[i]? = some xs[i] := by simp [hi]
  obtain ⟨env1, s1, h1, h2⟩ := step i xs[i] env st hx h
  exact ⟨_, env1, s1, by simp only [srcList, hr _ _ _ h, Option.map_some, hx], h1, h2⟩
/-! ### comprehensions whose element makes nothing -/
theorem lc_rule {src : Src} {t : Tgt} {test : MT} {elt : ME} {env : Env} {st : Mst} {D n : Nat} (y : Nat → Option MV)
    (hstop : ∀ acc, src.next n (st ++ [.lst acc]) = some none) (hD : D = st.length) (hlen : n < 16777216)
    (step : ∀ i acc, i < n → ∃ x env1, src.next i (st ++ [.lst acc]) = some (some x) ∧ t.put x env = some env1 ∧ match y i with
      | some v => test env1 (st ++ [.lst acc]) = .ok true (st ++ [.lst acc]) ∧ elt env1 (st ++ [.lst acc]) = .ok v (st ++ [.lst acc])
      | none => test env1 (st ++ [.lst acc]) = .ok false (st ++ [.lst acc])) :
    ∀ (m i : Nat) (acc : List MV), i ≤ n → n - i < m → acc.length ≤ i → lcL src t test elt env D m i (st ++ [.lst acc]) = .ok (.ref D) (st ++ [.lst (acc ++ (List.range' i (n - i)).filterMap y)])
  | 0, i, acc, _, hm, _ => by omega
  | m + 1, i, acc, hi, hm, ha => by
    by_cases e : i = n
    · subst e
      simp only [lcL, hstop acc]
      simp
    · obtain ⟨x, env1, h1, h2, h3⟩ := step i acc (by omega)
      have hr : List.range' i (n - i) = i :: List.range' (i + 1) (n - (i + 1)) := by
        rw [show n - i = (n - (i + 1)) + 1 by omega, List.range'_succ]
      cases hy : y i with
      | none =>
        rw [hy] at h3
        simp only [lcL, h1, h2, h3, noX_ok, Res.bind_ok, Bool.false_eq_true, if_false]
        rw [lc_rule y hstop hD hlen step m (i + 1) acc (by omega) (by omega) (by omega), hr, List.filterMap_cons, hy]
      | some v =>
        rw [hy] at h3
        have hl : lappend D v (st ++ [.lst acc]) = .ok () (st ++ [.lst (acc ++ [v])]) := by
          subst hD
          have hg : (st ++ [MO.lst acc])[st.length]? = some (.lst acc) := by simp
          simp only [lappend, hg, if_pos (show acc.length < 16777216 by omega)]
          simp
        simp only [lcL, h1, h2, h3.1, h3.2, noX_ok, Res.bind_ok, if_true, hl]
        rw [lc_rule y hstop hD hlen step m (i + 1) (acc ++ [v]) (by omega) (by omega) (by simp; omega), hr, List.filterMap_cons, hy]
        simp
/-! ### equality -/
mutual
theorem dat_can (st : Mst) : ∀ (n : Nat) (v : MV) (d : PyData), dat st n v = some d → d.canLay0 = true
  | 0, _, _, h => by cases h
  | n + 1, .non, _, h => by cases h; simp [PyData.canLay0]
  | n + 1, .bl b, _, h => by cases h; simp [PyData.canLay0]
  | n + 1, .int b, _, h => by cases h; simp [PyData.canLay0]
  | n + 1, .str b, _, h => by
    simp only [dat] at h
    split at h
    · rename_i ok
      cases h
      simp [PyData.canLay0, ok]
    · cases h
  | n + 1, .tup xs, d, h => by
    simp only [dat, Option.map_eq_some_iff] at h
    obtain ⟨ds, h1, rfl⟩ := h
    simp only [PyData.canLay0]
    exact dats_can st n xs ds (optAll_mem h1)
  | n + 1, .ref a, d, h => by
    simp only [dat] at h
    split at h
    · obtain ⟨ds, h1, rfl⟩ := Option.map_eq_some_iff.mp h
      simp only [PyData.canLay0]
      exact dats_can st n _ ds (optAll_mem h1)
    · obtain ⟨ds, h1, rfl⟩ := Option.map_eq_some_iff.mp h
      simp only [PyData.canLay0]
      exact dats_can st n _ ds (optAll_mem h1)
    · cases h
  | n + 1, .ty _, _, h => by cases h
  termination_by n _ => (n, 0)
theorem dats_can (st : Mst) : ∀ (n : Nat) (xs : List MV) (ds : List PyData), Paired (fun x y => dat st n x = some y) xs ds → PyData.canLayAll0 ds = true
  | n, [], ds, h => by
    cases h
    simp [PyData.canLayAll0]
  | n, x :: xs, ds, h => by
    cases h with
    | cons h1 h2 => simp [PyData.canLayAll0, dat_can st n x _ h1, dats_can st n xs _ h2]
  termination_by n xs => (n, xs.length + 1)
end
theorem gEq_same {x y : MV} {d : PyData} {st : Mst} (h1 : dat st 64 x = some d) (h2 : dat st 64 y = some d) : gEq x y st = .ok (.bl true) st := by
  simp only [gEq, h1, h2, SeqAt.eqv_refl d (dat_can st 64 x d h1)]
theorem gNe_same {x y : MV} {d : PyData} {st : Mst} (h1 : dat st 64 x = some d) (h2 : dat st 64 y = some d) : gNe x y st = .ok (.bl false) st := by
  simp only [gNe, h1, h2, SeqAt.eqv_refl d (dat_can st 64 x d h1)]
  rfl
@[simp] theorem gEq_int (i j : Int) (st : Mst) : gEq (.int i) (.int j) st = .ok (.bl (i == j)) st := by simp [gEq, dat, PyData.eqv]
@[simp] theorem gNe_int (i j : Int) (st : Mst) : gNe (.int i) (.int j) st = .ok (.bl (!(i == j))) st := by simp [gNe, dat, PyData.eqv]
theorem gEq_str {x y : Str} {st : Mst} (hx : PyData.strOk x = true) (hy : PyData.strOk y = true) : gEq (.str x) (.str y) st = .ok (.bl (x == y)) st := by simp [gEq, dat, PyData.eqv, hx, hy]
theorem gNe_str {x y : Str} {st : Mst} (hx : PyData.strOk x = true) (hy : PyData.strOk y = true) : gNe (.str x) (.str y) st = .ok (.bl (!(x == y))) st := by simp [gNe, dat, PyData.eqv, hx, hy]
@[simp] theorem gEq_lit (x y : String) (st : Mst) : gEq (.str (Str.ofString x)) (.str (Str.ofString y)) st = .ok (.bl (x == y)) st := by simp [gEq_str]
@[simp] theorem gNe_lit (x y : String) (st : Mst) : gNe (.str (Str.ofString x)) (.str (Str.ofString y)) st = .ok (.bl (!(x == y))) st := by simp [gNe_str]
theorem optAll_map {α γ δ : Type} {f : α → Option γ} {g : δ → α} {k : δ → γ} (h : ∀ x, f (g x) = some (k x)) : ∀ xs : List δ, optAll f (xs.map g) = some (xs.map k)
  | [] => rfl
  | x :: xs => by simp only [List.map_cons, optAll, h x, optAll_map h xs]
/-- a tuple of ints -/
def itup (xs : List Int) : MV := .tup (xs.map .int)
theorem dat_itup (st : Mst) (n : Nat) (xs : List Int) : dat st (n + 2) (itup xs) = some (.tuple (xs.map .int)) := by
  simp only [itup, dat]
  rw [optAll_map (f := dat st (n + 1)) (g := MV.int) (k := PyData.int) (fun x => rfl)]
  rfl

/-! ### the store -/
theorem up {st g : Mst} {a : Nat} {o : MO} (h : st[a]? = some o) : (st ++ g)[a]? = some o := by
  rw [List.getElem?_append_left (List.getElem?_eq_some_iff.mp h).1]; exact h
theorem lt_of {st : Mst} {a : Nat} {o : MO} (h : st[a]? = some o) : a < st.length := (List.getElem?_eq_some_iff.mp h).1
theorem itemsOf_up {st g : Mst} {v : MV} {xs : List MV} (h : itemsOf st v = some xs) : itemsOf (st ++ g) v = some xs := by
  cases v with
  | tup ys => exact h
  | ref a =>
    simp only [itemsOf] at h ⊢
    split at h
    · rename_i ys ho
      rw [up ho]; exact h
    · rename_i ys ho
      rw [up ho]; exact h
    · cases h
  | _ => exact h
theorem gIx_of {xs : List MV} {v : MV} {i : Int} {k : Nat} {x : MV} {st : Mst} (hv : itemsOf st v = some xs) (e : i = (k : Int)) (h : xs[k]? = some x) : gIx v (.int i) st = .ok x st := by
  cases v with
  | str s => cases hv
  | _ => simp only [gIx, hv, matI_nat e h]
theorem last_snoc {st : Mst} {o : MO} : (st ++ [o])[st.length]? = some o := by simp
theorem set_last {st : Mst} {o o' : MO} : (st ++ [o]).set st.length o' = st ++ [o'] := by simp
/-- a turn that goes on -/
theorem Turns.nx {I : Env → Mst → Prop} {r : Res Fl} {env : Env} {st : Mst} (h : r = .ok (.nx env) st) (hI : I env st) : Turns I r := ⟨env, st, .inl h, hI⟩
end BH

set_option Elab.async false
set_option linter.all false
set_option maxRecDepth 100000
set_option autoImplicit false
namespace BH
open PySem PyProof.Rows L2
section
variable (xs ys : List MV) (i : Int) (k : Nat) (st : Mst)
@[simp] theorem gIx_tup_ap : gIx (.tup xs) (.int i) st = match matI xs i with | some v => .ok v st | none => .bad := (rfl)
theorem gIx_lst_ap {a : Nat} (ha : st[a]? = some (.lst xs)) : gIx (.ref a) (.int i) st = match matI xs i with | some v => .ok v st | none => .bad := by simp only [gIx, itemsOf, ha] <;> rfl
theorem gIx_rol_ap {a : Nat} (ha : st[a]? = some (.rol xs)) : gIx (.ref a) (.int i) st = match matI xs i with | some v => .ok v st | none => .bad := by simp only [gIx, itemsOf, ha] <;> rfl
@[simp] theorem matI_cast : matI xs (k : Int) = xs[k]? := by
  unfold matI mixN
  by_cases h : k < xs.length
  · rw [if_pos (by omega), if_pos (by omega)]; simp
  · rw [if_pos (by omega), if_neg (by omega), List.getElem?_eq_none (by omega)]; rfl
@[simp] theorem matI_zero : matI xs 0 = xs[0]? := matI_cast xs 0
@[simp] theorem matI_one : matI xs 1 = xs[1]? := matI_cast xs 1
@[simp] theorem matI_2 : matI xs 2 = xs[2]? := matI_cast xs 2
@[simp] theorem matI_3 : matI xs 3 = xs[3]? := matI_cast xs 3
theorem matI_eq {j : Int} {n : Nat} (e : j = (n : Int)) : matI xs j = xs[n]? := by rw [e]; exact matI_cast xs n
@[simp] theorem gIn_tup_ap (n : Bool) (x : MV) : gIn n x (.tup ys) st = if mflat x = true ∧ ys.all mflat = true then .ok (.bl (if n then !ys.any (fun z => meq z x) else ys.any (fun z => meq z x))) st else .bad := (rfl)
@[simp] theorem mflat_str (s : Str) : mflat (.str s) = true := (rfl)
@[simp] theorem mflat_int (s : Int) : mflat (.int s) = true := (rfl)
@[simp] theorem meq_str (s t : Str) : meq (.str s) (.str t) = (s == t) := (rfl)
@[simp] theorem meq_int (s t : Int) : meq (.int s) (.int t) = (s == t) := (rfl)
@[simp] theorem gSl_tup_ap (lo hi : Option Int) : gSl (.tup xs) lo hi st = .ok (.tup (mcut xs lo hi)) st := (rfl)
theorem gSl_lst_ap {a : Nat} (ha : st[a]? = some (.lst xs)) (lo hi : Option Int) : gSl (.ref a) lo hi st = .ok (.ref st.length) (st ++ [.lst (mcut xs lo hi)]) := by simp only [gSl, ha]
theorem gSl_rol_ap {a : Nat} (ha : st[a]? = some (.rol xs)) (lo hi : Option Int) : gSl (.ref a) lo hi st = .ok (.ref st.length) (st ++ [.lst (mcut xs lo hi)]) := by simp only [gSl, ha]
@[simp] theorem newL_ap : newL xs st = if xs.length ≤ 16777216 then .ok (.ref st.length) (st ++ [.lst xs]) else .bad := (rfl)
theorem mcut_to : mcut xs none (some (k : Int)) = xs.take k := by
  simp only [mcut, HT.sIx]
  rw [if_neg (by omega)]
  simp
theorem mcut_from : mcut xs (some (k : Int)) none = xs.drop k := by
  simp only [mcut, HT.sIx]
  rw [if_neg (by omega)]
  rw [List.take_of_length_le (by simp)]
  by_cases h : k ≤ xs.length
  · rw [show min (k : Int).toNat xs.length = k by omega]
  · rw [List.drop_eq_nil_of_le (by omega), List.drop_eq_nil_of_le (by omega)]
theorem take_snoc {α : Type} {xs : List α} {n : Nat} {x : α} (h : xs[n]? = some x) : xs.take (n + 1) = xs.take n ++ [x] := by
  rw [List.take_succ, h]; rfl
end
@[simp] theorem size_range (lo : Int) (n : Nat) : (srcRange lo n).size = n := (rfl)
@[simp] theorem size_items (xs : List MV) : (srcItems xs).size = xs.length := (rfl)
@[simp] theorem size_list (a n : Nat) : (srcList a n).size = n := (rfl)
/-- ends well, and so -/
def Post {α : Type} (r : Res α) (Q : α → Mst → Prop) : Prop := ∃ v st', r = .ok v st' ∧ Q v st'
theorem Post.ok {α : Type} {v : α} {st : Mst} {Q : α → Mst → Prop} (h : Q v st) : Post (.ok v st) Q := ⟨v, st, rfl, h⟩
@[simp] theorem post_ok {α : Type} {v : α} {st : Mst} {Q : α → Mst → Prop} : Post (.ok v st) Q ↔ Q v st := ⟨fun ⟨_, _, e, h⟩ => by cases e; exact h, .ok⟩
theorem Post.of {α : Type} {r : Res α} {v : α} {st : Mst} {Q : α → Mst → Prop} (e : r = .ok v st) (h : Q v st) : Post r Q := ⟨v, st, e, h⟩
theorem Post.bind {α γ : Type} {r : Res α} {f : α → M γ} {Q : γ → Mst → Prop} : Post r (fun v st => Post (f v st) Q) → Post (r.bind f) Q := by
  rintro ⟨v, st, rfl, h⟩
  exact h
theorem Post.imp {α : Type} {r : Res α} {Q Q' : α → Mst → Prop} (h : Post r Q) (k : ∀ v st, Q v st → Q' v st) : Post r Q' := by
  obtain ⟨v, st, e, h⟩ := h
  exact ⟨v, st, e, k v st h⟩
theorem Post.bindX {α : Type} {env : BH.Env} {r : Res α} {f : α → M Fl} {Q : Fl → Mst → Prop} : Post r (fun v st => Post (f v st) Q) → Post (bindX env r f) Q := by
  rintro ⟨v, st, rfl, h⟩
  exact h
theorem Post.finB {r : Res Fl} {Q : MV → Mst → Prop} : Post r (fun fl st => Post (finB (.ok fl st)) Q) → Post (finB r) Q := by
  rintro ⟨v, st, rfl, h⟩
  exact h
theorem Post.range {lo : Int} {n m : Nat} {g : MG} {body : MS} {env : BH.Env} {st : Mst} {Q : Fl → Mst → Prop} (I : Nat → BH.Env → Mst → Prop) (h0 : I 0 env st) (hm : m = n + 1)
    (step : ∀ i env st, i < n → I i env st → ∃ env1 s1, g (.int (lo + i)) env st = .ok env1 s1 ∧ Turns (I (i + 1)) (body env1 s1)) (hk : ∀ env st, I n env st → Q (.nx env) st) : Post (forL (srcRange lo n) g body m 0 env st) Q := by
  subst hm
  obtain ⟨env', st', h1, h2⟩ := for_range I h0 step
  exact ⟨_, _, h1, hk _ _ h2⟩
theorem Post.items {xs : List MV} {m : Nat} {g : MG} {body : MS} {env : BH.Env} {st : Mst} {Q : Fl → Mst → Prop} (I : Nat → BH.Env → Mst → Prop) (h0 : I 0 env st) (hm : m = xs.length + 1)
    (step : ∀ i x env st, xs[i]? = some x → I i env st → ∃ env1 s1, g x env st = .ok env1 s1 ∧ Turns (I (i + 1)) (body env1 s1)) (hk : ∀ env st, I xs.length env st → Q (.nx env) st) : Post (forL (srcItems xs) g body m 0 env st) Q := by
  subst hm
  obtain ⟨env', st', h1, h2⟩ := for_items I h0 step
  exact ⟨_, _, h1, hk _ _ h2⟩
theorem Post.list {a : Nat} {xs : List MV} {n m : Nat} {g : MG} {body : MS} {env : BH.Env} {st : Mst} {Q : Fl → Mst → Prop} (I : Nat → BH.Env → Mst → Prop) (hr : ∀ i env st, I i env st → itemsOf st (.ref a) = some xs) (h0 : I 0 env st) (hm : m = xs.length + 1) (hn : n = xs.length)
    (step : ∀ i x env st, xs[i]? = some x → I i env st → ∃ env1 s1, g x env st = .ok env1 s1 ∧ Turns (I (i + 1)) (body env1 s1)) (hk : ∀ env st, I xs.length env st → Q (.nx env) st) : Post (forL (srcList a n) g body m 0 env st) Q := by
  subst hm
  subst hn
  obtain ⟨env', st', h1, h2⟩ := for_list I hr h0 step
  exact ⟨_, _, h1, hk _ _ h2⟩
theorem Turns.of {I : BH.Env → Mst → Prop} {r : Res Fl} (h : Post r (fun fl st => ∃ env, fl = .nx env ∧ I env st)) : Turns I r := by
  obtain ⟨_, st, e, env, rfl, hI⟩ := h
  exact ⟨env, st, .inl e, hI⟩
@[simp] theorem turns_nx {I : BH.Env → Mst → Prop} {env : BH.Env} {st : Mst} : Turns I (.ok (.nx env) st) ↔ I env st := by
  constructor
  · rintro ⟨_, st, h | h, k⟩
    · cases h; exact k
    · cases h
  · intro h
    exact ⟨env, st, .inl rfl, h⟩
theorem get_of {α : Type} {xs : List α} {i : Nat} (h : i < xs.length) : ∃ x, xs[i]? = some x := ⟨xs[i], by simp [h]⟩
theorem gIx_it {xs : List MV} {v : MV} {st : Mst} (hv : itemsOf st v = some xs) (g : Mst) (i : Int) : gIx v (.int i) (st ++ g) = match matI xs i with | some x => .ok x (st ++ g) | none => .bad := by
  have h := itemsOf_up (g := g) hv
  cases v with
  | str s => cases hv
  | _ => simp only [gIx, h] <;> rfl
theorem itemsOf_itup (st : Mst) (xs : List Int) : itemsOf st (itup xs) = some (xs.map .int) := rfl
theorem itemsOf_lst {st : Mst} {a : Nat} {xs : List MV} (h : st[a]? = some (.lst xs)) : itemsOf st (.ref a) = some xs := by simp only [itemsOf, h]
theorem gList_it {xs : List MV} {v : MV} {st : Mst} (hv : itemsOf st v = some xs) (h : xs.length ≤ 16777216) (hs : ∀ s, v ≠ .str s) : gList [v] st = .ok (.ref st.length) (st ++ [.lst xs]) := by
  cases v with
  | str s => exact absurd rfl (hs s)
  | _ => simp only [gList, hv, newL, if_pos h]
theorem set_mid {α : Type} {xs : List α} {n : Nat} (h : n < xs.length) (x : α) : xs.take n ++ x :: xs.drop (n + 1) = xs.set n x := by
  rw [List.set_eq_take_append_cons_drop, if_pos h]
@[simp] theorem gAdd_tup_ap (xs ys : List MV) (st : Mst) : gAdd (.tup xs) (.tup ys) st = if xs.length + ys.length ≤ 16777216 then .ok (.tup (xs ++ ys)) st else .bad := (rfl)
theorem gAdd_lst {xs ys : List MV} {a b : Nat} {st : Mst} (ha : st[a]? = some (.lst xs)) (hb : st[b]? = some (.lst ys)) (h : xs.length + ys.length ≤ 16777216) : gAdd (.ref a) (.ref b) st = .ok (.ref st.length) (st ++ [.lst (xs ++ ys)]) := by
  simp only [gAdd, ha, hb, newL, List.length_append, if_pos h]
@[simp] theorem mLc_ap (mi : MIter) (vs : List Nat) (t : Tgt) (test : MT) (elt : ME) (env : BH.Env) (st : Mst) : mLc mi vs t test elt env st = (mi env st).bind fun src s1 => lcL src t test elt (mwipe env vs) s1.length (src.size + 1) 0 (s1 ++ [.lst []]) := (rfl)
@[simp] theorem mwipe_nil (env : BH.Env) : mwipe env [] = env := (rfl)
@[simp] theorem mwipe_cons (env : BH.Env) (v : Nat) (vs : List Nat) : mwipe env (v :: vs) = (mwipe env vs).set v none := (rfl)
@[simp] theorem put_nm (i : Nat) (x : MV) (env : BH.Env) : Tgt.put (.nm i) x env = some (env.set i (some x)) := (rfl)
theorem lc_range {lo : Int} {n m D : Nat} {t : Tgt} {test : MT} {elt : ME} {env : BH.Env} {st : Mst} (y : Nat → Option MV) (hn : n < 16777216) (hm : m = n + 1) (hD : D = st.length)
    (step : ∀ i acc, i < n → ∃ env1, t.put (.int (lo + i)) env = some env1 ∧ match y i with
      | some v => test env1 (st ++ [.lst acc]) = .ok true (st ++ [.lst acc]) ∧ elt env1 (st ++ [.lst acc]) = .ok v (st ++ [.lst acc])
      | none => test env1 (st ++ [.lst acc]) = .ok false (st ++ [.lst acc])) :
    lcL (srcRange lo n) t test elt env D m 0 (st ++ [.lst []]) = .ok (.ref D) (st ++ [.lst ((List.range n).filterMap y)]) := by
  subst hm
  have h := lc_rule (src := srcRange lo n) (t := t) (test := test) (elt := elt) (env := env) (st := st) (D := D) (n := n) y (fun acc => by simp [srcRange]) hD hn (fun i acc hi => by
    obtain ⟨env1, h1, h2⟩ := step i acc hi
    exact ⟨_, env1, by simp [srcRange, hi], h1, h2⟩) (n + 1) 0 [] (by omega) (by omega) (by simp)
  rw [h, List.range_eq_range']
  simp
theorem lc_items {xs : List MV} {m D : Nat} {t : Tgt} {test : MT} {elt : ME} {env : BH.Env} {st : Mst} (y : Nat → Option MV) (hn : xs.length < 16777216) (hm : m = xs.length + 1) (hD : D = st.length)
    (step : ∀ i x acc, xs[i]? = some x → ∃ env1, t.put x env = some env1 ∧ match y i with
      | some v => test env1 (st ++ [.lst acc]) = .ok true (st ++ [.lst acc]) ∧ elt env1 (st ++ [.lst acc]) = .ok v (st ++ [.lst acc])
      | none => test env1 (st ++ [.lst acc]) = .ok false (st ++ [.lst acc])) :
    lcL (srcItems xs) t test elt env D m 0 (st ++ [.lst []]) = .ok (.ref D) (st ++ [.lst ((List.range xs.length).filterMap y)]) := by
  subst hm
  have h := lc_rule (src := srcItems xs) (t := t) (test := test) (elt := elt) (env := env) (st := st) (D := D) (n := xs.length) y (fun acc => by simp [srcItems]) hD hn (fun i acc hi => by
    have hx : xs[i]? = some xs[i] := by simp [hi]
    obtain ⟨env1, h1, h2⟩ := step i xs[i] acc hx
    exact ⟨_, env1, by simp [srcItems, hx], h1, h2⟩) (xs.length + 1) 0 [] (by omega) (by omega) (by simp)
  rw [h, List.range_eq_range']
  simp
theorem lc_list {a : Nat} {xs : List MV} {n m D : Nat} {t : Tgt} {test : MT} {elt : ME} {env : BH.Env} {st : Mst} (ha : itemsOf st (.ref a) = some xs) (y : Nat → Option MV) (hl : n = xs.length) (hn : xs.length < 16777216) (hm : m = xs.length + 1) (hD : D = st.length)
    (step : ∀ i x acc, xs[i]? = some x → ∃ env1, t.put x env = some env1 ∧ match y i with
      | some v => test env1 (st ++ [.lst acc]) = .ok true (st ++ [.lst acc]) ∧ elt env1 (st ++ [.lst acc]) = .ok v (st ++ [.lst acc])
      | none => test env1 (st ++ [.lst acc]) = .ok false (st ++ [.lst acc])) :
    lcL (srcList a n) t test elt env D m 0 (st ++ [.lst []]) = .ok (.ref D) (st ++ [.lst ((List.range xs.length).filterMap y)]) := by
  subst hm
  subst hl
  have h := lc_rule (src := srcList a xs.length) (t := t) (test := test) (elt := elt) (env := env) (st := st) (D := D) (n := xs.length) y (fun acc => by simp [srcList, itemsOf_up ha]) hD hn (fun i acc hi => by
    have hx : xs[i]? = some xs[i] := by simp [hi]
    obtain ⟨env1, h1, h2⟩ := step i xs[i] acc hx
    exact ⟨_, env1, by simp only [srcList, itemsOf_up ha, Option.map_some, hx], h1, h2⟩) (xs.length + 1) 0 [] (by omega) (by omega) (by simp)
  rw [h, List.range_eq_range']
  simp
/-! ### two-clause comprehensions over lists, the element makes nothing -/
theorem lcI_rule {src : Src} {t : Tgt} {test : MT} {elt : ME} {env : BH.Env} {st : Mst} {D n b : Nat} (y : Nat → MV)
    (hstop : ∀ acc, src.next n (st ++ [.lst acc]) = some none) (hD : D = st.length)
    (step : ∀ i acc, i < n → ∃ x env1, src.next i (st ++ [.lst acc]) = some (some x) ∧ t.put x env = some env1 ∧ test env1 (st ++ [.lst acc]) = .ok true (st ++ [.lst acc]) ∧ elt env1 (st ++ [.lst acc]) = .ok (y i) (st ++ [.lst acc])) :
    ∀ (m i : Nat) (acc : List MV), i ≤ n → n - i < m → acc.length + (n - i) < 16777216 → lcI src t test elt env D m i (st ++ [.lst acc]) = .ok () (st ++ [.lst (acc ++ (List.range' i (n - i)).map y)])
  | 0, i, acc, _, hm, _ => by omega
  | m + 1, i, acc, hi, hm, ha => by
    by_cases e : i = n
    · subst e
      simp only [lcI, hstop acc]
      simp
    · obtain ⟨x, env1, h1, h2, h3, h4⟩ := step i acc (by omega)
      have hr : List.range' i (n - i) = i :: List.range' (i + 1) (n - (i + 1)) := by
        rw [show n - i = (n - (i + 1)) + 1 by omega, List.range'_succ]
      have hl : lappend D (y i) (st ++ [.lst acc]) = .ok () (st ++ [.lst (acc ++ [y i])]) := by
        subst hD
        have hg : (st ++ [MO.lst acc])[st.length]? = some (.lst acc) := by simp
        simp only [lappend, hg, if_pos (show acc.length < 16777216 by omega)]
        simp
      simp only [lcI, h1, h2, h3, h4, noX_ok, Res.bind_ok, if_true, hl]
      rw [lcI_rule (b := 0) y hstop hD step m (i + 1) (acc ++ [y i]) (by omega) (by omega) (by simp; omega), hr, List.map_cons]
      simp
theorem lc2_rule {src : Src} {t t1 : Tgt} {test test1 : MT} {mi1 : MIter} {vs1 : List Nat} {elt : ME} {env : BH.Env} {st : Mst} {D n : Nat} (z : Nat → List MV)
    (hstop : ∀ acc, src.next n (st ++ [.lst acc]) = some none)
    (step : ∀ i acc, i < n → ∃ x env1 src1, src.next i (st ++ [.lst acc]) = some (some x) ∧ t.put x env = some env1 ∧ test env1 (st ++ [.lst acc]) = .ok true (st ++ [.lst acc]) ∧ mi1 env1 (st ++ [.lst acc]) = .ok src1 (st ++ [.lst acc]) ∧
      (acc.length + (z i).length < 16777216 → lcI src1 t1 test1 elt (mwipe env1 vs1) D (src1.size + 1) 0 (st ++ [.lst acc]) = .ok () (st ++ [.lst (acc ++ z i)]))) :
    ∀ (m i : Nat) (acc : List MV), i ≤ n → n - i < m → (acc ++ (List.range' i (n - i)).flatMap z).length < 16777216 → lcL2 src t test mi1 vs1 t1 test1 elt env D m i (st ++ [.lst acc]) = .ok (.ref D) (st ++ [.lst (acc ++ (List.range' i (n - i)).flatMap z)])
  | 0, i, acc, _, hm, _ => by omega
  | m + 1, i, acc, hi, hm, ha => by
    by_cases e : i = n
    · subst e
      simp only [lcL2, hstop acc]
      simp
    · obtain ⟨x, env1, src1, h1, h2, h3, h4, h5⟩ := step i acc (by omega)
      have hr : List.range' i (n - i) = i :: List.range' (i + 1) (n - (i + 1)) := by
        rw [show n - i = (n - (i + 1)) + 1 by omega, List.range'_succ]
      rw [hr, List.flatMap_cons] at ha ⊢
      rw [← List.append_assoc] at ha ⊢
      have h6 := h5 (by simp at ha; omega)
      simp only [lcL2, h1, h2, h3, h4, h6, noX_ok, Res.bind_ok, if_true]
      exact lc2_rule z hstop step m (i + 1) (acc ++ z i) (by omega) (by omega) ha
theorem flat_ix {α γ : Type} (f : α → List γ) (g : Nat → List γ) : ∀ (xs : List α) (i : Nat), (∀ j x, xs[j]? = some x → g (i + j) = f x) → (List.range' i xs.length).flatMap g = xs.flatMap f
  | [], i, _ => by simp
  | x :: xs, i, h => by
    rw [List.length_cons, List.range'_succ, List.flatMap_cons, List.flatMap_cons, flat_ix f g xs (i + 1) (fun j y e => by rw [Nat.add_assoc, Nat.add_comm 1 j]; exact h (j + 1) y e)]
    rw [show g i = f x from h 0 x rfl]
theorem map_ix {α γ : Type} (f : α → γ) (g : Nat → γ) : ∀ (xs : List α) (i : Nat), (∀ j x, xs[j]? = some x → g (i + j) = f x) → (List.range' i xs.length).map g = xs.map f
  | [], i, _ => by simp
  | x :: xs, i, h => by
    rw [List.length_cons, List.range'_succ, List.map_cons, List.map_cons, map_ix f g xs (i + 1) (fun j y e => by rw [Nat.add_assoc, Nat.add_comm 1 j]; exact h (j + 1) y e)]
    rw [show g i = f x from h 0 x rfl]
@[simp] theorem mLc2_ap (mi : MIter) (vs : List Nat) (t : Tgt) (test : MT) (mi1 : MIter) (vs1 : List Nat) (t1 : Tgt) (test1 : MT) (elt : ME) (env : BH.Env) (st : Mst) : mLc2 mi vs t test mi1 vs1 t1 test1 elt env st = (mi env st).bind fun src s1 => lcL2 src t test mi1 vs1 t1 test1 elt (mwipe env vs) s1.length (src.size + 1) 0 (s1 ++ [.lst []]) := (rfl)
/-- over two lists -/
theorem lc2_lists {F O m D nf : Nat} {fs os : List MV} {t t1 : Tgt} {mi1 : MIter} {vs1 : List Nat} {elt : ME} {env : BH.Env} {st : Mst} (z : MV → MV → MV) (hF : st[F]? = some (.lst fs)) (hO : st[O]? = some (.lst os)) (hnf : nf = fs.length) (hm : m = fs.length + 1) (hD : D = st.length)
    (hlen : (fs.flatMap fun f => os.map fun o => z f o).length < 16777216)
    (step : ∀ f acc, f ∈ fs → ∃ env1, t.put f env = some env1 ∧ mi1 env1 (st ++ [.lst acc]) = .ok (srcList O os.length) (st ++ [.lst acc]) ∧ ∀ o acc, o ∈ os → ∃ env2, t1.put o (mwipe env1 vs1) = some env2 ∧ elt env2 (st ++ [.lst acc]) = .ok (z f o) (st ++ [.lst acc])) :
    lcL2 (srcList F nf) t mYes mi1 vs1 t1 mYes elt env D m 0 (st ++ [.lst []]) = .ok (.ref D) (st ++ [.lst (fs.flatMap fun f => os.map fun o => z f o)]) := by
  subst hm
  subst hnf
  have e0 := flat_ix (fun f => os.map fun o => z f o) (fun i => os.map fun o => z (fs[i]?.getD .non) o) fs 0 (fun j x h => by simp [h])
  have h := lc2_rule (src := srcList F fs.length) (t := t) (t1 := t1) (test := mYes) (test1 := mYes) (mi1 := mi1) (vs1 := vs1) (elt := elt) (env := env) (st := st) (D := D) (n := fs.length) (fun i => os.map fun o => z (fs[i]?.getD .non) o)
    (fun acc => by simp [srcList, itemsOf_up (itemsOf_lst hF)]) (fun i acc hi => by
    have hx : fs[i]? = some fs[i] := by simp [hi]
    obtain ⟨env1, h1, h2, h3⟩ := step fs[i] acc (by simp)
    refine ⟨fs[i], env1, srcList O os.length, by simp only [srcList, itemsOf_up (itemsOf_lst hF), Option.map_some, hx], h1, rfl, h2, fun hl => ?_⟩
    have h4 := lcI_rule (src := srcList O os.length) (t := t1) (test := mYes) (elt := elt) (env := mwipe env1 vs1) (st := st) (D := D) (n := os.length) (b := 0) (fun j => z fs[i] (os[j]?.getD .non))
      (fun acc => by simp [srcList, itemsOf_up (itemsOf_lst hO)]) hD (fun j acc hj => by
      have hy : os[j]? = some os[j] := by simp [hj]
      obtain ⟨env2, g1, g2⟩ := h3 os[j] acc (by simp)
      refine ⟨os[j], env2, by simp only [srcList, itemsOf_up (itemsOf_lst hO), Option.map_some, hy], g1, rfl, ?_⟩
      rw [hy]
      exact g2) (os.length + 1) 0 acc (by omega) (by omega) (by simp at hl; omega)
    rw [Nat.sub_zero, map_ix (fun o => z fs[i] o) _ os 0 (fun j x hx => by simp [hx])] at h4
    rw [hx]
    exact h4) (fs.length + 1) 0 [] (by omega) (by omega) (by simpa [e0] using hlen)
  rw [h, Nat.sub_zero, e0]
  rfl
end BH

set_option linter.all false
set_option maxRecDepth 100000
set_option autoImplicit false
namespace K02
open PySem BH
def c_KEPT : MV := (.tup [(.str "cell"), (.str "note")])
def c_LETTERS : MV := (.str "abcdefghijklmnopqrstuvwxyz")
def c_MOST_LAYERS : MV := (.int 5)
def c_MOST_STARTS : MV := (.int 12)
def c_VARIED : MV := (.tup [(.str "cell"), (.str "setting")])
def k_CHOICES : List Str := [("none" : Str), ("choose" : Str), ("draw" : Str), ("spread" : Str), ("twochoose" : Str), ("twodraw" : Str), ("mixed" : Str)]
/-- is_name: 0 token, 1 sign -/
def b_is_name : MS :=
  (sSeq (sFor (iOf (mVar 0)) (gtName 1) (sIf (mTest (mBin (gIn true) (mVar 1) (mC c_LETTERS))) (sRet (mC (.bl false))) sNext))
    (sRet (mChain gLe gLe (mC (.int 1)) (mCallB gLen (mCons (mVar 0) mNil)) (mC (.int 6)))))
def m_is_name : List MV → M MV := fnM 2 1 b_is_name
/-- is_monoid: 0 table, 1 size, 2 row, 3 a, 4 b, 5 c, 6 member -/
def b_is_monoid : MS :=
  (sSeq (sAsg (mCallB gLen (mCons (mVar 0) mNil)) (gtName 1))
    (sSeq (sIf (mNot (mTest (mChain gLe gLe (mC (.int 2)) (mVar 1) (mC (.int 6))))) (sRet (mC (.bl false))) sNext)
    (sSeq (sFor (iOf (mVar 0)) (gtName 2) (sIf (mOr (mTest (mBin gNe (mCallB gLen (mCons (mVar 2) mNil)) (mVar 1))) (mNot (mTru (mCallB gAll (mCons (mLc (iOf (mVar 2)) [6] (.nm 6) mYes (mChain gLe gLt (mC (.int 0)) (mVar 6) (mVar 1))) mNil))))) (sRet (mC (.bl false))) sNext))
    (sSeq (sFor (iRange1 (mCons (mVar 1) mNil)) (gtName 3) (sSeq (sIf (mOr (mTest (mBin gNe (mBin gIx (mBin gIx (mVar 0) (mC (.int 0))) (mVar 3)) (mVar 3))) (mTest (mBin gNe (mBin gIx (mBin gIx (mVar 0) (mVar 3)) (mC (.int 0))) (mVar 3)))) (sRet (mC (.bl false))) sNext)
    (sFor (iRange1 (mCons (mVar 1) mNil)) (gtName 4) (sFor (iRange1 (mCons (mVar 1) mNil)) (gtName 5) (sIf (mTest (mBin gNe (mBin gIx (mBin gIx (mVar 0) (mBin gIx (mBin gIx (mVar 0) (mVar 3)) (mVar 4))) (mVar 5)) (mBin gIx (mBin gIx (mVar 0) (mVar 3)) (mBin gIx (mBin gIx (mVar 0) (mVar 4)) (mVar 5))))) (sRet (mC (.bl false))) sNext)))))
    (sRet (mC (.bl true)))))))
def m_is_monoid : List MV → M MV := fnM 7 1 b_is_monoid
/-- is_layer: 0 layer, 1 ways -/
def b_is_layer : MS :=
  (sSeq (sIf (mNot (mTru (mCallF m_is_name (mCons (mBin gIx (mVar 0) (mC (.int 1))) mNil) []))) (sRet (mC (.bl false))) sNext)
    (sSeq (sIf (mTest (mBin (gIn false) (mBin gIx (mVar 0) (mC (.int 0))) (mC c_VARIED))) (sRet (mChain gLe gLe (mC (.int 2)) (mBin gIx (mVar 0) (mC (.int 2))) (mC (.int 3)))) sNext)
    (sSeq (sIf (mTest (mBin gEq (mBin gIx (mVar 0) (mC (.int 0))) (mC (.str "fail")))) (sRet (mChain gLe gLe (mC (.int 1)) (mBin gIx (mVar 0) (mC (.int 2))) (mC (.int 3)))) sNext)
    (sSeq (sIf (mTest (mBin gEq (mBin gIx (mVar 0) (mC (.int 0))) (mC (.str "note")))) (sRet (mCallF m_is_monoid (mCons (mBin gIx (mVar 0) (mC (.int 2))) mNil) [])) sNext)
    (sSeq (sIf (mTest (mBin gEq (mBin gIx (mVar 0) (mC (.int 0))) (mC (.str "outside")))) (sRet (mAndV (mChain gLe gLe (mC (.int 1)) (mCallB gLen (mCons (mBin gIx (mVar 0) (mC (.int 2))) mNil)) (mC (.int 2))) (mCallB gAll (mCons (mLc (iOf (mBin gIx (mVar 0) (mC (.int 2)))) [1] (.nm 1) mYes (mChain gLe gLe (mC (.int 1)) (mVar 1) (mC (.int 3)))) mNil)))) sNext)
    (sRet (mC (.bl false))))))))
def m_is_layer : List MV → M MV := fnM 2 1 b_is_layer
/-- Book.word_at: 0 self, 1 layer -/
def b_Book_word_at : MS :=
  (sRet (mBin gIx (mBin gIx (mFld [0] "layers" (mVar 0)) (mBin gSub (mVar 1) (mC (.int 1)))) (mC (.int 0))))
def m_Book_word_at : List MV → M MV := fnM 2 2 b_Book_word_at
/-- Book.count_at: 0 self, 1 layer, 2 found -/
def b_Book_count_at : MS :=
  (sSeq (sAsg (mBin gIx (mFld [0] "layers" (mVar 0)) (mBin gSub (mVar 1) (mC (.int 1)))) (gtName 2))
    (sSeq (sIf (mTest (mBin (gIn false) (mBin gIx (mVar 2) (mC (.int 0))) (mTup (mCons (mC (.str "note")) (mCons (mC (.str "outside")) mNil))))) (sRet (mCallB gLen (mCons (mBin gIx (mVar 2) (mC (.int 2))) mNil))) sNext)
    (sRet (mBin gIx (mVar 2) (mC (.int 2))))))
def m_Book_count_at : List MV → M MV := fnM 3 2 b_Book_count_at
/-- starts_below: 0 book, 1 layer, 2 state, 3 found, 4 at, 5 options, 6 first, 7 entry -/
def b_starts_below : MS :=
  (sSeq (sAsg (mLst (mCons (mTup mNil) mNil)) (gtName 3))
    (sSeq (sFor (iRange1 (mCons (mFld [0] "size" (mVar 0)) mNil)) (gtName 4) (sSeq (sIf (mTest (mBin gGe (mBin gAdd (mVar 4) (mC (.int 1))) (mVar 1))) (sAsg (mLst (mCons (mBin gIx (mVar 2) (mVar 4)) mNil)) (gtName 5)) (sIf (mTest (mBin (gIn false) (mMeth 0 "word_at" m_Book_word_at (mVar 0) (mCons (mBin gAdd (mVar 4) (mC (.int 1))) mNil) []) (mC c_VARIED))) (sAsg (mUn gListRg1 (mMeth 0 "count_at" m_Book_count_at (mVar 0) (mCons (mBin gAdd (mVar 4) (mC (.int 1))) mNil) [])) (gtName 5)) (sAsg (mLst (mCons (mC (.int 0)) mNil)) (gtName 5))))
    (sAsg (mLc2 (iOf (mVar 3)) [6, 7] (.nm 6) mYes (iOf (mVar 5)) [7] (.nm 7) mYes (mBin gAdd (mVar 6) (mTup (mCons (mVar 7) mNil)))) (gtName 3))))
    (sRet (mVar 3))))
def m_starts_below : List MV → M MV := fnM 8 3 b_starts_below
/-- starts: 0 book -/
def b_starts : MS :=
  (sRet (mCallF m_starts_below (mCons (mVar 0) (mCons (mBin gAdd (mFld [0] "size" (mVar 0)) (mC (.int 1))) (mCons (mBin gMul (mTup (mCons (mC (.int 0)) mNil)) (mFld [0] "size" (mVar 0))) mNil))) []))
def m_starts : List MV → M MV := fnM 1 1 b_starts
/-- place_below: 0 book, 1 layer, 2 state, 3 place, 4 at -/
def b_place_below : MS :=
  (sSeq (sAsg (mC (.int 0)) (gtName 3))
    (sSeq (sFor (iRange1 (mCons (mBin gSub (mVar 1) (mC (.int 1))) mNil)) (gtName 4) (sIf (mTest (mBin (gIn false) (mMeth 0 "word_at" m_Book_word_at (mVar 0) (mCons (mBin gAdd (mVar 4) (mC (.int 1))) mNil) []) (mC c_VARIED))) (sAsg (mBin gAdd (mBin gMul (mVar 3) (mMeth 0 "count_at" m_Book_count_at (mVar 0) (mCons (mBin gAdd (mVar 4) (mC (.int 1))) mNil) [])) (mBin gIx (mVar 2) (mVar 4))) (gtName 3)) sNext))
    (sRet (mVar 3))))
def m_place_below : List MV → M MV := fnM 5 3 b_place_below
/-- kept: 0 book, 1 state, 2 layer, 3 found, 4 at -/
def b_kept : MS :=
  (sSeq (sAsg (mLst mNil) (gtName 3))
    (sSeq (sFor (iRange1 (mCons (mBin gSub (mVar 2) (mC (.int 1))) mNil)) (gtName 4) (sExpr (mBM "list" gAppend (mVar 3) (mCons (mIf (mTest (mBin gEq (mMeth 0 "word_at" m_Book_word_at (mVar 0) (mCons (mBin gAdd (mVar 4) (mC (.int 1))) mNil) []) (mC (.str "setting")))) (mC (.int 0)) (mBin gIx (mVar 1) (mVar 4))) mNil))))
    (sRet (mCallB gTuple (mCons (mVar 3) mNil)))))
def m_kept : List MV → M MV := fnM 5 3 b_kept
/-- changed: 0 state, 1 layer, 2 entry -/
def b_changed : MS :=
  (sRet (mBin gAdd (mBin gAdd (mSl (mVar 0) mNoPart (mPart (mBin gSub (mVar 1) (mC (.int 1))))) (mTup (mCons (mVar 2) mNil))) (mSl (mVar 0) (mPart (mVar 1)) mNoPart)))
def m_changed : List MV → M MV := fnM 3 3 b_changed
/-- Book.product: 0 self, 1 layer, 2 first, 3 second -/
def b_Book_product : MS :=
  (sRet (mBin gIx (mBin gIx (mBin gIx (mBin gIx (mFld [0] "layers" (mVar 0)) (mBin gSub (mVar 1) (mC (.int 1)))) (mC (.int 2))) (mVar 2)) (mVar 3)))
def m_Book_product : List MV → M MV := fnM 4 4 b_Book_product
/-- noted: 0 book, 1 state, 2 layer, 3 member -/
def b_noted : MS :=
  (sRet (mCallF m_changed (mCons (mVar 1) (mCons (mVar 2) (mCons (mMeth 0 "product" m_Book_product (mVar 0) (mCons (mVar 2) (mCons (mBin gIx (mVar 1) (mBin gSub (mVar 2) (mC (.int 1)))) (mCons (mVar 3) mNil))) []) mNil))) []))
def m_noted : List MV → M MV := fnM 4 4 b_noted
/-- _law_row: 0 script, 1 k, 2 count, 3 cell, 4 row, 5 at, 6 seed -/
def b_law_row : MS :=
  (sSeq (sAsg (mC (.int 0)) (gtName 3))
    (sSeq (sIf (mTest (mBin gLt (mVar 1) (mCallB gLen (mCons (mVar 0) mNil)))) (sAsg (mCallB gInt (mCons (mBin gIx (mVar 0) (mVar 1)) mNil)) (gtName 3)) sNext)
    (sSeq (sAsg (mLst mNil) (gtName 4))
    (sSeq (sIf (mTest (mBin gGe (mVar 3) (mBin gPow (mC (.int 10)) (mC (.int 18))))) (sSeq (sFor (iRange1 (mCons (mVar 2) mNil)) (gtName 5) (sSeq (sExpr (mBM "list" gAppend (mVar 4) (mCons (mBin gMod (mCallB gInt (mCons (mVar 3) mNil)) (mC (.int 1000))) mNil)))
    (sAsg (mBin gDiv (mVar 3) (mC (.int 1000))) (gtName 3))))
    (sRet (mVar 4))) sNext)
    (sSeq (sAsg (mBin gMod (mCallB gInt (mCons (mBin gAdd (mBin gAdd (mBin gMul (mVar 3) (mC (.int 48271))) (mBin gMul (mVar 1) (mC (.int 69621)))) (mC (.int 11))) mNil)) (mC (.int 2147483647))) (gtName 6))
    (sSeq (sFor (iRange1 (mCons (mVar 2) mNil)) (gtName 5) (sSeq (sAsg (mBin gMod (mCallB gInt (mCons (mBin gAdd (mBin gAdd (mBin gMul (mVar 6) (mC (.int 16807))) (mBin gMul (mVar 5) (mC (.int 7919)))) (mC (.int 101))) mNil)) (mC (.int 2147483647))) (gtName 6))
    (sExpr (mBM "list" gAppend (mVar 4) (mCons (mBin gMod (mBin gDiv (mVar 6) (mC (.int 65536))) (mC (.int 1000))) mNil)))))
    (sRet (mVar 4))))))))
def m_law_row : List MV → M MV := fnM 7 3 b_law_row
/-- _law_book: 0 k, 1 three, 2 two, 3 first, 4 second, 5 third, 6 fourth, 7 fifth -/
def b_law_book : MS :=
  (sSeq (sAsg (mTup (mCons (mC (.str "note")) (mCons (mC (.str "n")) (mCons (mTup (mCons (mTup (mCons (mC (.int 0)) (mCons (mC (.int 1)) (mCons (mC (.int 2)) mNil)))) (mCons (mTup (mCons (mC (.int 1)) (mCons (mC (.int 1)) (mCons (mC (.int 1)) mNil)))) (mCons (mTup (mCons (mC (.int 2)) (mCons (mC (.int 2)) (mCons (mC (.int 2)) mNil)))) mNil)))) mNil)))) (gtName 1))
    (sSeq (sAsg (mTup (mCons (mC (.str "note")) (mCons (mC (.str "m")) (mCons (mTup (mCons (mTup (mCons (mC (.int 0)) (mCons (mC (.int 1)) mNil))) (mCons (mTup (mCons (mC (.int 1)) (mCons (mC (.int 0)) mNil))) mNil))) mNil)))) (gtName 2))
    (sSeq (sAsg (mTup (mCons (mC (.str "mixed")) (mCons (mTup (mCons (mTup (mCons (mC (.str "cell")) (mCons (mC (.str "c")) (mCons (mC (.int 2)) mNil)))) (mCons (mVar 1) (mCons (mTup (mCons (mC (.str "outside")) (mCons (mC (.str "o")) (mCons (mTup (mCons (mC (.int 2)) (mCons (mC (.int 3)) mNil))) mNil)))) (mCons (mTup (mCons (mC (.str "setting")) (mCons (mC (.str "s")) (mCons (mC (.int 3)) mNil)))) (mCons (mTup (mCons (mC (.str "fail")) (mCons (mC (.str "f")) (mCons (mC (.int 2)) mNil)))) mNil)))))) mNil))) (gtName 3))
    (sSeq (sAsg (mTup (mCons (mC (.str "twochoose")) (mCons (mTup (mCons (mTup (mCons (mC (.str "setting")) (mCons (mC (.str "s")) (mCons (mC (.int 2)) mNil)))) (mCons (mTup (mCons (mC (.str "cell")) (mCons (mC (.str "c")) (mCons (mC (.int 3)) mNil)))) (mCons (mTup (mCons (mC (.str "fail")) (mCons (mC (.str "f")) (mCons (mC (.int 3)) mNil)))) (mCons (mTup (mCons (mC (.str "outside")) (mCons (mC (.str "o")) (mCons (mTup (mCons (mC (.int 3)) mNil)) mNil)))) (mCons (mVar 2) mNil)))))) mNil))) (gtName 4))
    (sSeq (sAsg (mTup (mCons (mC (.str "spread")) (mCons (mTup (mCons (mVar 2) (mCons (mTup (mCons (mC (.str "outside")) (mCons (mC (.str "a")) (mCons (mTup (mCons (mC (.int 1)) (mCons (mC (.int 2)) mNil))) mNil)))) (mCons (mTup (mCons (mC (.str "cell")) (mCons (mC (.str "c")) (mCons (mC (.int 3)) mNil)))) (mCons (mVar 1) (mCons (mTup (mCons (mC (.str "outside")) (mCons (mC (.str "b")) (mCons (mTup (mCons (mC (.int 2)) mNil)) mNil)))) mNil)))))) mNil))) (gtName 5))
    (sSeq (sAsg (mTup (mCons (mC (.str "twodraw")) (mCons (mTup (mCons (mTup (mCons (mC (.str "fail")) (mCons (mC (.str "f")) (mCons (mC (.int 1)) mNil)))) (mCons (mTup (mCons (mC (.str "cell")) (mCons (mC (.str "c")) (mCons (mC (.int 2)) mNil)))) (mCons (mTup (mCons (mC (.str "cell")) (mCons (mC (.str "d")) (mCons (mC (.int 3)) mNil)))) (mCons (mTup (mCons (mC (.str "outside")) (mCons (mC (.str "o")) (mCons (mTup (mCons (mC (.int 3)) (mCons (mC (.int 2)) mNil))) mNil)))) (mCons (mVar 1) mNil)))))) mNil))) (gtName 6))
    (sSeq (sAsg (mTup (mCons (mC (.str "spread")) (mCons (mTup (mCons (mTup (mCons (mC (.str "cell")) (mCons (mC (.str "c")) (mCons (mC (.int 2)) mNil)))) (mCons (mTup (mCons (mC (.str "setting")) (mCons (mC (.str "s")) (mCons (mC (.int 3)) mNil)))) (mCons (mTup (mCons (mC (.str "outside")) (mCons (mC (.str "o")) (mCons (mTup (mCons (mC (.int 2)) (mCons (mC (.int 2)) mNil))) mNil)))) (mCons (mVar 2) (mCons (mTup (mCons (mC (.str "cell")) (mCons (mC (.str "d")) (mCons (mC (.int 2)) mNil)))) mNil)))))) mNil))) (gtName 7))
    (sRet (mBin gIx (mLst (mCons (mVar 3) (mCons (mVar 4) (mCons (mVar 5) (mCons (mVar 6) (mCons (mVar 7) (mCons (mTup (mCons (mC (.str "mixed")) (mCons (mTup mNil) mNil))) (mCons (mTup (mCons (mC (.str "choose")) (mCons (mTup (mCons (mTup (mCons (mC (.str "setting")) (mCons (mC (.str "s")) (mCons (mC (.int 3)) mNil)))) mNil)) mNil))) mNil)))))))) (mBin gMod (mCallB gInt (mCons (mVar 0) mNil)) (mC (.int 7))))))))))))
def m_law_book : List MV → M MV := fnM 8 1 b_law_book
/-- _law_deeds: 0 kernel, 1 layers, 2 deeds, 3 at, 4 layer, 5 i, 6 m, 7 d -/
def b_law_deeds : MS :=
  (sSeq (sAsg (mLst mNil) (gtName 2))
    (sSeq (sIf (mTest (mBin (gIn false) (mVar 0) (mTup (mCons (mC (.str "mixed")) (mCons (mC (.str "spread")) (mCons (mC (.str "choose")) (mCons (mC (.str "twochoose")) mNil))))))) (sExpr (mBM "list" gAppend (mVar 2) (mCons (mTup (mCons (mC (.str "choose")) (mCons (mC (.int 0)) mNil))) mNil))) sNext)
    (sSeq (sIf (mTest (mBin gEq (mVar 0) (mC (.str "twochoose")))) (sExpr (mBM "list" gAppend (mVar 2) (mCons (mTup (mCons (mC (.str "choose")) (mCons (mC (.int 1)) mNil))) mNil))) sNext)
    (sSeq (sIf (mTest (mBin (gIn false) (mVar 0) (mTup (mCons (mC (.str "mixed")) (mCons (mC (.str "spread")) (mCons (mC (.str "twodraw")) mNil)))))) (sAsg (mBin gAdd (mVar 2) (mLst (mCons (mTup (mCons (mC (.str "draw")) (mCons (mC (.int 0)) (mCons (mC (.int 1)) (mCons (mC (.int 2)) mNil))))) (mCons (mTup (mCons (mC (.str "draw")) (mCons (mC (.int 0)) (mCons (mC (.int 2)) (mCons (mC (.int 5)) mNil))))) (mCons (mTup (mCons (mC (.str "draw")) (mCons (mC (.int 0)) (mCons (mC (.int 5)) (mCons (mC (.int 6)) mNil))))) mNil))))) (gtName 2)) sNext)
    (sSeq (sIf (mTest (mBin gEq (mVar 0) (mC (.str "twodraw")))) (sExpr (mBM "list" gAppend (mVar 2) (mCons (mTup (mCons (mC (.str "draw")) (mCons (mC (.int 1)) (mCons (mC (.int 1)) (mCons (mC (.int 3)) mNil))))) mNil))) sNext)
    (sSeq (sFor (iRange1 (mCons (mCallB gLen (mCons (mVar 1) mNil)) mNil)) (gtName 3) (sSeq (sAsg (mBin gIx (mVar 1) (mVar 3)) (gtName 4))
    (sSeq (sIf (mTest (mBin gEq (mBin gIx (mVar 4) (mC (.int 0))) (mC (.str "cell")))) (sAsg (mBin gAdd (mBin gAdd (mVar 2) (mLst (mCons (mTup (mCons (mC (.str "get")) (mCons (mBin gAdd (mVar 3) (mC (.int 1))) mNil))) mNil))) (mLc (iRange1 (mCons (mBin gIx (mVar 4) (mC (.int 2))) mNil)) [5] (.nm 5) mYes (mTup (mCons (mC (.str "put")) (mCons (mBin gAdd (mVar 3) (mC (.int 1))) (mCons (mVar 5) mNil)))))) (gtName 2)) sNext)
    (sSeq (sIf (mTest (mBin gEq (mBin gIx (mVar 4) (mC (.int 0))) (mC (.str "setting")))) (sExpr (mBM "list" gAppend (mVar 2) (mCons (mTup (mCons (mC (.str "look")) (mCons (mBin gAdd (mVar 3) (mC (.int 1))) mNil))) mNil))) sNext)
    (sSeq (sIf (mTest (mBin gEq (mBin gIx (mVar 4) (mC (.int 0))) (mC (.str "note")))) (sAsg (mBin gAdd (mVar 2) (mLc (iRange1 (mCons (mCallB gLen (mCons (mBin gIx (mVar 4) (mC (.int 2))) mNil)) mNil)) [6] (.nm 6) mYes (mTup (mCons (mC (.str "note")) (mCons (mBin gAdd (mVar 3) (mC (.int 1))) (mCons (mVar 6) mNil)))))) (gtName 2)) sNext)
    (sIf (mTest (mBin gEq (mBin gIx (mVar 4) (mC (.int 0))) (mC (.str "outside")))) (sAsg (mBin gAdd (mVar 2) (mLc (iRange1 (mCons (mCallB gLen (mCons (mBin gIx (mVar 4) (mC (.int 2))) mNil)) mNil)) [7] (.nm 7) mYes (mTup (mCons (mC (.str "ask")) (mCons (mBin gAdd (mVar 3) (mC (.int 1))) (mCons (mVar 7) mNil)))))) (gtName 2)) sNext))))))
    (sRet (mVar 2))))))))
def m_law_deeds : List MV → M MV := fnM 8 2 b_law_deeds
/-- _law_starts: 0 layers, 1 layer, 2 state, 3 found, 4 at, 5 options, 6 longer, 7 first, 8 entry -/
def b_law_starts : MS :=
  (sSeq (sAsg (mLst (mCons (mTup mNil) mNil)) (gtName 3))
    (sSeq (sFor (iRange1 (mCons (mCallB gLen (mCons (mVar 0) mNil)) mNil)) (gtName 4) (sSeq (sAsg (mLst (mCons (mC (.int 0)) mNil)) (gtName 5))
    (sSeq (sIf (mTest (mBin gGe (mBin gAdd (mVar 4) (mC (.int 1))) (mVar 1))) (sAsg (mLst (mCons (mBin gIx (mVar 2) (mVar 4)) mNil)) (gtName 5)) (sIf (mOr (mTest (mBin gEq (mBin gIx (mBin gIx (mVar 0) (mVar 4)) (mC (.int 0))) (mC (.str "cell")))) (mTest (mBin gEq (mBin gIx (mBin gIx (mVar 0) (mVar 4)) (mC (.int 0))) (mC (.str "setting"))))) (sAsg (mUn gListRg1 (mBin gIx (mBin gIx (mVar 0) (mVar 4)) (mC (.int 2)))) (gtName 5)) sNext))
    (sSeq (sAsg (mLst mNil) (gtName 6))
    (sSeq (sFor (iOf (mVar 3)) (gtName 7) (sFor (iOf (mVar 5)) (gtName 8) (sExpr (mBM "list" gAppend (mVar 6) (mCons (mBin gAdd (mVar 7) (mTup (mCons (mVar 8) mNil))) mNil)))))
    (sAsg (mCallB gList (mCons (mVar 6) mNil)) (gtName 3)))))))
    (sRet (mVar 3))))
def m_law_starts : List MV → M MV := fnM 9 3 b_law_starts
/-- _law_kept: 0 layers, 1 state, 2 layer, 3 found, 4 at -/
def b_law_kept : MS :=
  (sSeq (sAsg (mLst mNil) (gtName 3))
    (sSeq (sFor (iRange1 (mCons (mBin gSub (mVar 2) (mC (.int 1))) mNil)) (gtName 4) (sIf (mTest (mBin gEq (mBin gIx (mBin gIx (mVar 0) (mVar 4)) (mC (.int 0))) (mC (.str "setting")))) (sExpr (mBM "list" gAppend (mVar 3) (mCons (mC (.int 0)) mNil))) (sExpr (mBM "list" gAppend (mVar 3) (mCons (mBin gIx (mVar 1) (mVar 4)) mNil)))))
    (sRet (mCallB gTuple (mCons (mVar 3) mNil)))))
def m_law_kept : List MV → M MV := fnM 5 3 b_law_kept
/-- _law_asked: 0 layers, 1 state, 2 deed, 3 number, 4 trail, 5 before, 6 many, 7 rest, 8 after, 9 at -/
def b_law_asked : MS :=
  (sSeq (sAsg (mCallF m_law_kept (mCons (mVar 0) (mCons (mVar 1) (mCons (mBin gIx (mVar 2) (mC (.int 1))) mNil))) []) (gtName 5))
    (sSeq (sAsg (mBin gIx (mBin gIx (mBin gIx (mVar 0) (mBin gSub (mBin gIx (mVar 2) (mC (.int 1))) (mC (.int 1)))) (mC (.int 2))) (mBin gIx (mVar 2) (mC (.int 2)))) (gtName 6))
    (sSeq (sAsg (mBin gDiv (mVar 3) (mVar 6)) (gtName 7))
    (sSeq (sAsg (mCallB gList (mCons (mVar 1) mNil)) (gtName 8))
    (sSeq (sFor (iRange1 (mCons (mBin gSub (mBin gIx (mVar 2) (mC (.int 1))) (mC (.int 1))) mNil)) (gtName 9) (sSeq (sAsg (mC (.int 0)) (gtSub (mVar 8) (mVar 9)))
    (sIf (mOr (mTest (mBin gEq (mBin gIx (mBin gIx (mVar 0) (mVar 9)) (mC (.int 0))) (mC (.str "cell")))) (mTest (mBin gEq (mBin gIx (mBin gIx (mVar 0) (mVar 9)) (mC (.int 0))) (mC (.str "setting"))))) (sSeq (sAsg (mBin gMod (mCallB gInt (mCons (mVar 7) mNil)) (mBin gIx (mBin gIx (mVar 0) (mVar 9)) (mC (.int 2)))) (gtSub (mVar 8) (mVar 9)))
    (sAsg (mBin gDiv (mVar 7) (mBin gIx (mBin gIx (mVar 0) (mVar 9)) (mC (.int 2)))) (gtName 7))) sNext)))
    (sSeq (sExpr (mBM "list" gAppend (mVar 4) (mCons (mTup (mCons (mBin gIx (mVar 2) (mC (.int 1))) (mCons (mBin gIx (mVar 2) (mC (.int 2))) (mCons (mVar 5) (mCons (mBin gMod (mCallB gInt (mCons (mVar 3) mNil)) (mVar 6)) (mCons (mCallB gTuple (mCons (mSl (mVar 8) mNoPart (mPart (mBin gSub (mBin gIx (mVar 2) (mC (.int 1))) (mC (.int 1))))) mNil)) mNil)))))) mNil)))
    (sRet (mTup (mCons (mBin gMod (mCallB gInt (mCons (mVar 3) mNil)) (mVar 6)) (mCons (mVar 8) mNil))))))))))
def m_law_asked : List MV → M MV := fnM 10 5 b_law_asked
/-- _law_step: 0 layers, 1 state, 2 deed, 3 number, 4 trail, 5 after, 6 at -/
def b_law_step : MS :=
  (sSeq (sIf (mTest (mBin gEq (mBin gIx (mVar 2) (mC (.int 0))) (mC (.str "choose")))) (sRet (mTup (mCons (mBin gMod (mCallB gInt (mCons (mVar 3) mNil)) (mC (.int 2))) (mCons (mCallB gList (mCons (mVar 1) mNil)) mNil)))) sNext)
    (sSeq (sIf (mTest (mBin gEq (mBin gIx (mVar 2) (mC (.int 0))) (mC (.str "draw")))) (sRet (mTup (mCons (mCallB gInt (mCons (mBin gGe (mBin gMod (mCallB gInt (mCons (mVar 3) mNil)) (mBin gIx (mVar 2) (mC (.int 3)))) (mBin gIx (mVar 2) (mC (.int 2)))) mNil)) (mCons (mCallB gList (mCons (mVar 1) mNil)) mNil)))) sNext)
    (sSeq (sIf (mTest (mBin gEq (mBin gIx (mVar 2) (mC (.int 0))) (mC (.str "ask")))) (sRet (mCallF m_law_asked (mCons (mVar 0) (mCons (mVar 1) (mCons (mVar 2) (mCons (mVar 3) (mCons (mVar 4) mNil))))) [])) sNext)
    (sSeq (sAsg (mCallB gList (mCons (mVar 1) mNil)) (gtName 5))
    (sSeq (sAsg (mBin gSub (mBin gIx (mVar 2) (mC (.int 1))) (mC (.int 1))) (gtName 6))
    (sSeq (sIf (mOr (mTest (mBin gEq (mBin gIx (mVar 2) (mC (.int 0))) (mC (.str "get")))) (mTest (mBin gEq (mBin gIx (mVar 2) (mC (.int 0))) (mC (.str "look"))))) (sRet (mTup (mCons (mBin gIx (mVar 1) (mVar 6)) (mCons (mVar 5) mNil)))) sNext)
    (sSeq (sIf (mTest (mBin gEq (mBin gIx (mVar 2) (mC (.int 0))) (mC (.str "put")))) (sAsg (mBin gIx (mVar 2) (mC (.int 2))) (gtSub (mVar 5) (mVar 6))) (sAsg (mBin gIx (mBin gIx (mBin gIx (mBin gIx (mVar 0) (mVar 6)) (mC (.int 2))) (mBin gIx (mVar 1) (mVar 6))) (mBin gIx (mVar 2) (mC (.int 2)))) (gtSub (mVar 5) (mVar 6))))
    (sRet (mTup (mCons (mC (.int 0)) (mCons (mVar 5) mNil)))))))))))
def m_law_step : List MV → M MV := fnM 7 5 b_law_step
/-- _law_back: 0 layers, 1 state, 2 layer, 3 old, 4 after, 5 at -/
def b_law_back : MS :=
  (sSeq (sAsg (mCallB gList (mCons (mVar 1) mNil)) (gtName 4))
    (sSeq (sFor (iRange2 (mCons (mVar 2) (mCons (mCallB gLen (mCons (mVar 0) mNil)) mNil))) (gtName 5) (sIf (mOr (mTest (mBin gEq (mBin gIx (mBin gIx (mVar 0) (mVar 5)) (mC (.int 0))) (mC (.str "cell")))) (mTest (mBin gEq (mBin gIx (mBin gIx (mVar 0) (mVar 5)) (mC (.int 0))) (mC (.str "note"))))) (sAsg (mBin gIx (mVar 3) (mVar 5)) (gtSub (mVar 4) (mVar 5))) sNext))
    (sRet (mVar 4))))
def m_law_back : List MV → M MV := fnM 6 4 b_law_back
/-- _law_states: 0 book, 1 layers, 2 row, 3 zero, 4 due, 5 told, 6 state, 7 at, 8 layer, 9 beneath, 10 marked, 11 many, 12 entry, 13 member, 14 k -/
def b_law_states : MS :=
  (sSeq (sAsg (mBin gMul (mTup (mCons (mC (.int 0)) mNil)) (mCallB gLen (mCons (mVar 1) mNil))) (gtName 3))
    (sSeq (sAsg (mCallF m_law_starts (mCons (mVar 1) (mCons (mBin gAdd (mCallB gLen (mCons (mVar 1) mNil)) (mC (.int 1))) (mCons (mVar 3) mNil))) []) (gtName 4))
    (sSeq (sAsg (mCallF m_starts (mCons (mVar 0) mNil) []) (gtName 5))
    (sSeq (sIf (mTest (mBin gNe (mVar 5) (mVar 4))) (sRet (mC (.bl false))) sNext)
    (sSeq (sExpr (mBM "list" gAppend (mVar 5) (mCons (mVar 3) mNil)))
    (sSeq (sIf (mTest (mBin gNe (mCallF m_starts (mCons (mVar 0) mNil) []) (mVar 4))) (sRet (mC (.bl false))) sNext)
    (sSeq (sAsg (mCallB gList (mCons (mBin gIx (mVar 4) (mBin gMod (mCallB gInt (mCons (mBin gIx (mVar 2) (mC (.int 0))) mNil)) (mCallB gLen (mCons (mVar 4) mNil)))) mNil)) (gtName 6))
    (sSeq (sFor (iRange1 (mCons (mCallB gLen (mCons (mVar 1) mNil)) mNil)) (gtName 7) (sIf (mTest (mBin gEq (mBin gIx (mBin gIx (mVar 1) (mVar 7)) (mC (.int 0))) (mC (.str "note")))) (sAsg (mBin gMod (mCallB gInt (mCons (mBin gIx (mVar 2) (mBin gAdd (mC (.int 1)) (mVar 7))) mNil)) (mCallB gLen (mCons (mBin gIx (mBin gIx (mVar 1) (mVar 7)) (mC (.int 2))) mNil))) (gtSub (mVar 6) (mVar 7))) sNext))
    (sSeq (sAsg (mCallB gTuple (mCons (mVar 6) mNil)) (gtName 6))
    (sSeq (sAsg (mBin gAdd (mC (.int 1)) (mBin gMod (mBin gIx (mVar 2) (mC (.int 6))) (mBin gAdd (mCallB gLen (mCons (mVar 1) mNil)) (mC (.int 1))))) (gtName 8))
    (sSeq (sAsg (mCallF m_law_starts (mCons (mVar 1) (mCons (mVar 8) (mCons (mVar 6) mNil))) []) (gtName 9))
    (sSeq (sAsg (mCallF m_starts_below (mCons (mVar 0) (mCons (mVar 8) (mCons (mVar 6) mNil))) []) (gtName 5))
    (sSeq (sIf (mTest (mBin gNe (mVar 5) (mVar 9))) (sRet (mC (.bl false))) sNext)
    (sSeq (sAsg (mTup mNil) (gtSub (mVar 5) (mC (.int 0))))
    (sSeq (sIf (mTest (mBin gNe (mCallF m_starts_below (mCons (mVar 0) (mCons (mVar 8) (mCons (mVar 6) mNil))) []) (mVar 9))) (sRet (mC (.bl false))) sNext)
    (sSeq (sFor (iRange1 (mCons (mCallB gLen (mCons (mVar 9) mNil)) mNil)) (gtName 7) (sSeq (sAsg (mLc (iRange1 (mCons (mCallB gLen (mCons (mVar 1) mNil)) mNil)) [14] (.nm 14) mYes (mIf (mTest (mBin gEq (mBin gIx (mBin gIx (mVar 1) (mVar 14)) (mC (.int 0))) (mC (.str "note")))) (mBin gIx (mVar 6) (mVar 14)) (mBin gIx (mBin gIx (mVar 9) (mVar 7)) (mVar 14)))) (gtName 10))
    (sIf (mOr (mTest (mBin gNe (mCallF m_place_below (mCons (mVar 0) (mCons (mVar 8) (mCons (mBin gIx (mVar 9) (mVar 7)) mNil))) []) (mVar 7))) (mTest (mBin gNe (mCallF m_place_below (mCons (mVar 0) (mCons (mVar 8) (mCons (mCallB gTuple (mCons (mVar 10) mNil)) mNil))) []) (mVar 7)))) (sRet (mC (.bl false))) sNext)))
    (sSeq (sIf (mTest (mBin gNe (mCallF m_kept (mCons (mVar 0) (mCons (mVar 6) (mCons (mVar 8) mNil))) []) (mCallF m_law_kept (mCons (mVar 1) (mCons (mVar 6) (mCons (mVar 8) mNil))) []))) (sRet (mC (.bl false))) sNext)
    (sSeq (sFor (iRange1 (mCons (mCallB gLen (mCons (mVar 1) mNil)) mNil)) (gtName 7) (sSeq (sAsg (mIf (mOr (mTest (mBin gEq (mBin gIx (mBin gIx (mVar 1) (mVar 7)) (mC (.int 0))) (mC (.str "cell")))) (mTest (mBin gEq (mBin gIx (mBin gIx (mVar 1) (mVar 7)) (mC (.int 0))) (mC (.str "setting"))))) (mBin gIx (mBin gIx (mVar 1) (mVar 7)) (mC (.int 2))) (mC (.int 1))) (gtName 11))
    (sSeq (sIf (mTest (mBin gEq (mBin gIx (mBin gIx (mVar 1) (mVar 7)) (mC (.int 0))) (mC (.str "note")))) (sAsg (mCallB gLen (mCons (mBin gIx (mBin gIx (mVar 1) (mVar 7)) (mC (.int 2))) mNil)) (gtName 11)) sNext)
    (sSeq (sAsg (mBin gMod (mCallB gInt (mCons (mBin gAdd (mBin gIx (mVar 2) (mC (.int 7))) (mVar 7)) mNil)) (mVar 11)) (gtName 12))
    (sSeq (sIf (mTest (mBin gNe (mCallF m_changed (mCons (mVar 6) (mCons (mBin gAdd (mVar 7) (mC (.int 1))) (mCons (mVar 12) mNil))) []) (mBin gAdd (mBin gAdd (mSl (mVar 6) mNoPart (mPart (mVar 7))) (mTup (mCons (mVar 12) mNil))) (mSl (mVar 6) (mPart (mBin gAdd (mVar 7) (mC (.int 1)))) mNoPart)))) (sRet (mC (.bl false))) sNext)
    (sIf (mTest (mBin gEq (mBin gIx (mBin gIx (mVar 1) (mVar 7)) (mC (.int 0))) (mC (.str "note")))) (sSeq (sAsg (mBin gMod (mCallB gInt (mCons (mBin gIx (mVar 2) (mC (.int 7))) mNil)) (mCallB gLen (mCons (mBin gIx (mBin gIx (mVar 1) (mVar 7)) (mC (.int 2))) mNil))) (gtName 13))
    (sSeq (sAsg (mBin gAdd (mBin gAdd (mSl (mVar 6) mNoPart (mPart (mVar 7))) (mTup (mCons (mBin gIx (mBin gIx (mBin gIx (mBin gIx (mVar 1) (mVar 7)) (mC (.int 2))) (mBin gIx (mVar 6) (mVar 7))) (mVar 13)) mNil))) (mSl (mVar 6) (mPart (mBin gAdd (mVar 7) (mC (.int 1)))) mNoPart)) (gtName 4))
    (sIf (mTest (mBin gNe (mCallF m_noted (mCons (mVar 0) (mCons (mVar 6) (mCons (mBin gAdd (mVar 7) (mC (.int 1))) (mCons (mVar 13) mNil)))) []) (mVar 4))) (sRet (mC (.bl false))) sNext))) sNext))))))
    (sRet (mC (.bl true)))))))))))))))))))))
def m_law_states : List MV → M MV := fnM 15 3 b_law_states
/-- _law_end: 0 layers, 1 state, 2 row, 3 kinds, 4 layer, 5 kind, 6 text, 7 at -/
def b_law_end : MS :=
  (sSeq (sAsg (mLc (iRange1 (mCons (mCallB gLen (mCons (mVar 0) mNil)) mNil)) [7] (.nm 7) (mTest (mBin gEq (mBin gIx (mBin gIx (mVar 0) (mVar 7)) (mC (.int 0))) (mC (.str "fail")))) (mBin gAdd (mVar 7) (mC (.int 1)))) (gtName 3))
    (sSeq (sIf (mAnd (mTest (mBin gEq (mBin gMod (mBin gIx (mVar 2) (mC (.int 0))) (mC (.int 3))) (mC (.int 0)))) (mTest (mBin gNe (mVar 3) (mLst mNil)))) (sSeq (sAsg (mBin gIx (mVar 3) (mBin gMod (mCallB gInt (mCons (mBin gIx (mVar 2) (mC (.int 1))) mNil)) (mCallB gLen (mCons (mVar 3) mNil)))) (gtName 4))
    (sSeq (sAsg (mBin gMod (mCallB gInt (mCons (mBin gIx (mVar 2) (mC (.int 2))) mNil)) (mBin gIx (mBin gIx (mVar 0) (mBin gSub (mVar 4) (mC (.int 1)))) (mC (.int 2)))) (gtName 5))
    (sRet (mTup (mCons (mTup (mCons (mC (.str "fail")) (mCons (mVar 4) (mCons (mVar 5) mNil)))) (mCons (mTup (mCons (mC (.str "fail")) (mCons (mVar 4) (mCons (mVar 5) (mCons (mCallF m_law_kept (mCons (mVar 0) (mCons (mVar 1) (mCons (mVar 4) mNil))) []) mNil))))) mNil)))))) sNext)
    (sSeq (sAsg (mBin gIx (mLst (mCons (mC (.str "0")) (mCons (mC (.str "(1 0)")) (mCons (mC (.str "12")) mNil)))) (mBin gMod (mBin gIx (mVar 2) (mC (.int 1))) (mC (.int 3)))) (gtName 6))
    (sRet (mTup (mCons (mTup (mCons (mC (.str "ret")) (mCons (mVar 6) mNil))) (mCons (mTup (mCons (mC (.str "done")) (mCons (mVar 6) (mCons (mCallF m_law_kept (mCons (mVar 0) (mCons (mVar 1) (mCons (mBin gAdd (mCallB gLen (mCons (mVar 0) mNil)) (mC (.int 1))) mNil))) []) mNil)))) mNil)))))))
def m_law_end : List MV → M MV := fnM 8 3 b_law_end
/-- Play.outcome: 0 self, 1 deed, 2 end -/
def b_Play_outcome : MS :=
  (sSeq (sIf (mTest (mBin gEq (mBin gIx (mVar 1) (mC (.int 0))) (mC (.str "ret")))) (sAsg (mTup (mCons (mC (.str "done")) (mCons (mBin gIx (mVar 1) (mC (.int 1))) (mCons (mCallF m_kept (mCons (mFld [1] "book" (mVar 0)) (mCons (mFld [1] "state" (mVar 0)) (mCons (mBin gAdd (mFld [0] "size" (mFld [1] "book" (mVar 0))) (mC (.int 1))) mNil))) []) mNil)))) (gtName 2)) (sAsg (mTup (mCons (mC (.str "fail")) (mCons (mBin gIx (mVar 1) (mC (.int 1))) (mCons (mBin gIx (mVar 1) (mC (.int 2))) (mCons (mCallF m_kept (mCons (mFld [1] "book" (mVar 0)) (mCons (mFld [1] "state" (mVar 0)) (mCons (mBin gIx (mVar 1) (mC (.int 1))) mNil))) []) mNil))))) (gtName 2)))
    (sRet (mTup (mCons (mCallB gTuple (mCons (mFld [1] "trail" (mVar 0)) mNil)) (mCons (mVar 2) mNil)))))
def m_Play_outcome : List MV → M MV := fnM 3 2 b_Play_outcome
/-- Play.restore: 0 self, 1 layer, 2 state, 3 at -/
def b_Play_restore : MS :=
  (sFor (iRange2 (mCons (mBin gAdd (mVar 1) (mC (.int 1))) (mCons (mBin gAdd (mFld [0] "size" (mFld [1] "book" (mVar 0))) (mC (.int 1))) mNil))) (gtName 3) (sIf (mTest (mBin (gIn false) (mMeth 0 "word_at" m_Book_word_at (mFld [1] "book" (mVar 0)) (mCons (mVar 3) mNil) []) (mC c_KEPT))) (sFldM [1] "state" (mVar 0) (mCallF m_changed (mCons (mFld [1] "state" (mVar 0)) (mCons (mVar 3) (mCons (mBin gIx (mVar 2) (mBin gSub (mVar 3) (mC (.int 1)))) mNil))) [])) sNext))
def m_Play_restore : List MV → M MV := fnM 4 3 b_Play_restore
/-- Book.ways_at: 0 self, 1 layer, 2 deed -/
def b_Book_ways_at : MS :=
  (sRet (mBin gIx (mBin gIx (mBin gIx (mFld [0] "layers" (mVar 0)) (mBin gSub (mVar 1) (mC (.int 1)))) (mC (.int 2))) (mVar 2)))
def m_Book_ways_at : List MV → M MV := fnM 3 3 b_Book_ways_at
/-- Play.next_number: 0 self -/
def b_Play_next_number : MS :=
  (sSeq (sFldAugM 1 "taken" gIAdd (mVar 0) (mC (.int 1)))
    (sSeq (sIf (mTest (mBin gGt (mFld [1] "taken" (mVar 0)) (mCallB gLen (mCons (mFld [1] "script" (mVar 0)) mNil)))) (sRet (mC (.int 0))) sNext)
    (sRet (mBin gIx (mFld [1] "script" (mVar 0)) (mBin gSub (mFld [1] "taken" (mVar 0)) (mC (.int 1)))))))
def m_Play_next_number : List MV → M MV := fnM 1 1 b_Play_next_number
/-- Play.ask: 0 self, 1 layer, 2 deed, 3 before, 4 rest, 5 many, 6 answer, 7 at -/
def b_Play_ask : MS :=
  (sSeq (sAsg (mCallF m_kept (mCons (mFld [1] "book" (mVar 0)) (mCons (mFld [1] "state" (mVar 0)) (mCons (mVar 1) mNil))) []) (gtName 3))
    (sSeq (sAsg (mMeth 1 "next_number" m_Play_next_number (mVar 0) mNil []) (gtName 4))
    (sSeq (sAsg (mMeth 0 "ways_at" m_Book_ways_at (mFld [1] "book" (mVar 0)) (mCons (mVar 1) (mCons (mVar 2) mNil)) []) (gtName 5))
    (sSeq (sAsg (mBin gMod (mVar 4) (mVar 5)) (gtName 6))
    (sSeq (sAsg (mBin gDiv (mVar 4) (mVar 5)) (gtName 4))
    (sSeq (sFor (iRange2 (mCons (mC (.int 1)) (mCons (mVar 1) mNil))) (gtName 7) (sIf (mTest (mBin (gIn false) (mMeth 0 "word_at" m_Book_word_at (mFld [1] "book" (mVar 0)) (mCons (mVar 7) mNil) []) (mC c_VARIED))) (sSeq (sFldM [1] "state" (mVar 0) (mCallF m_changed (mCons (mFld [1] "state" (mVar 0)) (mCons (mVar 7) (mCons (mBin gMod (mVar 4) (mMeth 0 "count_at" m_Book_count_at (mFld [1] "book" (mVar 0)) (mCons (mVar 7) mNil) [])) mNil))) []))
    (sAsg (mBin gDiv (mVar 4) (mMeth 0 "count_at" m_Book_count_at (mFld [1] "book" (mVar 0)) (mCons (mVar 7) mNil) [])) (gtName 4))) (sFldM [1] "state" (mVar 0) (mCallF m_changed (mCons (mFld [1] "state" (mVar 0)) (mCons (mVar 7) (mCons (mC (.int 0)) mNil))) []))))
    (sSeq (sExpr (mBM "list" gAppend (mFld [1] "trail" (mVar 0)) (mCons (mTup (mCons (mVar 1) (mCons (mVar 2) (mCons (mVar 3) (mCons (mVar 6) (mCons (mSl (mFld [1] "state" (mVar 0)) mNoPart (mPart (mBin gSub (mVar 1) (mC (.int 1))))) mNil)))))) mNil)))
    (sRet (mVar 6)))))))))
def m_Play_ask : List MV → M MV := fnM 8 3 b_Play_ask
/-- Play.answer: 0 self, 1 deed -/
def b_Play_answer : MS :=
  (sSeq (sFldAugM 1 "deeds" gIAdd (mVar 0) (mC (.int 1)))
    (sSeq (sIf (mTest (mBin gEq (mBin gIx (mVar 1) (mC (.int 0))) (mC (.str "choose")))) (sRet (mBin gMod (mMeth 1 "next_number" m_Play_next_number (mVar 0) mNil []) (mC (.int 2)))) sNext)
    (sSeq (sIf (mTest (mBin gEq (mBin gIx (mVar 1) (mC (.int 0))) (mC (.str "draw")))) (sRet (mIf (mTest (mBin gLt (mBin gMod (mMeth 1 "next_number" m_Play_next_number (mVar 0) mNil []) (mBin gIx (mVar 1) (mC (.int 3)))) (mBin gIx (mVar 1) (mC (.int 2))))) (mC (.int 0)) (mC (.int 1)))) sNext)
    (sSeq (sIf (mTest (mBin (gIn false) (mBin gIx (mVar 1) (mC (.int 0))) (mTup (mCons (mC (.str "get")) (mCons (mC (.str "look")) mNil))))) (sRet (mBin gIx (mFld [1] "state" (mVar 0)) (mBin gSub (mBin gIx (mVar 1) (mC (.int 1))) (mC (.int 1))))) sNext)
    (sSeq (sIf (mTest (mBin gEq (mBin gIx (mVar 1) (mC (.int 0))) (mC (.str "ask")))) (sRet (mMeth 1 "ask" m_Play_ask (mVar 0) (mCons (mBin gIx (mVar 1) (mC (.int 1))) (mCons (mBin gIx (mVar 1) (mC (.int 2))) mNil)) [])) sNext)
    (sSeq (sIf (mTest (mBin gEq (mBin gIx (mVar 1) (mC (.int 0))) (mC (.str "put")))) (sFldM [1] "state" (mVar 0) (mCallF m_changed (mCons (mFld [1] "state" (mVar 0)) (mCons (mBin gIx (mVar 1) (mC (.int 1))) (mCons (mBin gIx (mVar 1) (mC (.int 2))) mNil))) [])) (sFldM [1] "state" (mVar 0) (mCallF m_noted (mCons (mFld [1] "book" (mVar 0)) (mCons (mFld [1] "state" (mVar 0)) (mCons (mBin gIx (mVar 1) (mC (.int 1))) (mCons (mBin gIx (mVar 1) (mC (.int 2))) mNil)))) [])))
    (sRet (mC (.int 0)))))))))
def m_Play_answer : List MV → M MV := fnM 2 2 b_Play_answer
/-- Play.__init__: 0 self, 1 book, 2 start, 3 script -/
def b_Play_init : MS :=
  (sSeq (sFldM [1] "book" (mVar 0) (mVar 1))
    (sSeq (sFldM [1] "state" (mVar 0) (mCallB gTuple (mCons (mVar 2) mNil)))
    (sSeq (sFldM [1] "script" (mVar 0) (mCallB gTuple (mCons (mVar 3) mNil)))
    (sSeq (sFldM [1] "taken" (mVar 0) (mC (.int 0)))
    (sSeq (sFldM [1] "deeds" (mVar 0) (mC (.int 0)))
    (sFldM [1] "trail" (mVar 0) (mLst mNil)))))))
def m_Play_init : List MV → M MV := fnM 4 4 b_Play_init
/-- Book.__init__: 0 self, 1 kernel, 2 layers, 3 names, 4 many, 5 at, 6 layer -/
def b_Book_init : MS :=
  (sSeq (sIf (mOr (mTest (mUn (gInK true k_CHOICES) (mVar 1))) (mTest (mBin gGt (mCallB gLen (mCons (mVar 2) mNil)) (mC c_MOST_LAYERS)))) sBad sNext)
    (sSeq (sAsg (mLst mNil) (gtName 3))
    (sSeq (sAsg (mC (.int 1)) (gtName 4))
    (sSeq (sFor (iEnumM (mVar 2)) (gtTup 2 (gtCons (gtName 5) (gtCons (gtName 6) gtNil))) (sSeq (sIf (mOr (mNot (mTru (mCallF m_is_layer (mCons (mVar 6) mNil) []))) (mTest (mBin (gIn false) (mBin gIx (mVar 6) (mC (.int 1))) (mVar 3)))) sBad sNext)
    (sSeq (sExpr (mBM "list" gAppend (mVar 3) (mCons (mBin gIx (mVar 6) (mC (.int 1))) mNil)))
    (sIf (mTest (mBin (gIn false) (mBin gIx (mVar 6) (mC (.int 0))) (mC c_VARIED))) (sAsg (mBin gMul (mVar 4) (mBin gIx (mVar 6) (mC (.int 2)))) (gtName 4)) sNext))))
    (sSeq (sIf (mTest (mBin gGt (mVar 4) (mC c_MOST_STARTS))) sBad sNext)
    (sSeq (sFldM [0] "kernel" (mVar 0) (mVar 1))
    (sSeq (sFldM [0] "layers" (mVar 0) (mCallB gTuple (mCons (mVar 2) mNil)))
    (sFldM [0] "size" (mVar 0) (mCallB gLen (mCons (mVar 2) mNil))))))))))
def m_Book_init : List MV → M MV := fnM 7 3 b_Book_init
/-- law: 0 script, 1 row, 2 kernel, 3 layers, 4 book, 5 start, 6 numbers, 7 handed, 8 play, 9 at, 10 deeds, 11 state, 12 seen, 13 trail, 14 taken, 15 drawn, 16 deed, 17 number, 18 answer, 19 told, 20 layer, 21 old, 22 end, 23 outcome -/
def b_law : MS :=
  (sSeq (sAsg (mCallF m_law_row (mCons (mVar 0) (mCons (mC (.int 0)) (mCons (mC (.int 12)) mNil))) []) (gtName 1))
    (sSeq (sAsg (mCallF m_law_book (mCons (mBin gIx (mVar 1) (mC (.int 0))) mNil) []) (gtTup 2 (gtCons (gtName 2) (gtCons (gtName 3) gtNil))))
    (sSeq (sAsg (mMake 0 m_Book_init (mCons (mVar 2) (mCons (mVar 3) mNil)) []) (gtName 4))
    (sSeq (sIf (mNot (mTru (mCallF m_law_states (mCons (mVar 4) (mCons (mVar 3) (mCons (mCallF m_law_row (mCons (mVar 0) (mCons (mC (.int 1)) (mCons (mC (.int 8)) mNil))) []) mNil))) []))) (sRet (mC (.bl false))) sNext)
    (sSeq (sAsg (mCallF m_law_starts (mCons (mVar 3) (mCons (mBin gAdd (mCallB gLen (mCons (mVar 3) mNil)) (mC (.int 1))) (mCons (mBin gMul (mTup (mCons (mC (.int 0)) mNil)) (mCallB gLen (mCons (mVar 3) mNil))) mNil))) []) (gtName 5))
    (sSeq (sAsg (mBin gIx (mVar 5) (mBin gMod (mCallB gInt (mCons (mBin gIx (mVar 1) (mC (.int 1))) mNil)) (mCallB gLen (mCons (mVar 5) mNil)))) (gtName 5))
    (sSeq (sAsg (mLc (iOf (mSl (mVar 0) (mPart (mC (.int 2))) (mPart (mBin gAdd (mC (.int 2)) (mBin gMod (mBin gIx (mVar 1) (mC (.int 2))) (mC (.int 13))))))) [17] (.nm 17) mYes (mCallB gAbs (mCons (mCallB gInt (mCons (mVar 17) mNil)) mNil))) (gtName 6))
    (sSeq (sAsg (mCallB gList (mCons (mVar 6) mNil)) (gtName 7))
    (sSeq (sAsg (mMake 1 m_Play_init (mCons (mVar 4) (mCons (mVar 5) (mCons (mVar 7) mNil))) []) (gtName 8))
    (sSeq (sIf (mOr (mTest (mBin gNe (mVar 7) (mVar 6))) (mOr (mTest (mBin gNe (mFld [0] "kernel" (mFld [1] "book" (mVar 8))) (mVar 2))) (mTest (mBin gNe (mFld [0] "layers" (mFld [1] "book" (mVar 8))) (mCallB gTuple (mCons (mVar 3) mNil)))))) (sRet (mC (.bl false))) sNext)
    (sSeq (sFor (iRange1 (mCons (mCallB gLen (mCons (mVar 7) mNil)) mNil)) (gtName 9) (sAsg (mBin gAdd (mBin gIx (mVar 7) (mVar 9)) (mC (.int 1))) (gtSub (mVar 7) (mVar 9))))
    (sSeq (sExpr (mBM "list" gAppend (mVar 7) (mCons (mC (.int 1)) mNil)))
    (sSeq (sAsg (mCallF m_law_deeds (mCons (mVar 2) (mCons (mVar 3) mNil)) []) (gtName 10))
    (sSeq (sAsg (mCallB gList (mCons (mVar 5) mNil)) (gtName 11))
    (sSeq (sAsg (mLst (mCons (mVar 11) mNil)) (gtName 12))
    (sSeq (sAsg (mLst mNil) (gtName 13))
    (sSeq (sAsg (mC (.int 0)) (gtName 14))
    (sSeq (sFor (iRange1 (mCons (mBin gMod (mBin gIx (mVar 1) (mC (.int 3))) (mC (.int 21))) mNil)) (gtName 9) (sSeq (sAsg (mCallF m_law_row (mCons (mVar 0) (mCons (mBin gAdd (mC (.int 15)) (mVar 9)) (mCons (mC (.int 3)) mNil))) []) (gtName 15))
    (sSeq (sAsg (mBin gIx (mVar 10) (mBin gMod (mCallB gInt (mCons (mBin gIx (mVar 15) (mC (.int 0))) mNil)) (mCallB gLen (mCons (mVar 10) mNil)))) (gtName 16))
    (sSeq (sAsg (mC (.int 0)) (gtName 17))
    (sSeq (sIf (mTest (mBin (gIn false) (mBin gIx (mVar 16) (mC (.int 0))) (mTup (mCons (mC (.str "choose")) (mCons (mC (.str "draw")) (mCons (mC (.str "ask")) mNil)))))) (sSeq (sIf (mTest (mBin gLt (mVar 14) (mCallB gLen (mCons (mVar 6) mNil)))) (sAsg (mBin gIx (mVar 6) (mVar 14)) (gtName 17)) sNext)
    (sAsg (mBin gAdd (mVar 14) (mC (.int 1))) (gtName 14))) sNext)
    (sSeq (sAsg (mCallF m_law_step (mCons (mVar 3) (mCons (mVar 11) (mCons (mVar 16) (mCons (mVar 17) (mCons (mVar 13) mNil))))) []) (gtTup 2 (gtCons (gtName 18) (gtCons (gtName 11) gtNil))))
    (sSeq (sAsg (mMeth 1 "answer" m_Play_answer (mVar 8) (mCons (mVar 16) mNil) []) (gtName 19))
    (sSeq (sIf (mOr (mNot (mTru (mCallB gIsi (mCons (mVar 19) (mCons (mC (.ty "int")) mNil))))) (mOr (mTru (mCallB gIsi (mCons (mVar 19) (mCons (mC (.ty "bool")) mNil)))) (mTest (mBin gNe (mVar 19) (mVar 18))))) (sRet (mC (.bl false))) sNext)
    (sSeq (sIf (mAnd (mTest (mBin gEq (mBin gMod (mBin gIx (mVar 15) (mC (.int 1))) (mC (.int 9))) (mC (.int 0)))) (mTest (mBin gNe (mVar 3) (mTup mNil)))) (sSeq (sAsg (mBin gAdd (mC (.int 1)) (mBin gMod (mCallB gInt (mCons (mBin gIx (mVar 15) (mC (.int 2))) mNil)) (mCallB gLen (mCons (mVar 3) mNil)))) (gtName 20))
    (sSeq (sAsg (mBin gIx (mVar 12) (mBin gMod (mCallB gInt (mCons (mBin gIx (mVar 15) (mC (.int 2))) mNil)) (mCallB gLen (mCons (mVar 12) mNil)))) (gtName 21))
    (sSeq (sAsg (mCallF m_law_back (mCons (mVar 3) (mCons (mVar 11) (mCons (mVar 20) (mCons (mVar 21) mNil)))) []) (gtName 11))
    (sExpr (mMeth 1 "restore" m_Play_restore (mVar 8) (mCons (mVar 20) (mCons (mCallB gTuple (mCons (mVar 21) mNil)) mNil)) []))))) sNext)
    (sSeq (sExpr (mBM "list" gAppend (mVar 12) (mCons (mVar 11) mNil)))
    (sIf (mOr (mTest (mBin gNe (mFld [1] "state" (mVar 8)) (mCallB gTuple (mCons (mVar 11) mNil)))) (mOr (mTest (mBin gNe (mFld [1] "taken" (mVar 8)) (mVar 14))) (mOr (mTest (mBin gNe (mFld [1] "deeds" (mVar 8)) (mBin gAdd (mVar 9) (mC (.int 1))))) (mTest (mBin gNe (mFld [1] "trail" (mVar 8)) (mVar 13)))))) (sRet (mC (.bl false))) sNext)))))))))))
    (sSeq (sAsg (mCallF m_law_end (mCons (mVar 3) (mCons (mVar 11) (mCons (mCallF m_law_row (mCons (mVar 0) (mCons (mC (.int 40)) (mCons (mC (.int 3)) mNil))) []) mNil))) []) (gtTup 2 (gtCons (gtName 16) (gtCons (gtName 22) gtNil))))
    (sSeq (sAsg (mMeth 1 "outcome" m_Play_outcome (mVar 8) (mCons (mVar 16) mNil) []) (gtName 23))
    (sSeq (sIf (mTest (mBin gNe (mVar 7) (mBin gAdd (mLc (iOf (mVar 6)) [17] (.nm 17) mYes (mBin gAdd (mVar 17) (mC (.int 1)))) (mLst (mCons (mC (.int 1)) mNil))))) (sRet (mC (.bl false))) sNext)
    (sRet (mAndV (mBin gEq (mVar 23) (mTup (mCons (mCallB gTuple (mCons (mVar 13) mNil)) (mCons (mVar 22) mNil)))) (mCallB gIsi (mCons (mBin gIx (mVar 23) (mC (.int 0))) (mCons (mC (.ty "tuple")) mNil))))))))))))))))))))))))))
def m_law : List MV → M MV := fnM 24 1 b_law
end K02

set_option Elab.async false
set_option linter.all false
set_option maxRecDepth 100000
set_option autoImplicit false
namespace K02
open PySem BH
inductive Lay where
  | cell (nm : Str) (n : Nat)
  | setting (nm : Str) (n : Nat)
  | note (nm : Str) (tb : List (List Nat))
  | fail (nm : Str) (n : Nat)
  | outside (nm : Str) (ar : List Nat)
def word : Lay → String
  | .cell _ _ => "cell"
  | .setting _ _ => "setting"
  | .note _ _ => "note"
  | .fail _ _ => "fail"
  | .outside _ _ => "outside"
def nats (xs : List Nat) : MV := .tup (xs.map fun (x : Nat) => .int x)
def third : Lay → MV
  | .cell _ n => .int n
  | .setting _ n => .int n
  | .note _ tb => .tup (tb.map nats)
  | .fail _ n => .int n
  | .outside _ ar => nats ar
def nameOf : Lay → Str
  | .cell nm _ => nm
  | .setting nm _ => nm
  | .note nm _ => nm
  | .fail nm _ => nm
  | .outside nm _ => nm
def enc (l : Lay) : MV := .tup [.str (word l), .str (nameOf l), third l]
def count : Lay → Nat
  | .cell _ n => n
  | .setting _ n => n
  | .note _ tb => tb.length
  | .fail _ n => n
  | .outside _ ar => ar.length
def bookO (k : Str) (ls : List Lay) : MO := .ins 0 [("kernel", .str k), ("layers", .tup (ls.map enc)), ("size", .int ls.length)]
section
variable {st : Mst} {b : Nat} {k : Str} {ls : List Lay} {l : Lay} {i : Nat}
theorem f_kernel (hb : st[b]? = some (bookO k ls)) : getF [0] "kernel" (.ref b) st = .ok (.str k) st := getF_ins hb (by simp) (by simp [List.lookup])
theorem f_layers (hb : st[b]? = some (bookO k ls)) : getF [0] "layers" (.ref b) st = .ok (.tup (ls.map enc)) st := getF_ins hb (by simp) (by simp [List.lookup])
theorem f_size (hb : st[b]? = some (bookO k ls)) : getF [0] "size" (.ref b) st = .ok (.int ls.length) st := getF_ins hb (by simp) (by simp [List.lookup])
theorem at_enc (h : ls[i]? = some l) : (ls.map enc)[i]? = some (enc l) := by simp [h]
theorem word_at (hb : st[b]? = some (bookO k ls)) (h : ls[i]? = some l) : m_Book_word_at [.ref b, .int (i + 1)] st = .ok (.str (word l)) st := by
  rw [m_Book_word_at, fnM2, b_Book_word_at]
  simp -implicitDefEqProofs [f_layers hb, h, enc]
theorem count_at (hb : st[b]? = some (bookO k ls)) (h : ls[i]? = some l) : m_Book_count_at [.ref b, .int (i + 1)] st = .ok (.int (count l)) st := by
  rw [m_Book_count_at, fnM2, b_Book_count_at]
  cases l <;> simp -implicitDefEqProofs [f_layers hb, h, enc, word, count, third, nats]
theorem product (hb : st[b]? = some (bookO k ls)) {nm : Str} {tb : List (List Nat)} {row : List Nat} {x y z : Nat} (h : ls[i]? = some (.note nm tb)) (h1 : tb[x]? = some row) (h2 : row[y]? = some z) :
    m_Book_product [.ref b, .int (i + 1), .int x, .int y] st = .ok (.int z) st := by
  rw [m_Book_product, fnM4, b_Book_product]
  simp -implicitDefEqProofs [f_layers hb, h, enc, third, nats, h1, h2]
theorem ways_at (hb : st[b]? = some (bookO k ls)) {nm : Str} {ar : List Nat} {x z : Nat} (h : ls[i]? = some (.outside nm ar)) (h1 : ar[x]? = some z) : m_Book_ways_at [.ref b, .int (i + 1), .int x] st = .ok (.int z) st := by
  rw [m_Book_ways_at, fnM3, b_Book_ways_at]
  simp -implicitDefEqProofs [f_layers hb, h, enc, third, nats, h1]
/-! ### kept -/
def keptE : Lay → Int → Int
  | .setting _ _, _ => 0
  | _, x => x
def keptS (ls : List Lay) (s : List Int) (n : Nat) : List Int := (List.zipWith keptE ls s).take n
theorem keptE_if (l : Lay) (x : Int) : keptE l x = if word l = "setting" then 0 else x := by cases l <;> simp [keptE, word]
abbrev bookF (k : Str) (ls : List Lay) : Mfs := [("kernel", .str k), ("layers", .tup (ls.map enc)), ("size", .int ls.length)]
theorem clsB (hb : st[b]? = some (bookO k ls)) {f : Str} (hf : (bookF k ls).lookup f = none) : clsOf 0 f (.ref b) st = true := clsOf_ins hb hf
theorem kept_get {s : List Int} {x : Int} (h : ls[i]? = some l) (hx : s[i]? = some x) : (List.zipWith keptE ls s)[i]? = some (keptE l x) := by simp [List.getElem?_zipWith, h, hx]
theorem kept_ok {s : List Int} {n : Nat} (hb : st[b]? = some (bookO k ls)) (hs : s.length = ls.length) (hn : n ≤ ls.length) (hl : ls.length ≤ 5) : ∃ g, m_kept [.ref b, itup s, .int (n + 1)] st = .ok (itup (keptS ls s n)) (st ++ g) := by
  suffices h : Post (m_kept [.ref b, itup s, .int (n + 1)] st) (fun v st' => v = itup (keptS ls s n) ∧ ∃ g, st' = st ++ g) by
    obtain ⟨_, _, h, rfl, g, rfl⟩ := h
    exact ⟨g, h⟩
  rw [m_kept, fnM3, b_kept]
  have r := rngOf1_nat (j := n) (n := n) (st := st ++ [.lst []]) rfl (by omega)
  simp -implicitDefEqProofs [r]
  refine .finB (.bind (.range (fun i env st' => (∃ o, env = [some (.ref b), some (itup s), some (.int (n + 1)), some (.ref st.length), o]) ∧ st' = st ++ [.lst ((keptS ls s i).map .int)]) ⟨⟨_, rfl⟩, by simp [keptS]⟩ rfl ?_ ?_))
  · rintro i env st' hi ⟨⟨o, rfl⟩, rfl⟩
    obtain ⟨l, h⟩ := get_of (xs := ls) (i := i) (by omega)
    obtain ⟨x, hx⟩ := get_of (xs := s) (i := i) (by omega)
    refine ⟨_, _, rfl, ?_⟩
    have hw := word_at (st := st ++ [.lst ((keptS ls s i).map .int)]) (up hb) h
    have hc := clsB (f := "word_at") (up hb (g := [.lst ((keptS ls s i).map .int)])) (by simp [List.lookup])
    have ht := tyM_lst (last_snoc (st := st) (o := .lst ((keptS ls s i).map .int)))
    have ha : ∀ y, gAppend (.ref st.length) [y] (st ++ [.lst ((keptS ls s i).map .int)]) = _ := fun y => gAppend_lst (y := y) last_snoc (by simp [keptS]; omega)
    refine .nx (env := [some (.ref b), some (itup s), some (.int (n + 1)), some (.ref st.length), some (.int i)]) (st := st ++ [.lst ((keptS ls s (i + 1)).map .int)]) ?_ ⟨⟨_, rfl⟩, rfl⟩
    have hk : keptS ls s (i + 1) = keptS ls s i ++ [keptE l x] := take_snoc (kept_get h hx)
    simp -implicitDefEqProofs [hw, hc, ht, ha, itup, hx, hk, keptE_if]
    split <;> simp_all
  · rintro env st' ⟨⟨o, rfl⟩, rfl⟩
    simp -implicitDefEqProofs [gTuple_lst last_snoc, itup]
theorem lawkept_ok {s : List Int} {n : Nat} {v : MV} (hv : itemsOf st v = some (s.map .int)) (hs : s.length = ls.length) (hn : n ≤ ls.length) (hl : ls.length ≤ 5) : ∃ g, m_law_kept [.tup (ls.map enc), v, .int (n + 1)] st = .ok (itup (keptS ls s n)) (st ++ g) := by
  suffices h : Post (m_law_kept [.tup (ls.map enc), v, .int (n + 1)] st) (fun v st' => v = itup (keptS ls s n) ∧ ∃ g, st' = st ++ g) by
    obtain ⟨_, _, h, rfl, g, rfl⟩ := h
    exact ⟨g, h⟩
  rw [m_law_kept, fnM3, b_law_kept]
  have r := rngOf1_nat (j := n) (n := n) (st := st ++ [.lst []]) rfl (by omega)
  simp -implicitDefEqProofs [r]
  refine .finB (.bind (.range (fun i env st' => (∃ o, env = [some (.tup (ls.map enc)), some v, some (.int (n + 1)), some (.ref st.length), o]) ∧ st' = st ++ [.lst ((keptS ls s i).map .int)]) ⟨⟨_, rfl⟩, by simp [keptS]⟩ rfl ?_ ?_))
  · rintro i env st' hi ⟨⟨o, rfl⟩, rfl⟩
    obtain ⟨l, h⟩ := get_of (xs := ls) (i := i) (by omega)
    obtain ⟨x, hx⟩ := get_of (xs := s) (i := i) (by omega)
    refine ⟨_, _, rfl, ?_⟩
    have ht := tyM_lst (last_snoc (st := st) (o := .lst ((keptS ls s i).map .int)))
    have ha : ∀ y, gAppend (.ref st.length) [y] (st ++ [.lst ((keptS ls s i).map .int)]) = _ := fun y => gAppend_lst (y := y) last_snoc (by simp [keptS]; omega)
    refine .nx (env := [some (.tup (ls.map enc)), some v, some (.int (n + 1)), some (.ref st.length), some (.int i)]) (st := st ++ [.lst ((keptS ls s (i + 1)).map .int)]) ?_ ⟨⟨_, rfl⟩, rfl⟩
    have hk : keptS ls s (i + 1) = keptS ls s i ++ [keptE l x] := take_snoc (kept_get h hx)
    simp -implicitDefEqProofs [ht, ha, gIx_it hv, h, hx, enc, hk, keptE_if]
    split <;> simp_all
  · rintro env st' ⟨⟨o, rfl⟩, rfl⟩
    simp -implicitDefEqProofs [gTuple_lst last_snoc, itup]
theorem changed_ok {s : List Int} {n : Nat} {x : Int} (hn : n < s.length) (hl : s.length ≤ 5) : m_changed [itup s, .int (n + 1), .int x] st = .ok (itup (s.set n x)) st := by
  rw [m_changed, fnM3, b_changed]
  have h1 := mcut_to (s.map MV.int) n
  have h2 := mcut_from (s.map MV.int) (n + 1)
  simp -implicitDefEqProofs only [Int.natCast_add, Int.cast_ofNat_Int] at h2
  have e1 : (s.map MV.int).length = s.length := by simp
  simp -implicitDefEqProofs [itup, h1, h2]
  rw [if_pos (by omega)]
  simp -implicitDefEqProofs
  rw [if_pos (by omega)]
  rw [← set_mid (xs := s.map MV.int) (n := n) (by simpa using hn)]
  simp
theorem noted_ok {s : List Int} {nm : Str} {tb : List (List Nat)} {row : List Nat} {x y z : Nat} (hb : st[b]? = some (bookO k ls)) (h : ls[i]? = some (.note nm tb)) (hx : s[i]? = some (x : Int)) (h1 : tb[x]? = some row) (h2 : row[y]? = some z) (hl : s.length ≤ 5) :
    m_noted [.ref b, itup s, .int (i + 1), .int y] st = .ok (itup (s.set i z)) st := by
  rw [m_noted, fnM4, b_noted]
  have hc := clsB (f := "product") hb (by simp [List.lookup])
  have hi : i < s.length := (List.getElem?_eq_some_iff.mp hx).1
  simp -implicitDefEqProofs [hc]
  have e : gIx (itup s) (.int i) st = .ok (.int x) st := by simp [itup, hx]
  simp -implicitDefEqProofs [e, product hb h h1 h2, changed_ok hi hl]
/-! ### varied -/
def varied : Lay → Bool
  | .cell _ _ => true
  | .setting _ _ => true
  | _ => false
theorem varied_w (l : Lay) : varied l = (word l == "cell" || word l == "setting") := by cases l <;> rfl
/-- the asked state: entries below n -/
def askS (ls : List Lay) : Nat → List Int → Int → List Int × Int
  | 0, s, r => (s, r)
  | i + 1, s, r => match ls[i]? with
    | some l => if varied l then ((askS ls i s r).1.set i ((askS ls i s r).2 % (count l : Int)), (askS ls i s r).2 / (count l : Int)) else ((askS ls i s r).1.set i 0, (askS ls i s r).2)
    | none => askS ls i s r
theorem askS_length (ls : List Lay) (s : List Int) (r : Int) : ∀ n, (askS ls n s r).1.length = s.length
  | 0 => rfl
  | i + 1 => by
    simp only [askS]
    split
    · split <;> simp [askS_length ls s r i]
    · exact askS_length ls s r i
/-- back to old ones, from n on -/
def isKept : Lay → Bool
  | .cell _ _ => true
  | .note _ _ => true
  | _ => false
theorem isKept_w (l : Lay) : isKept l = (word l == "cell" || word l == "note") := by cases l <;> rfl
def backS (ls : List Lay) (n : Nat) (old : List Int) : Nat → List Int → List Int
  | 0, s => s
  | i + 1, s => match ls[n + i]?, old[n + i]? with
    | some l, some x => if isKept l then (backS ls n old i s).set (n + i) x else backS ls n old i s
    | _, _ => backS ls n old i s
theorem backS_length (ls : List Lay) (n : Nat) (old s : List Int) : ∀ i, (backS ls n old i s).length = s.length
  | 0 => rfl
  | i + 1 => by
    simp only [backS]
    split
    · split <;> simp [backS_length ls n old s i]
    · exact backS_length ls n old s i
end
end K02

set_option Elab.async false
set_option linter.all false
set_option maxRecDepth 100000
set_option autoImplicit false
namespace K02
open PySem BH
/-- places outside W stay -/
def Fr (W : List Nat) (st st' : Mst) : Prop := ∀ a o, a ∉ W → st[a]? = some o → st'[a]? = some o
theorem Fr.refl (W : List Nat) (st : Mst) : Fr W st st := fun _ _ _ h => h
theorem Fr.app (W : List Nat) (st g : Mst) : Fr W st (st ++ g) := fun _ _ _ h => up h
theorem Fr.trans {W : List Nat} {st st' st'' : Mst} (h : Fr W st st') (h' : Fr W st' st'') : Fr W st st'' := fun a o n e => h' a o n (h a o n e)
theorem Fr.mono {W W' : List Nat} {st st' : Mst} (h : Fr W st st') (s : ∀ a, a ∉ W' → a ∉ W) : Fr W' st st' := fun a o n e => h a o (s a n) e
theorem Fr.put (p : Nat) (st : Mst) (o : MO) : Fr [p] st (st.set p o) := fun a o' n e => by
  rw [List.getElem?_set_ne (by simpa using Ne.symm (by simpa using n : a ≠ p))]; exact e
theorem Fr.l {p T : Nat} {st st' : Mst} (h : Fr [p] st st') : Fr [p, T] st st' := h.mono (fun a n e => n (by simp only [List.mem_singleton] at e; simp [e]))
theorem Fr.r {p T : Nat} {st st' : Mst} (h : Fr [T] st st') : Fr [p, T] st st' := h.mono (fun a n e => n (by simp only [List.mem_singleton] at e; simp [e]))
abbrev playF (B T : Nat) (s nn : List Int) (t d : Nat) : Mfs := [("book", .ref B), ("state", itup s), ("script", itup nn), ("taken", .int t), ("deeds", .int d), ("trail", .ref T)]
structure PSt (p B T : Nat) (k : Str) (ls : List Lay) (s nn : List Int) (t d : Nat) (tr : List MV) (st : Mst) : Prop where
  hp : st[p]? = some (.ins 1 (playF B T s nn t d))
  hB : st[B]? = some (bookO k ls)
  hT : st[T]? = some (.lst tr)
section
variable {p B T : Nat} {k : Str} {ls : List Lay} {s nn : List Int} {t d : Nat} {tr : List MV} {st : Mst}
theorem PSt.neB (P : PSt p B T k ls s nn t d tr st) : p ≠ B := fun e => by
  have h := P.hp
  rw [e, P.hB] at h
  cases h
theorem PSt.neT (P : PSt p B T k ls s nn t d tr st) : p ≠ T := fun e => by
  have h := P.hp
  rw [e, P.hT] at h
  cases h
theorem PSt.app (P : PSt p B T k ls s nn t d tr st) (g : Mst) : PSt p B T k ls s nn t d tr (st ++ g) := ⟨up P.hp, up P.hB, up P.hT⟩
theorem PSt.set (P : PSt p B T k ls s nn t d tr st) (s' : List Int) (t' d' : Nat) : PSt p B T k ls s' nn t' d' tr (st.set p (.ins 1 (playF B T s' nn t' d'))) :=
  ⟨by rw [List.getElem?_set_self (lt_of P.hp)], by rw [List.getElem?_set_ne P.neB]; exact P.hB, by rw [List.getElem?_set_ne P.neT]; exact P.hT⟩
theorem PSt.f_book (P : PSt p B T k ls s nn t d tr st) : getF [1] "book" (.ref p) st = .ok (.ref B) st := getF_ins P.hp (by simp) (by simp [List.lookup])
theorem PSt.f_state (P : PSt p B T k ls s nn t d tr st) : getF [1] "state" (.ref p) st = .ok (itup s) st := getF_ins P.hp (by simp) (by simp [List.lookup])
theorem PSt.f_script (P : PSt p B T k ls s nn t d tr st) : getF [1] "script" (.ref p) st = .ok (itup nn) st := getF_ins P.hp (by simp) (by simp [List.lookup])
theorem PSt.f_taken (P : PSt p B T k ls s nn t d tr st) : getF [1] "taken" (.ref p) st = .ok (.int t) st := getF_ins P.hp (by simp) (by simp [List.lookup])
theorem PSt.f_deeds (P : PSt p B T k ls s nn t d tr st) : getF [1] "deeds" (.ref p) st = .ok (.int d) st := getF_ins P.hp (by simp) (by simp [List.lookup])
theorem PSt.f_trail (P : PSt p B T k ls s nn t d tr st) : getF [1] "trail" (.ref p) st = .ok (.ref T) st := getF_ins P.hp (by simp) (by simp [List.lookup])
theorem PSt.p_state (P : PSt p B T k ls s nn t d tr st) (s' : List Int) : putFM [1] "state" (.ref p) (itup s') st = .ok () (st.set p (.ins 1 (playF B T s' nn t d))) := by
  rw [putFM_ins P.hp (by simp) (by simp)]
  simp [mputF]
theorem PSt.p_taken (P : PSt p B T k ls s nn t d tr st) (t' : Nat) : putFM [1] "taken" (.ref p) (.int t') st = .ok () (st.set p (.ins 1 (playF B T s nn t' d))) := by
  rw [putFM_ins P.hp (by simp) (by simp)]
  simp [mputF]
theorem PSt.p_deeds (P : PSt p B T k ls s nn t d tr st) (d' : Nat) : putFM [1] "deeds" (.ref p) (.int d') st = .ok () (st.set p (.ins 1 (playF B T s nn t d'))) := by
  rw [putFM_ins P.hp (by simp) (by simp)]
  simp [mputF]
theorem PSt.cls (P : PSt p B T k ls s nn t d tr st) {f : Str} (hf : (playF B T s nn t d).lookup f = none) : clsOf 1 f (.ref p) st = true := clsOf_ins P.hp hf
def num (nn : List Int) (t : Nat) : Int := nn[t]?.getD 0
theorem next_ok (P : PSt p B T k ls s nn t d tr st) : ∃ st', m_Play_next_number [.ref p] st = .ok (.int (num nn t)) st' ∧ PSt p B T k ls s nn (t + 1) d tr st' ∧ Fr [p] st st' := by
  refine ⟨_, ?_, P.set s (t + 1) d, .put _ _ _⟩
  have P' := P.set s (t + 1) d
  rw [m_Play_next_number, fnM1, b_Play_next_number]
  have h1 := P.p_taken (t + 1)
  have h2 := P'.f_taken
  simp only [Int.natCast_add, Int.cast_ofNat_Int] at h1 h2
  simp -implicitDefEqProofs [P.f_taken, h1, h2, P'.f_script]
  have e : ∀ st, gLen [itup nn] st = .ok (.int nn.length) st := fun st => by simp [itup]
  have e2 : ∀ st, gIx (itup nn) (.int t) st = match nn[t]? with | some x => .ok (.int x) st | none => .bad := fun st => by
    cases h : nn[t]? <;> simp [itup, h]
  simp -implicitDefEqProofs [e, e2]
  by_cases h : t < nn.length
  · rw [if_neg (by omega)]
    simp -implicitDefEqProofs [h2, P'.f_script, e2, h, num]
  · rw [if_pos (by omega)]
    simp -implicitDefEqProofs [h, num]
theorem PSt.setT (P : PSt p B T k ls s nn t d tr st) (tr' : List MV) : PSt p B T k ls s nn t d tr' (st.set T (.lst tr')) :=
  ⟨by rw [List.getElem?_set_ne (Ne.symm P.neT)]; exact P.hp, by
    rw [List.getElem?_set_ne (fun e => by have h := P.hT; rw [e, P.hB] at h; cases h)]; exact P.hB, by rw [List.getElem?_set_self (lt_of P.hT)]⟩
def trE (n d : Nat) (before : List Int) (ans : Int) (after : List Int) : MV := .tup [.int (n + 1), .int d, itup before, .int ans, itup after]
theorem gIn_varied (l : Lay) (st : Mst) : gIn false (.str (word l)) c_VARIED st = .ok (.bl (varied l)) st := by cases l <;> simp -implicitDefEqProofs [c_VARIED, word, varied]
theorem gIn_kept (l : Lay) (st : Mst) : gIn false (.str (word l)) c_KEPT st = .ok (.bl (isKept l)) st := by cases l <;> simp -implicitDefEqProofs [c_KEPT, word, isKept]
theorem take_it (s : List Int) (n : Nat) (st : Mst) : gSl (itup s) none (some (n : Int)) st = .ok (itup (s.take n)) st := by
  simp [itup, mcut_to, List.map_take]
def okL : Lay → Bool
  | .cell _ n => decide (0 < n) && decide (n < 4)
  | .setting _ n => decide (0 < n) && decide (n < 4)
  | .fail _ n => decide (0 < n) && decide (n < 1000)
  | .note _ tb => decide (0 < tb.length) && (decide (tb.length < 1000) && tb.all fun row => row.length == tb.length && row.all fun z => decide (z < tb.length))
  | .outside _ ar => decide (0 < ar.length) && (decide (ar.length < 1000) && ar.all fun w => decide (0 < w) && decide (w < 1000))
/-- the layers' counts are small and not none -/
def Good (ls : List Lay) : Prop := ls.length ≤ 5 ∧ ∀ l ∈ ls, okL l = true
theorem Good.at {ls : List Lay} (G : Good ls) {i : Nat} {l : Lay} (h : ls[i]? = some l) : (0 : Int) < (count l : Int) ∧ (count l : Int) < 1073741824 := by
  have := G.2 l (List.mem_of_getElem? h)
  cases l <;> simp [okL, count] at this ⊢ <;> omega
theorem Good.way {ls : List Lay} (G : Good ls) {i e w : Nat} {nm : Str} {ar : List Nat} (h : ls[i]? = some (.outside nm ar)) (he : ar[e]? = some w) : 0 < w ∧ w < 1000 := by
  have := G.2 _ (List.mem_of_getElem? h)
  simp only [okL, Bool.and_eq_true, List.all_eq_true, decide_eq_true_eq] at this
  exact this.2.2 w (List.mem_of_getElem? he)
theorem Good.cell {ls : List Lay} (G : Good ls) {i x y : Nat} {nm : Str} {tb : List (List Nat)} (h : ls[i]? = some (.note nm tb)) (hx : x < tb.length) (hy : y < tb.length) : ∃ row z, tb[x]? = some row ∧ row[y]? = some z ∧ z < tb.length := by
  have := G.2 _ (List.mem_of_getElem? h)
  simp only [okL, Bool.and_eq_true, List.all_eq_true, decide_eq_true_eq, beq_iff_eq] at this
  obtain ⟨row, hr⟩ := get_of hx
  have h2 := this.2.2 row (List.mem_of_getElem? hr)
  obtain ⟨z, hz⟩ := get_of (xs := row) (i := y) (by omega)
  exact ⟨row, z, hr, hz, h2.2 z (List.mem_of_getElem? hz)⟩
theorem ask_ok (P : PSt p B T k ls s nn t d tr st) (G : Good ls) (hs : s.length = ls.length) {n e w : Nat} {nm : Str} {ar : List Nat} (hn : ls[n]? = some (.outside nm ar)) (he : ar[e]? = some w) (htr : tr.length < 16777216) :
    Post (m_Play_ask [.ref p, .int (n + 1), .int e] st) fun v st' => v = .int (num nn t % (w : Int)) ∧ Fr [p, T] st st' ∧
      PSt p B T k ls (askS ls n s (num nn t / (w : Int))).1 nn (t + 1) d (tr ++ [trE n e (keptS ls s n) (num nn t % (w : Int)) ((askS ls n s (num nn t / (w : Int))).1.take n)]) st' := by
  have hnl : n < ls.length := (List.getElem?_eq_some_iff.mp hn).1
  have hl5 := G.1
  have hw := G.way hn he
  rw [m_Play_ask, fnM3, b_Play_ask]
  obtain ⟨g, h1⟩ := kept_ok (st := st) P.hB hs (Nat.le_of_lt hnl) G.1
  obtain ⟨st2, h2, P2, F2⟩ := next_ok (P.app g)
  have c2 := (P.app g).cls (f := "next_number") (by simp [List.lookup])
  have h3 := ways_at P2.hB hn he
  have c3 := clsB P2.hB (f := "ways_at") (by simp [List.lookup])
  have h4 := gMod_int (i := num nn t) (j := (w : Int)) (st := st2) (by omega)
  have h5 := gDiv_int (i := num nn t) (j := (w : Int)) (st := st2) (by omega)
  have r := rngOf2_nat (i := 1) (j := (n : Int) + 1) (n := n) (st := st2) (by omega) (by omega) (by omega)
  simp -implicitDefEqProofs [P.f_book, P.f_state, h1, h2, c2, P2.f_book, h3, c3, h4, h5, r]
  refine .finB (.bind (.range (fun i env st' => (∃ o, env = [some (.ref p), some (.int (n + 1)), some (.int e), some (itup (keptS ls s n)), some (.int (askS ls i s (num nn t / (w : Int))).2), some (.int w), some (.int (num nn t % (w : Int))), o]) ∧ Fr [p] st st' ∧
    PSt p B T k ls (askS ls i s (num nn t / (w : Int))).1 nn (t + 1) d tr st') ⟨⟨_, rfl⟩, (Fr.app _ _ _).trans F2, P2⟩ rfl ?_ ?_))
  · rintro i env st' hi ⟨⟨o, rfl⟩, Fi, Pi⟩
    obtain ⟨l, h⟩ := get_of (xs := ls) (i := i) (by omega)
    have ei : (1 : Int) + i = i + 1 := by omega
    refine ⟨[some (.ref p), some (.int (n + 1)), some (.int e), some (itup (keptS ls s n)), some (.int (askS ls i s (num nn t / (w : Int))).2), some (.int w), some (.int (num nn t % (w : Int))), some (.int (i + 1))], st', by rw [ei]; rfl, ?_⟩
    have hwd := word_at Pi.hB h
    have hct := count_at Pi.hB h
    have cw := clsB Pi.hB (f := "word_at") (by simp [List.lookup])
    have cc := clsB Pi.hB (f := "count_at") (by simp [List.lookup])
    have hl := askS_length ls s (num nn t / (w : Int)) i
    have ch : ∀ x, m_changed [itup (askS ls i s (num nn t / (w : Int))).1, .int (i + 1), .int x] st' = _ := fun x => changed_ok (x := x) (by omega) (by have := G.1; omega)
    have m1 := gMod_int (i := (askS ls i s (num nn t / (w : Int))).2) (j := (count l : Int)) (st := st') (G.at h).1
    by_cases hv : varied l
    · have Pj := Pi.set ((askS ls i s (num nn t / (w : Int))).1.set i ((askS ls i s (num nn t / (w : Int))).2 % (count l : Int))) (t + 1) d
      have m2 := gDiv_int (i := (askS ls i s (num nn t / (w : Int))).2) (j := (count l : Int)) (h := G.at h) (st := (st'.set p (.ins 1 (playF B T ((askS ls i s (num nn t / (w : Int))).1.set i ((askS ls i s (num nn t / (w : Int))).2 % (count l : Int))) nn (t + 1) d))))
      have cj := clsB Pj.hB (f := "count_at") (by simp [List.lookup])
      have hj := count_at Pj.hB h
      simp -implicitDefEqProofs [Pi.f_book, Pi.f_state, hwd, hct, cw, cc, gIn_varied, hv, ch, m1, Pi.p_state, Pj.f_book, cj, hj, m2, askS, h]
      exact ⟨Fi.trans (.put _ _ _), Pj⟩
    · have Pj := Pi.set ((askS ls i s (num nn t / (w : Int))).1.set i 0) (t + 1) d
      simp -implicitDefEqProofs [Pi.f_book, Pi.f_state, hwd, hct, cw, cc, gIn_varied, hv, ch, Pi.p_state, askS, h]
      exact ⟨Fi.trans (.put _ _ _), Pj⟩
  · rintro env st' ⟨⟨o, rfl⟩, Fi, Pi⟩
    have ht := tyM_lst Pi.hT
    have ha := fun y => gAppend_lst (y := y) Pi.hT htr
    simp -implicitDefEqProofs [Pi.f_trail, ht, Pi.f_state, take_it, ha]
    refine ⟨?_, Pi.setT _⟩
    exact Fi.l.trans (Fr.put T _ _).r
/-! ### deeds -/
inductive Deed where
  | choose (i : Nat)
  | draw (i a b : Nat)
  | get (n : Nat)
  | look (n : Nat)
  | put (n x : Nat)
  | note (n m : Nat)
  | ask (n e : Nat)
def encD : Deed → MV
  | .choose i => .tup [.str "choose", .int i]
  | .draw i a b => .tup [.str "draw", .int i, .int a, .int b]
  | .get n => .tup [.str "get", .int (n + 1)]
  | .look n => .tup [.str "look", .int (n + 1)]
  | .put n x => .tup [.str "put", .int (n + 1), .int x]
  | .note n m => .tup [.str "note", .int (n + 1), .int m]
  | .ask n e => .tup [.str "ask", .int (n + 1), .int e]
def okD (ls : List Lay) : Deed → Prop
  | .choose _ => True
  | .draw _ _ b => 0 < b
  | .get n => n < ls.length
  | .look n => n < ls.length
  | .put n _ => ∃ nm c, ls[n]? = some (Lay.cell nm c)
  | .note n m => ∃ nm tb, ls[n]? = some (Lay.note nm tb) ∧ m < tb.length
  | .ask n e => ∃ nm ar, ls[n]? = some (Lay.outside nm ar) ∧ e < ar.length
def Val (ls : List Lay) (s : List Int) : Prop := s.length = ls.length ∧ ∀ (i : Nat) (nm : Str) (tb : List (List Nat)), ls[i]? = some (Lay.note nm tb) → ∃ x : Nat, s[i]? = some (x : Int) ∧ x < tb.length
def wayS (ls : List Lay) (n e : Nat) : Nat := match ls[n]? with
  | some (.outside _ ar) => ar[e]?.getD 1
  | _ => 1
def prodS (ls : List Lay) (s : List Int) (n m : Nat) : Nat := match ls[n]? with
  | some (.note _ tb) => ((tb[(s[n]?.getD 0).toNat]?.getD [])[m]?).getD 0
  | _ => 0
def ansS (ls : List Lay) (s : List Int) (q : Int) : Deed → Int
  | .choose _ => q % 2
  | .draw _ a b => if q % (b : Int) < (a : Int) then 0 else 1
  | .get n => s[n]?.getD 0
  | .look n => s[n]?.getD 0
  | .ask n e => q % (wayS ls n e : Int)
  | _ => 0
def nxtS (ls : List Lay) (s : List Int) (q : Int) : Deed → List Int
  | .put n x => s.set n x
  | .note n m => s.set n (prodS ls s n m)
  | .ask n e => (askS ls n s (q / (wayS ls n e : Int))).1
  | _ => s
def trlS (ls : List Lay) (s : List Int) (q : Int) : Deed → List MV
  | .ask n e => [trE n e (keptS ls s n) (q % (wayS ls n e : Int)) ((askS ls n s (q / (wayS ls n e : Int))).1.take n)]
  | _ => []
def asks : Deed → Bool
  | .choose _ => true
  | .draw _ _ _ => true
  | .ask _ _ => true
  | _ => false
theorem answer_ok (P : PSt p B T k ls s nn t d tr st) (G : Good ls) (V : Val ls s) (D : Deed) (hD : okD ls D) (htr : tr.length < 16777216) :
    Post (m_Play_answer [.ref p, encD D] st) fun v st' => v = .int (ansS ls s (num nn t) D) ∧ Fr [p, T] st st' ∧
      PSt p B T k ls (nxtS ls s (num nn t) D) nn (if asks D then t + 1 else t) (d + 1) (tr ++ trlS ls s (num nn t) D) st' := by
  rw [m_Play_answer, fnM2, b_Play_answer]
  have P' := P.set s t (d + 1)
  have F' := Fr.put p st (.ins 1 (playF B T s nn t (d + 1)))
  have h1 := P.p_deeds (d + 1)
  simp only [Int.natCast_add, Int.cast_ofNat_Int] at h1
  obtain ⟨st2, e2⟩ : ∃ x, x = st.set p (.ins 1 (playF B T s nn t (d + 1))) := ⟨_, rfl⟩
  rw [← e2] at P' F' h1
  obtain ⟨st3, h2, P2, F2⟩ := next_ok P'
  have c2 := P'.cls (f := "next_number") (by simp [List.lookup])
  have hl5 := G.1
  have hsl := V.1
  cases D with
  | choose i =>
    have hm := gMod_int (i := num nn t) (j := 2) (st := st3) (by omega)
    simp -implicitDefEqProofs [P.f_deeds, h1, encD, h2, c2, hm, ansS, asks, trlS, nxtS]
    exact ⟨(F'.trans F2).l, P2⟩
  | draw i a b =>
    have hm := gMod_int (i := num nn t) (j := b) (st := st3) (by simpa [okD] using hD)
    simp -implicitDefEqProofs [P.f_deeds, h1, encD, h2, c2, hm, ansS, asks, trlS, nxtS]
    by_cases hc : num nn t % (b : Int) < (a : Int)
    · simp -implicitDefEqProofs [hc]
      exact ⟨(F'.trans F2).l, P2⟩
    · simp -implicitDefEqProofs [hc]
      exact ⟨(F'.trans F2).l, P2⟩
  | get n =>
    obtain ⟨x, hx⟩ := get_of (xs := s) (i := n) (by rw [hsl]; exact hD)
    have e : gIx (itup s) (.int n) st2 = .ok (.int x) st2 := by simp [itup, hx]
    simp -implicitDefEqProofs [P.f_deeds, h1, encD, P'.f_state, e, hx, ansS, asks, trlS, nxtS]
    exact ⟨F'.l, P'⟩
  | look n =>
    obtain ⟨x, hx⟩ := get_of (xs := s) (i := n) (by rw [hsl]; exact hD)
    have e : gIx (itup s) (.int n) st2 = .ok (.int x) st2 := by simp [itup, hx]
    simp -implicitDefEqProofs [P.f_deeds, h1, encD, P'.f_state, e, hx, ansS, asks, trlS, nxtS]
    exact ⟨F'.l, P'⟩
  | put n x =>
    obtain ⟨nm, c, hn⟩ := hD
    have hnl : n < ls.length := (List.getElem?_eq_some_iff.mp hn).1
    have ch := changed_ok (st := st2) (s := s) (n := n) (x := x) (by omega) (by omega)
    simp -implicitDefEqProofs [P.f_deeds, h1, encD, P'.f_state, ch, P'.p_state, ansS, asks, trlS, nxtS]
    exact ⟨(F'.trans (.put _ _ _)).l, P'.set _ _ _⟩
  | note n m =>
    obtain ⟨nm, tb, hn, hm⟩ := hD
    obtain ⟨x, hx, hxl⟩ := V.2 n nm tb hn
    obtain ⟨row, z, hr, hz, hzl⟩ := G.cell hn hxl hm
    have ch := noted_ok P'.hB hn hx hr hz (by omega)
    simp -implicitDefEqProofs [P.f_deeds, h1, encD, P'.f_state, P'.f_book, ch, P'.p_state, ansS, asks, trlS, nxtS, prodS, hn, hx, hr, hz]
    exact ⟨(F'.trans (.put _ _ _)).l, P'.set _ _ _⟩
  | ask n e =>
    obtain ⟨nm, ar, hn, he⟩ := hD
    obtain ⟨w, hw⟩ := get_of he
    have c3 := P'.cls (f := "ask") (by simp [List.lookup])
    obtain ⟨v, st4, h4, rfl, F4, P4⟩ := ask_ok P' G hsl hn hw htr
    have ew : wayS ls n e = w := by simp [wayS, hn, hw]
    simp -implicitDefEqProofs [P.f_deeds, h1, encD, c3, h4, ansS, asks, trlS, nxtS, ew]
    exact ⟨F'.l.trans F4, P4⟩
theorem restore_ok (P : PSt p B T k ls s nn t d tr st) (G : Good ls) (hs : s.length = ls.length) {old : List Int} (ho : old.length = ls.length) {n : Nat} (hn : n < ls.length) :
    Post (m_Play_restore [.ref p, .int (n + 1), itup old] st) fun v st' => Fr [p] st st' ∧ PSt p B T k ls (backS ls (n + 1) old (ls.length - (n + 1)) s) nn t d tr st' := by
  rw [m_Play_restore, fnM3, b_Play_restore]
  have r := rngOf2_nat (i := (n : Int) + 1 + 1) (j := (ls.length : Int) + 1) (n := ls.length - (n + 1)) (st := st) (by omega) (by omega) (by have := G.1; omega)
  simp -implicitDefEqProofs [P.f_book, f_size P.hB, r]
  refine .finB (.range (fun i env st' => (∃ o, env = [some (.ref p), some (.int (n + 1)), some (itup old), o]) ∧ Fr [p] st st' ∧ PSt p B T k ls (backS ls (n + 1) old i s) nn t d tr st') ⟨⟨_, rfl⟩, .refl _ _, P⟩ rfl ?_ ?_)
  · rintro i env st' hi ⟨⟨o, rfl⟩, Fi, Pi⟩
    obtain ⟨l, h⟩ := get_of (xs := ls) (i := n + 1 + i) (by omega)
    obtain ⟨x, hx⟩ := get_of (xs := old) (i := n + 1 + i) (by omega)
    have ei : (n : Int) + 1 + 1 + i = ((n + 1 + i : Nat) : Int) + 1 := by omega
    refine ⟨[some (.ref p), some (.int (n + 1)), some (itup old), some (.int (((n + 1 + i : Nat) : Int) + 1))], st', by rw [ei]; rfl, ?_⟩
    have hwd := word_at Pi.hB h
    have cw := clsB Pi.hB (f := "word_at") (by simp [List.lookup])
    have hl := backS_length ls (n + 1) old s i
    have ch := changed_ok (st := st') (s := backS ls (n + 1) old i s) (n := n + 1 + i) (x := x) (by omega) (by have := G.1; omega)
    have e : gIx (itup old) (.int ((n + 1 + i : Nat) : Int)) st' = .ok (.int x) st' := by
      rw [itup, gIx_tup_ap, matI_cast]
      simp [hx]
    by_cases hv : isKept l
    · simp -implicitDefEqProofs only [Int.natCast_add, Int.cast_ofNat_Int] at hwd ch e
      simp -implicitDefEqProofs [Pi.f_book, Pi.f_state, hwd, cw, gIn_kept, hv, ch, e, Pi.p_state, backS, h, hx]
      exact ⟨Fi.trans (.put _ _ _), Pi.set _ _ _⟩
    · simp -implicitDefEqProofs only [Int.natCast_add, Int.cast_ofNat_Int] at hwd ch e
      simp -implicitDefEqProofs [Pi.f_book, hwd, cw, gIn_kept, hv, backS, h, hx]
      exact ⟨Fi, Pi⟩
  · rintro env st' ⟨⟨o, rfl⟩, Fi, Pi⟩
    simp -implicitDefEqProofs
    exact ⟨Fi, Pi⟩
end
end K02

set_option Elab.async false
set_option linter.all false
set_option maxRecDepth 100000
set_option autoImplicit false
namespace K02
open PySem BH
theorem Fr.new {A : Nat} {st st' : Mst} (h : Fr [A] st st') (l : st.length ≤ A) (W : List Nat) : Fr W st st' := fun a o _ e => h a o (by have := lt_of e; simp; omega) e
section
variable {p B T : Nat} {k : Str} {ls : List Lay} {s nn : List Int} {t d : Nat} {tr : List MV} {st : Mst}
theorem outcome_ret (P : PSt p B T k ls s nn t d tr st) (G : Good ls) (hs : s.length = ls.length) (text : String) : ∃ g, m_Play_outcome [.ref p, .tup [.str "ret", .str text]] st = .ok (.tup [.tup tr, .tup [.str "done", .str text, itup (keptS ls s ls.length)]]) (st ++ g) := by
  rw [m_Play_outcome, fnM2, b_Play_outcome]
  obtain ⟨g, h1⟩ := kept_ok (st := st) P.hB hs (Nat.le_refl _) G.1
  have h2 := gTuple_lst (P.app g).hT
  simp -implicitDefEqProofs [P.f_book, P.f_state, f_size P.hB, h1, (P.app g).f_trail, h2]
theorem outcome_fail (P : PSt p B T k ls s nn t d tr st) (G : Good ls) (hs : s.length = ls.length) {n : Nat} (hn : n ≤ ls.length) (kind : Int) : ∃ g, m_Play_outcome [.ref p, .tup [.str "fail", .int (n + 1), .int kind]] st = .ok (.tup [.tup tr, .tup [.str "fail", .int (n + 1), .int kind, itup (keptS ls s n)]]) (st ++ g) := by
  rw [m_Play_outcome, fnM2, b_Play_outcome]
  obtain ⟨g, h1⟩ := kept_ok (st := st) P.hB hs hn G.1
  have h2 := gTuple_lst (P.app g).hT
  simp -implicitDefEqProofs [P.f_book, P.f_state, h1, (P.app g).f_trail, h2]
end
/-! ### the law's side -/
section
variable {A T : Nat} {ls : List Lay} {s : List Int} {tr : List MV} {st : Mst}
theorem asked_ok (hA : st[A]? = some (.lst (s.map .int))) (hT : st[T]? = some (.lst tr)) (G : Good ls) (hs : s.length = ls.length) {n e w : Nat} {nm : Str} {ar : List Nat} (hn : ls[n]? = some (.outside nm ar)) (he : ar[e]? = some w) (q : Int) (htr : tr.length < 16777216) :
    Post (m_law_asked [.tup (ls.map enc), .ref A, .tup [.str "ask", .int (n + 1), .int e], .int q, .ref T] st) fun v st' => ∃ A', v = .tup [.int (q % (w : Int)), .ref A'] ∧
      st'[A']? = some (.lst ((askS ls n s (q / (w : Int))).1.map .int)) ∧ st.length ≤ A' ∧ Fr [T] st st' ∧
      st'[T]? = some (.lst (tr ++ [trE n e (keptS ls s n) (q % (w : Int)) ((askS ls n s (q / (w : Int))).1.take n)])) := by
  have hnl : n < ls.length := (List.getElem?_eq_some_iff.mp hn).1
  have hl5 := G.1
  have hw := G.way hn he
  rw [m_law_asked, fnM5, b_law_asked]
  obtain ⟨g, h1⟩ := lawkept_ok (st := st) (itemsOf_lst hA) hs (Nat.le_of_lt hnl) hl5
  have h2 := gDiv_int (i := q) (j := (w : Int)) (st := st ++ g) (by omega)
  have h3 := gList_lst (up hA (g := g)) (by simp; omega)
  obtain ⟨st2, e2⟩ : ∃ x, x = (st ++ g) ++ [MO.lst (s.map .int)] := ⟨_, rfl⟩
  obtain ⟨A', eA⟩ : ∃ x, x = (st ++ g).length := ⟨_, rfl⟩
  have hA2 : st2[A']? = some (.lst (s.map .int)) := by rw [e2, eA]; exact last_snoc
  have F2 : Fr [A'] st st2 := by rw [e2]; exact (Fr.app _ _ _).trans (.app _ _ _)
  have hT2 : st2[T]? = some (.lst tr) := by rw [e2]; exact up (up hT)
  have hAA : st.length ≤ A' := by rw [eA]; simp
  have hTA : T ≠ A' := by have := lt_of hT; omega
  rw [← eA, ← e2] at h3
  have r := rngOf1_nat (j := (n : Int)) (n := n) (st := st2) rfl (by omega)
  have en : enc (.outside nm ar) = .tup [.str "outside", .str nm, nats ar] := rfl
  have h4 : ∀ st, gIx (nats ar) (.int e) st = .ok (.int w) st := fun st => by simp [nats, he]
  simp -implicitDefEqProofs [h1, hn, en, h4, h2, h3, r]
  refine .finB (.bind (.range (fun i env st' => (∃ o, env = [some (.tup (ls.map enc)), some (.ref A), some (.tup [.str "ask", .int (n + 1), .int e]), some (.int q), some (.ref T), some (itup (keptS ls s n)), some (.int w), some (.int (askS ls i s (q / (w : Int))).2), some (.ref A'), o]) ∧
    Fr [A'] st st' ∧ st'[A']? = some (.lst ((askS ls i s (q / (w : Int))).1.map .int)) ∧ st'[T]? = some (.lst tr)) ⟨⟨_, rfl⟩, F2, hA2, hT2⟩ rfl ?_ ?_))
  · rintro i env st' hi ⟨⟨o, rfl⟩, Fi, hAi, hTi⟩
    obtain ⟨l, h⟩ := get_of (xs := ls) (i := i) (by omega)
    refine ⟨_, _, rfl, ?_⟩
    have hl := askS_length ls s (q / (w : Int)) i
    have s1 := fun x => gSetIx_lst (v := .int x) hAi (i := (i : Int)) rfl (by simp; omega)
    have hA3 : (st'.set A' (.lst (((askS ls i s (q / (w : Int))).1.map .int).set i (.int 0))))[A']? = some (.lst (((askS ls i s (q / (w : Int))).1.map .int).set i (.int 0))) := by
      rw [List.getElem?_set_self (lt_of hAi)]
    have s2 := fun x => gSetIx_lst (v := .int x) hA3 (i := (i : Int)) rfl (by simp; omega)
    have m1 := fun st => gMod_int (i := (askS ls i s (q / (w : Int))).2) (j := (count l : Int)) (st := st) (G.at h).1
    have m2 := fun st => gDiv_int (i := (askS ls i s (q / (w : Int))).2) (j := (count l : Int)) (st := st) (G.at h)
    have el : ∀ st, gIx (.tup (ls.map enc)) (.int i) st = .ok (enc l) st := fun st => by simp [h]
    have ew : ∀ st, gIx (enc l) (.int 0) st = .ok (.str (word l)) st := fun st => by simp [enc]
    by_cases hv : varied l
    · have ec : ∀ st, gIx (enc l) (.int 2) st = .ok (.int (count l)) st := fun st => by cases l <;> simp [enc, varied, third, count] at hv ⊢
      have hv' := hv
      rw [varied_w, Bool.or_eq_true] at hv'
      simp only [beq_iff_eq] at hv'
      rcases hv' with hv' | hv'
      · simp -implicitDefEqProofs [s1, s2, el, ew, ec, hv', m1, m2, askS, h, hv, List.getElem?_set_self (lt_of hAi), List.getElem?_set_ne (Ne.symm hTA)]
        exact ⟨Fi.trans (.put _ _ _), hTi⟩
      · simp -implicitDefEqProofs [s1, s2, el, ew, ec, hv', m1, m2, askS, h, hv, List.getElem?_set_self (lt_of hAi), List.getElem?_set_ne (Ne.symm hTA)]
        exact ⟨Fi.trans (.put _ _ _), hTi⟩
    · have hv' := hv
      rw [varied_w, Bool.or_eq_true, not_or] at hv'
      simp only [beq_iff_eq] at hv'
      simp -implicitDefEqProofs [s1, el, ew, hv'.1, hv'.2, askS, h, hv, List.getElem?_set_self (lt_of hAi), List.getElem?_set_ne (Ne.symm hTA)]
      exact ⟨Fi.trans (.put _ _ _), hTi⟩
  · rintro env st' ⟨⟨o, rfl⟩, Fi, hAi, hTi⟩
    have h5 := fun st => gMod_int (i := q) (j := (w : Int)) (st := st) (by omega)
    have h6 := gSl_lst_ap _ _ hAi none (some (n : Int))
    rw [mcut_to] at h6
    have h7 := gTuple_lst (last_snoc (st := st') (o := .lst (List.take n ((askS ls n s (q / (w : Int))).1.map MV.int))))
    have ht := tyM_lst hTi
    have ha := fun y => gAppend_lst (y := y) (up hTi (g := [.lst (List.take n ((askS ls n s (q / (w : Int))).1.map MV.int))])) htr
    simp -implicitDefEqProofs [h5, h6, h7, ht, ha]
    refine ⟨?_, hAA, ?_, ?_⟩
    · rw [List.getElem?_set_ne hTA]; exact up hAi
    · exact (Fi.new hAA _).trans ((Fr.app _ _ _).trans (.put _ _ _))
    · rw [List.getElem?_set_self (lt_of (up hTi)), trE, itup, itup, List.map_take]
theorem step_ok (hA : st[A]? = some (.lst (s.map .int))) (hT : st[T]? = some (.lst tr)) (G : Good ls) (V : Val ls s) (D : Deed) (hD : okD ls D) (q : Int) (htr : tr.length < 16777216) :
    Post (m_law_step [.tup (ls.map enc), .ref A, encD D, .int q, .ref T] st) fun v st' => ∃ A', v = .tup [.int (ansS ls s q D), .ref A'] ∧
      st'[A']? = some (.lst ((nxtS ls s q D).map .int)) ∧ st.length ≤ A' ∧ Fr [T] st st' ∧ st'[T]? = some (.lst (tr ++ trlS ls s q D)) := by
  rw [m_law_step, fnM5, b_law_step]
  have hl5 := G.1
  have hs := V.1
  have h3 := gList_lst hA (by simp; omega)
  have hA2 : (st ++ [MO.lst (s.map .int)])[st.length]? = some (.lst (s.map .int)) := last_snoc
  have F2 : Fr [T] st (st ++ [MO.lst (s.map .int)]) := .app _ _ _
  have hT2 := up hT (g := [MO.lst (s.map .int)])
  cases D with
  | choose i =>
    have hm := fun st => gMod_int (i := q) (j := 2) (st := st) (by omega)
    simp -implicitDefEqProofs [encD, hm, h3, ansS, trlS, nxtS]
    exact ⟨F2, hT2⟩
  | draw i a b =>
    have hm := fun st => gMod_int (i := q) (j := b) (st := st) (by simpa [okD] using hD)
    simp -implicitDefEqProofs [encD, hm, h3, ansS, trlS, nxtS]
    by_cases hc : q % (b : Int) < (a : Int)
    · have hc' : ¬ (a : Int) ≤ q % (b : Int) := by omega
      simp -implicitDefEqProofs [hc, hc']
      exact ⟨F2, hT2⟩
    · have hc' : (a : Int) ≤ q % (b : Int) := by omega
      simp -implicitDefEqProofs [hc, hc']
      exact ⟨F2, hT2⟩
  | get n =>
    obtain ⟨x, hx⟩ := get_of (xs := s) (i := n) (by rw [hs]; exact hD)
    have e : gIx (.ref A) (.int n) (st ++ [MO.lst (s.map .int)]) = .ok (.int x) (st ++ [MO.lst (s.map .int)]) := gIx_lst (up hA) rfl (by simp [hx])
    simp -implicitDefEqProofs [encD, h3, e, hx, ansS, trlS, nxtS]
    exact ⟨F2, hT2⟩
  | look n =>
    obtain ⟨x, hx⟩ := get_of (xs := s) (i := n) (by rw [hs]; exact hD)
    have e : gIx (.ref A) (.int n) (st ++ [MO.lst (s.map .int)]) = .ok (.int x) (st ++ [MO.lst (s.map .int)]) := gIx_lst (up hA) rfl (by simp [hx])
    simp -implicitDefEqProofs [encD, h3, e, hx, ansS, trlS, nxtS]
    exact ⟨F2, hT2⟩
  | put n x =>
    obtain ⟨nm, c, hn⟩ := hD
    have hnl : n < ls.length := (List.getElem?_eq_some_iff.mp hn).1
    have s1 := gSetIx_lst (v := .int x) hA2 (i := (n : Int)) rfl (by simp; omega)
    have hTA : T ≠ st.length := by have := lt_of hT; omega
    simp -implicitDefEqProofs [encD, h3, s1, ansS, trlS, nxtS, List.map_set]
    exact ⟨.app _ _ _, up hT⟩
  | note n m =>
    obtain ⟨nm, tb, hn, hm⟩ := hD
    obtain ⟨x, hx, hxl⟩ := V.2 n nm tb hn
    obtain ⟨row, z, hr, hz, hzl⟩ := G.cell hn hxl hm
    have hnl : n < ls.length := (List.getElem?_eq_some_iff.mp hn).1
    have e : gIx (.ref A) (.int n) (st ++ [MO.lst (s.map .int)]) = .ok (.int x) (st ++ [MO.lst (s.map .int)]) := gIx_lst (up hA) rfl (by simp [hx])
    have s1 := gSetIx_lst (v := .int z) hA2 (i := (n : Int)) rfl (by simp; omega)
    have e2 : ∀ st, gIx (nats row) (.int m) st = .ok (.int z) st := fun st => by simp [nats, hz]
    simp -implicitDefEqProofs [encD, h3, enc, third, hn, e, hr, e2, s1, ansS, trlS, nxtS, prodS, hx, hz, List.map_set]
    exact ⟨.app _ _ _, up hT⟩
  | ask n e =>
    obtain ⟨nm, ar, hn, he⟩ := hD
    obtain ⟨w, hw⟩ := get_of he
    obtain ⟨v, st4, h4, A', rfl, h5, h6, h7, h8⟩ := asked_ok hA hT G hs hn hw q htr
    have ew : wayS ls n e = w := by simp [wayS, hn, hw]
    simp -implicitDefEqProofs [encD, h4, ansS, trlS, nxtS, ew]
    exact ⟨h5, h6, h7, h8⟩
theorem back_ok {Od : Nat} {old : List Int} (hA : st[A]? = some (.lst (s.map .int))) (hO : st[Od]? = some (.lst (old.map .int))) (G : Good ls) (hs : s.length = ls.length) (ho : old.length = ls.length) {n : Nat} (hn : n < ls.length) :
    Post (m_law_back [.tup (ls.map enc), .ref A, .int (n + 1), .ref Od] st) fun v st' => ∃ A', v = .ref A' ∧ st'[A']? = some (.lst ((backS ls (n + 1) old (ls.length - (n + 1)) s).map .int)) ∧ st.length ≤ A' ∧ ∀ W, Fr W st st' := by
  rw [m_law_back, fnM4, b_law_back]
  have hl5 := G.1
  have h3 := gList_lst hA (by simp; omega)
  obtain ⟨st2, e2⟩ : ∃ x, x = st ++ [MO.lst (s.map .int)] := ⟨_, rfl⟩
  obtain ⟨A', eA⟩ : ∃ x, x = st.length := ⟨_, rfl⟩
  have hA2 : st2[A']? = some (.lst (s.map .int)) := by rw [e2, eA]; exact last_snoc
  have F2 : Fr [A'] st st2 := by rw [e2]; exact .app _ _ _
  have hAA : st.length ≤ A' := by omega
  rw [← eA, ← e2] at h3
  have r := rngOf2_nat (i := (n : Int) + 1) (j := (ls.length : Int)) (n := ls.length - (n + 1)) (st := st2) (by omega) (by omega) (by omega)
  simp -implicitDefEqProofs [h3, r]
  refine .finB (.bind (.range (fun i env st' => (∃ o, env = [some (.tup (ls.map enc)), some (.ref A), some (.int (n + 1)), some (.ref Od), some (.ref A'), o]) ∧
    Fr [A'] st st' ∧ st'[A']? = some (.lst ((backS ls (n + 1) old i s).map .int))) ⟨⟨_, rfl⟩, F2, hA2⟩ rfl ?_ ?_))
  · rintro i env st' hi ⟨⟨o, rfl⟩, Fi, hAi⟩
    obtain ⟨l, h⟩ := get_of (xs := ls) (i := n + 1 + i) (by omega)
    obtain ⟨x, hx⟩ := get_of (xs := old) (i := n + 1 + i) (by omega)
    have ei : (n : Int) + 1 + i = ((n + 1 + i : Nat) : Int) := by omega
    obtain ⟨j, ej⟩ : ∃ j, j = n + 1 + i := ⟨_, rfl⟩
    have hb : backS ls (n + 1) old (i + 1) s = if isKept l then (backS ls (n + 1) old i s).set j x else backS ls (n + 1) old i s := by simp only [backS, h, hx, ej]
    rw [← ej] at h hx
    refine ⟨[some (.tup (ls.map enc)), some (.ref A), some (.int (n + 1)), some (.ref Od), some (.ref A'), some (.int (j : Nat))], st', by rw [ei, ej]; rfl, ?_⟩
    have hl := backS_length ls (n + 1) old s i
    have s1 := gSetIx_lst (v := .int x) hAi (i := (j : Int)) rfl (by simp; omega)
    have hOi := (Fi.new hAA [A']) Od _ (by have := lt_of hO; simp; omega) hO
    have eo := gIx_lst hOi (i := (j : Int)) (v := .int x) rfl (by simp [hx])
    have el : ∀ st, gIx (.tup (ls.map enc)) (.int j) st = .ok (enc l) st := fun st => by simp [h]
    have ew : ∀ st, gIx (enc l) (.int 0) st = .ok (.str (word l)) st := fun st => by simp [enc]
    by_cases hv : isKept l
    · have hv' := hv
      rw [isKept_w, Bool.or_eq_true] at hv'
      simp only [beq_iff_eq] at hv'
      rcases hv' with hv' | hv'
      · simp -implicitDefEqProofs [s1, eo, el, ew, hv', hb, hv, List.getElem?_set_self (lt_of hAi), List.map_set]
        exact Fi.trans (.put _ _ _)
      · simp -implicitDefEqProofs [s1, eo, el, ew, hv', hb, hv, List.getElem?_set_self (lt_of hAi), List.map_set]
        exact Fi.trans (.put _ _ _)
    · have hv' := hv
      rw [isKept_w, Bool.or_eq_true, not_or] at hv'
      simp only [beq_iff_eq] at hv'
      simp -implicitDefEqProofs [el, ew, hv'.1, hv'.2, hb, hv]
      exact ⟨Fi, hAi⟩
  · rintro env st' ⟨⟨o, rfl⟩, Fi, hAi⟩
    simp -implicitDefEqProofs
    exact ⟨hAi, hAA, fun W => Fi.new hAA W⟩
end
end K02

set_option Elab.async false
set_option linter.all false
set_option maxRecDepth 100000
set_option autoImplicit false
namespace K02
open PySem BH
def optS (ls : List Lay) (n : Nat) (s : List Int) (i : Nat) : List Int := if n ≤ i then [s[i]?.getD 0] else match ls[i]? with
  | some l => if varied l then (List.range (count l)).map fun (j : Nat) => (j : Int) else [0]
  | none => [0]
def startsS (ls : List Lay) (n : Nat) (s : List Int) : Nat → List (List Int)
  | 0 => [[]]
  | i + 1 => (startsS ls n s i).flatMap fun f => (optS ls n s i).map fun o => f ++ [o]
theorem opt_len {ls : List Lay} (G : Good ls) (n : Nat) (s : List Int) (i : Nat) : 0 < (optS ls n s i).length ∧ (optS ls n s i).length ≤ 3 := by
  unfold optS
  split
  · simp
  · split
    · rename_i l h
      have := G.2 l (List.mem_of_getElem? h)
      split
      · rename_i hv
        cases l <;> simp [varied, okL, count] at hv this ⊢ <;> omega
      · simp
    · simp
theorem flat_len {α γ : Type} (f : α → List γ) (c : Nat) : ∀ xs : List α, (∀ x, (f x).length = c) → (xs.flatMap f).length = xs.length * c
  | [], _ => by simp
  | x :: xs, h => by rw [List.flatMap_cons, List.length_append, h, flat_len f c xs h, List.length_cons, Nat.succ_mul, Nat.add_comm]
theorem starts_len_step (ls : List Lay) (n : Nat) (s : List Int) (i : Nat) : (startsS ls n s (i + 1)).length = (startsS ls n s i).length * (optS ls n s i).length := flat_len _ _ _ (fun x => by simp)
theorem starts_len {ls : List Lay} (G : Good ls) (n : Nat) (s : List Int) : ∀ i, 0 < (startsS ls n s i).length ∧ (startsS ls n s i).length ≤ 3 ^ i
  | 0 => by simp [startsS]
  | i + 1 => by
    rw [starts_len_step]
    have h := starts_len G n s i
    have h' := opt_len G n s i
    refine ⟨Nat.mul_pos h.1 h'.1, ?_⟩
    rw [Nat.pow_succ]
    exact Nat.mul_le_mul h.2 h'.2
theorem starts_each (ls : List Lay) (n : Nat) (s : List Int) : ∀ i, ∀ t ∈ startsS ls n s i, t.length = i
  | 0, t, h => by simp [startsS] at h; simp [h]
  | i + 1, t, h => by
    simp only [startsS, List.mem_flatMap, List.mem_map] at h
    obtain ⟨f, hf, o, _, rfl⟩ := h
    simp [starts_each ls n s i f hf]
theorem rgM_nat (c : Nat) : rgM 0 (c : Int) = ((List.range c).map fun (j : Nat) => (j : Int)).map MV.int := by
  simp [rgM]
def snocM (f o : MV) : MV := match f with
  | .tup xs => .tup (xs ++ [o])
  | v => v
theorem starts_snoc (ls : List Lay) (n : Nat) (s : List Int) (i : Nat) : (((startsS ls n s i).map itup).flatMap fun f => ((optS ls n s i).map MV.int).map fun o => snocM f o) = (startsS ls n s (i + 1)).map itup := by
  rw [startsS, List.map_flatMap, List.flatMap_map]
  congr 1
  funext f
  simp [itup, snocM]
section
variable {b : Nat} {k : Str} {ls : List Lay} {s : List Int} {st : Mst} {n : Nat}
theorem below_ok (hb : st[b]? = some (bookO k ls)) (G : Good ls) (hs : s.length = ls.length) :
    Post (m_starts_below [.ref b, .int (n + 1), itup s] st) fun v st' => ∃ F, v = .ref F ∧ st'[F]? = some (.lst ((startsS ls n s ls.length).map itup)) ∧ st.length ≤ F ∧ ∀ W, Fr W st st' := by
  rw [m_starts_below, fnM3, b_starts_below]
  have hl5 := G.1
  have r := rngOf1_nat (j := (ls.length : Int)) (n := ls.length) (st := st ++ [.lst [.tup []]]) rfl (by omega)
  have hbu := fun g => up hb (g := g)
  simp -implicitDefEqProofs [f_size (hbu [.lst [.tup []]]), r]
  refine .finB (.bind (.range (fun i env st' => (∃ F o o5, env = [some (.ref b), some (.int (n + 1)), some (itup s), some (.ref F), o, o5, none, none] ∧ st.length ≤ F ∧ st'[F]? = some (.lst ((startsS ls n s i).map itup))) ∧ ∃ g, st' = st ++ g) ⟨⟨_, _, _, rfl, Nat.le_refl _, by simp [startsS, itup]⟩, _, rfl⟩ rfl ?_ ?_))
  · rintro i env st' hi ⟨⟨F, o, o5, rfl, hF1, hF⟩, g, rfl⟩
    obtain ⟨l, h⟩ := get_of (xs := ls) (i := i) (by omega)
    obtain ⟨x, hx⟩ := get_of (xs := s) (i := i) (by omega)
    refine ⟨_, _, rfl, ?_⟩
    have hwd := word_at (hbu g) h
    have hct := count_at (hbu g) h
    have cw := clsB (hbu g) (f := "word_at") (by simp [List.lookup])
    have cc := clsB (hbu g) (f := "count_at") (by simp [List.lookup])
    have hlen := starts_len G n s i
    have hol := opt_len G n s i
    have hp : 3 ^ i ≤ 3 ^ 5 := Nat.pow_le_pow_right (by omega) (by omega)
    have ex : ∀ st, gIx (itup s) (.int i) st = .ok (.int x) st := fun st => by simp [itup, hx]
    have key : ∀ os, os = optS ls n s i → ∀ D, D = (st ++ g ++ [MO.lst (os.map MV.int)]).length →
        lcL2 (srcList F (startsS ls n s i).length) (.nm 6) mYes (iOf (mVar 5)) [7] (.nm 7) mYes (mBin gAdd (mVar 6) (mTup (mCons (mVar 7) mNil)))
          [some (.ref b), some (.int (n + 1)), some (itup s), some (.ref F), some (.int i), some (.ref (st ++ g).length), none, none] D ((startsS ls n s i).length + 1) 0 (st ++ g ++ [MO.lst (os.map MV.int)] ++ [MO.lst []]) =
        .ok (.ref D) (st ++ g ++ [MO.lst (os.map MV.int)] ++ [MO.lst ((startsS ls n s (i + 1)).map itup)]) := by
      rintro os rfl D hD
      have e := lc2_lists (F := F) (O := (st ++ g).length) (m := (startsS ls n s i).length + 1) (nf := (startsS ls n s i).length) (D := D) (fs := (startsS ls n s i).map itup) (os := (optS ls n s i).map MV.int) (t := .nm 6) (t1 := .nm 7) (mi1 := iOf (mVar 5)) (vs1 := [7]) (elt := mBin gAdd (mVar 6) (mTup (mCons (mVar 7) mNil)))
        (env := [some (.ref b), some (.int (n + 1)), some (itup s), some (.ref F), some (.int i), some (.ref (st ++ g).length), none, none]) (st := st ++ g ++ [MO.lst ((optS ls n s i).map MV.int)])
        snocM (up hF) last_snoc (by simp) (by simp) hD (by
          rw [flat_len _ (optS ls n s i).length _ (fun x => by simp), List.length_map]
          have : (startsS ls n s i).length * (optS ls n s i).length ≤ 243 * 3 := Nat.mul_le_mul (by omega) hol.2
          omega) (by
          intro f acc hf
          obtain ⟨f', hf', rfl⟩ := List.mem_map.mp hf
          have hfl := starts_each ls n s i f' hf'
          refine ⟨_, rfl, ?_, ?_⟩
          · have := srcOf_lst (up (last_snoc (st := st ++ g) (o := .lst ((optS ls n s i).map MV.int))) (g := [.lst acc]))
            simp -implicitDefEqProofs at this ⊢
            exact this
          · intro o acc ho
            refine ⟨_, rfl, ?_⟩
            simp -implicitDefEqProofs [itup, snocM]
            omega)
      rw [e, starts_snoc]
    have fin : ∀ os, os = optS ls n s i → ∀ st2, st2 = st ++ g ++ [MO.lst (os.map MV.int)] ++ [MO.lst ((startsS ls n s (i + 1)).map itup)] → ∀ D, D = (st ++ g ++ [MO.lst (os.map MV.int)]).length → (st.length ≤ D ∧ st2[D]? = some (.lst ((startsS ls n s (i + 1)).map itup))) ∧ ∃ g', st2 = st ++ g' := by
      rintro os _ st2 rfl D rfl
      exact ⟨⟨by simp, last_snoc⟩, _, by simp; rfl⟩
    by_cases hn : n ≤ i
    · have ho : optS ls n s i = [x] := by simp [optS, hn, hx]
      have hs1 := srcOf_lst (up hF (g := [.lst [.int x]]))
      have kk := key [x] ho.symm _ rfl
      have ff := fin [x] ho.symm _ rfl _ rfl
      simp -implicitDefEqProofs at kk hs1 ff
      have hn' : (n : Int) ≤ i := by omega
      simp -implicitDefEqProofs [hn', ex, hs1, kk]
    · have hn' : ¬ (n : Int) ≤ i := by omega
      by_cases hv : varied l
      · have ho : optS ls n s i = (List.range (count l)).map fun (j : Nat) => (j : Int) := by simp [optS, hn, h, hv]
        have hs1 := srcOf_lst (up hF (g := [.lst (((List.range (count l)).map fun (j : Nat) => (j : Int)).map MV.int)]))
        have kk := key _ ho.symm _ rfl
        have ff := fin _ ho.symm _ rfl _ rfl
        have hg : ∀ st, gListRg1 (.int (count l)) st = .ok (.ref st.length) (st ++ [.lst (((List.range (count l)).map fun (j : Nat) => (j : Int)).map MV.int)]) := fun st => by
          have := G.at h
          rw [← rgM_nat]
          simp only [gListRg1]
          rw [if_pos (by have := (G.at h); have := hol.2; rw [ho] at this; simp at this; omega)]
        simp -implicitDefEqProofs at kk hs1 ff hg
        simp -implicitDefEqProofs [hn', f_size, hwd, hct, cw, cc, gIn_varied, hv, hg, hs1, kk]
      · have ho : optS ls n s i = [0] := by simp [optS, hn, h, hv]
        have hs1 := srcOf_lst (up hF (g := [.lst [.int 0]]))
        have kk := key _ ho.symm _ rfl
        have ff := fin _ ho.symm _ rfl _ rfl
        simp -implicitDefEqProofs at kk hs1 ff
        simp -implicitDefEqProofs [hn', hwd, cw, gIn_varied, hv, hs1, kk]
  · rintro env st' ⟨⟨F, o, o5, rfl, hF1, hF⟩, g, rfl⟩
    simp -implicitDefEqProofs
    exact ⟨hF, hF1, fun W => .app _ _ _⟩
theorem nest_ok {F O L nf m : Nat} {fs : List (List Int)} {os : List Int} {e0 e1 e2 e4 e7 e8 : Option MV} {st : Mst} (hF : st[F]? = some (.lst (fs.map itup))) (hO : st[O]? = some (.lst (os.map MV.int))) (hL : L = st.length) (hnf : nf = fs.length) (hm : m = fs.length + 1)
    (h1 : ∀ f ∈ fs, f.length ≤ 5) (h2 : fs.length * os.length < 16777216) {Q : Fl → Mst → Prop}
    (hk : ∀ e7 e8, Q (.nx [e0, e1, e2, some (.ref F), e4, some (.ref O), some (.ref L), e7, e8]) (st ++ [.lst ((fs.flatMap fun f => os.map fun o => f ++ [o]).map itup)])) :
    Post (forL (srcList F nf) (gtName 7) (sFor (iOf (mVar 5)) (gtName 8) (sExpr (mBM "list" gAppend (mVar 6) (mCons (mBin gAdd (mVar 7) (mTup (mCons (mVar 8) mNil))) mNil)))) m 0 [e0, e1, e2, some (.ref F), e4, some (.ref O), some (.ref L), e7, e8] (st ++ [.lst []])) Q := by
  subst hL
  subst hnf
  refine .list (xs := fs.map itup) (fun i env st' => (∃ e7 e8, env = [e0, e1, e2, some (.ref F), e4, some (.ref O), some (.ref st.length), e7, e8]) ∧ st' = st ++ [.lst (((fs.take i).flatMap fun f => os.map fun o => f ++ [o]).map itup)]) ?_ ⟨⟨_, _, rfl⟩, by simp⟩ (by simp [hm]) (by simp) ?_ ?_
  · rintro i env st' ⟨_, rfl⟩
    exact itemsOf_lst (up hF)
  · rintro i x env st' hx ⟨⟨e7, e8, rfl⟩, rfl⟩
    rw [List.getElem?_map] at hx
    obtain ⟨f, hf, rfl⟩ := Option.map_eq_some_iff.mp hx
    have hfl := h1 f (List.mem_of_getElem? hf)
    have hi : i < fs.length := (List.getElem?_eq_some_iff.mp hf).1
    refine ⟨_, _, rfl, ?_⟩
    have hs := srcOf_lst (up hO (g := [.lst (((fs.take i).flatMap fun f => os.map fun o => f ++ [o]).map itup)]))
    have hal : ((fs.take i).flatMap fun f => os.map fun o => f ++ [o]).length = i * os.length := by
      rw [flat_len _ os.length _ (fun x => by simp), List.length_take, Nat.min_eq_left (by omega)]
    have hb : i * os.length + os.length ≤ fs.length * os.length := by
      rw [← Nat.succ_mul]; exact Nat.mul_le_mul_right _ hi
    have htk := take_snoc hf
    simp -implicitDefEqProofs only [gtName_ap, sFor_ap, iOf_ap, mVar_ap, List.set, getO, List.getElem?_cons_succ, List.getElem?_cons_zero, Res.bind_ok, bindX_ok, hs, size_list]
    refine .of (.list (xs := os.map MV.int) (fun j env st' => (∃ e8, env = [e0, e1, e2, some (.ref F), e4, some (.ref O), some (.ref st.length), some (itup f), e8]) ∧ st' = st ++ [.lst (((fs.take i).flatMap fun f => os.map fun o => f ++ [o]).map itup ++ ((os.take j).map fun o => f ++ [o]).map itup)]) ?_ ⟨⟨_, rfl⟩, by simp⟩ rfl (by simp) ?_ ?_)
    · rintro j env st' ⟨_, rfl⟩
      exact itemsOf_lst (up hO)
    · rintro j y env st' hy ⟨⟨e8, rfl⟩, rfl⟩
      rw [List.getElem?_map] at hy
      obtain ⟨o, ho, rfl⟩ := Option.map_eq_some_iff.mp hy
      have hj : j < os.length := (List.getElem?_eq_some_iff.mp ho).1
      refine ⟨_, _, rfl, ?_⟩
      obtain ⟨acc, hacc⟩ : ∃ acc, acc = ((fs.take i).flatMap fun f => os.map fun o => f ++ [o]).map itup ++ ((os.take j).map fun o => f ++ [o]).map itup := ⟨_, rfl⟩
      have hacl : acc.length < 16777216 := by
        rw [hacc, List.length_append, List.length_map, hal, List.length_map, List.length_map, List.length_take]
        omega
      have ht := tyM_lst (last_snoc (st := st) (o := .lst acc))
      have ha := fun y => gAppend_lst (y := y) (last_snoc (st := st) (o := .lst acc)) hacl
      rw [take_snoc ho, ← hacc]
      refine .nx (env := [e0, e1, e2, some (.ref F), e4, some (.ref O), some (.ref st.length), some (itup f), some (.int o)]) (st := st ++ [.lst (acc ++ [itup (f ++ [o])])]) ?_ ⟨⟨_, rfl⟩, by rw [hacc]; simp⟩
      simp -implicitDefEqProofs [ht, ha, itup]
      rw [if_pos (by omega)]
      simp -implicitDefEqProofs [ha]
    · rintro env st' ⟨⟨e8, rfl⟩, rfl⟩
      refine ⟨_, rfl, ⟨_, _, rfl⟩, ?_⟩
      rw [htk]
      simp
  · rintro env st' ⟨⟨e7, e8, rfl⟩, rfl⟩
    have := hk e7 e8
    rw [List.take_of_length_le (by simp)]
    exact this
theorem lawstarts_ok (G : Good ls) (hs : s.length = ls.length) :
    Post (m_law_starts [.tup (ls.map enc), .int (n + 1), itup s] st) fun v st' => ∃ F, v = .ref F ∧ st'[F]? = some (.lst ((startsS ls n s ls.length).map itup)) ∧ st.length ≤ F ∧ ∀ W, Fr W st st' := by
  rw [m_law_starts, fnM3, b_law_starts]
  have hl5 := G.1
  have r := rngOf1_nat (j := (ls.length : Int)) (n := ls.length) (st := st ++ [.lst [.tup []]]) rfl (by omega)
  simp -implicitDefEqProofs [r]
  refine .finB (.bind (.range (fun i env st' => (∃ F o o5 o6 o7 o8, env = [some (.tup (ls.map enc)), some (.int (n + 1)), some (itup s), some (.ref F), o, o5, o6, o7, o8] ∧ st.length ≤ F ∧ st'[F]? = some (.lst ((startsS ls n s i).map itup))) ∧ ∃ g, st' = st ++ g) ⟨⟨_, _, _, _, _, _, rfl, Nat.le_refl _, by simp [startsS, itup]⟩, _, rfl⟩ rfl ?_ ?_))
  · rintro i env st' hi ⟨⟨F, o, o5, o6, o7, o8, rfl, hF1, hF⟩, g, rfl⟩
    obtain ⟨l, h⟩ := get_of (xs := ls) (i := i) (by omega)
    obtain ⟨x, hx⟩ := get_of (xs := s) (i := i) (by omega)
    refine ⟨_, _, rfl, ?_⟩
    have hlen := starts_len G n s i
    have hol := opt_len G n s i
    have hp : 3 ^ i ≤ 3 ^ 5 := Nat.pow_le_pow_right (by omega) (by omega)
    have hmul : (startsS ls n s i).length * (optS ls n s i).length ≤ 243 * 3 := Nat.mul_le_mul (by omega) hol.2
    have hmul2 := starts_len_step ls n s i
    have ex : ∀ st, gIx (itup s) (.int i) st = .ok (.int x) st := fun st => by simp [itup, hx]
    have el : ∀ st, gIx (.tup (ls.map enc)) (.int i) st = .ok (enc l) st := fun st => by simp [h]
    have ew : ∀ st, gIx (enc l) (.int 0) st = .ok (.str (word l)) st := fun st => by simp [enc]
    obtain ⟨TL, hTL⟩ : ∃ x : MS, x = (sSeq (sAsg (mLst mNil) (gtName 6)) (sSeq (sFor (iOf (mVar 3)) (gtName 7) (sFor (iOf (mVar 5)) (gtName 8) (sExpr (mBM "list" gAppend (mVar 6) (mCons (mBin gAdd (mVar 7) (mTup (mCons (mVar 8) mNil))) mNil))))) (sAsg (mCallB gList (mCons (mVar 6) mNil)) (gtName 3)))) := ⟨_, rfl⟩
    have tail : ∀ (st2 : Mst) (O : Nat) (e4 e7 e8 : Option MV), (∃ g, st2 = st ++ g) → st2[F]? = some (.lst ((startsS ls n s i).map itup)) → st2[O]? = some (.lst ((optS ls n s i).map MV.int)) →
        Turns (fun env st' => (∃ F o o5 o6 o7 o8, env = [some (.tup (ls.map enc)), some (.int (n + 1)), some (itup s), some (.ref F), o, o5, o6, o7, o8] ∧ st.length ≤ F ∧ st'[F]? = some (.lst ((startsS ls n s (i + 1)).map itup))) ∧ ∃ g, st' = st ++ g)
          (TL [some (.tup (ls.map enc)), some (.int (n + 1)), some (itup s), some (.ref F), e4, some (.ref O), o6, e7, e8] st2) := by
      rintro st2 O e4 e7 e8 ⟨g2, hg2⟩ hF2 hO2
      rw [hTL]
      have hs1 := srcOf_lst (up hF2 (g := [.lst []]))
      simp -implicitDefEqProofs only [sSeq_ap, sAsg_ap, mLst_ap, mNil_ap, newL_ap, Res.bind_ok, List.length_nil, Nat.zero_le, if_true, bindX_ok, gtName_ap, List.set, getO, List.getElem?_cons_succ, List.getElem?_cons_zero, sFor_ap, iOf_ap, mVar_ap, hs1, size_list]
      refine .of (.bind (nest_ok (st := st2) hF2 hO2 rfl (by simp) (by simp) (fun f hf => by have := starts_each ls n s i f hf; omega) (by omega) fun e7 e8 => ?_))
      have h6 := gList_lst (last_snoc (st := st2) (o := .lst ((startsS ls n s (i + 1)).map itup))) (by rw [List.length_map]; omega)
      have e : (startsS ls n s (i + 1)) = (startsS ls n s i).flatMap fun f => (optS ls n s i).map fun o => f ++ [o] := rfl
      rw [← e]
      simp -implicitDefEqProofs only [sAsg_ap, mCallB_ap, mCons_ap, mNil_ap, mVar_ap, getO, List.getElem?_cons_succ, List.getElem?_cons_zero, Res.bind_ok, h6, bindX_ok, gtName_ap, List.set, post_ok]
      refine ⟨_, rfl, ⟨_, _, _, _, _, _, rfl, ?_, last_snoc⟩, g2 ++ [MO.lst ((startsS ls n s (i + 1)).map itup)] ++ [MO.lst ((startsS ls n s (i + 1)).map itup)], ?_⟩
      · rw [hg2]; simp
      · rw [hg2]; simp
    rw [← hTL]
    by_cases hn : n ≤ i
    · have ho : optS ls n s i = [x] := by simp [optS, hn, hx]
      have hn' : (n : Int) ≤ i := by omega
      have tt := tail (st ++ g ++ [MO.lst [.int 0]] ++ [MO.lst [.int x]]) (st ++ g ++ [MO.lst [.int 0]]).length (some (.int i)) o7 o8 ⟨_, by simp; rfl⟩ (up (up hF)) (by rw [ho]; exact last_snoc)
      simp -implicitDefEqProofs at tt
      simp -implicitDefEqProofs [hn', ex]
      exact tt
    · have hn' : ¬ (n : Int) ≤ i := by omega
      by_cases hv : varied l
      · have ho : optS ls n s i = (List.range (count l)).map fun (j : Nat) => (j : Int) := by simp [optS, hn, h, hv]
        have tt := tail (st ++ g ++ [MO.lst [.int 0]] ++ [MO.lst (((List.range (count l)).map fun (j : Nat) => (j : Int)).map MV.int)]) (st ++ g ++ [MO.lst [.int 0]]).length (some (.int i)) o7 o8 ⟨_, by simp; rfl⟩ (up (up hF)) (by rw [ho]; exact last_snoc)
        have hg : ∀ st, gListRg1 (.int (count l)) st = .ok (.ref st.length) (st ++ [.lst (((List.range (count l)).map fun (j : Nat) => (j : Int)).map MV.int)]) := fun st => by
          rw [← rgM_nat]
          simp only [gListRg1]
          rw [if_pos (by have := hol.2; rw [ho] at this; simp at this; omega)]
        have ec : ∀ st, gIx (enc l) (.int 2) st = .ok (.int (count l)) st := fun st => by cases l <;> simp [enc, varied, third, count] at hv ⊢
        simp -implicitDefEqProofs at tt hg
        have hv' := hv
        rw [varied_w, Bool.or_eq_true] at hv'
        simp only [beq_iff_eq] at hv'
        rcases hv' with hv' | hv'
        · simp -implicitDefEqProofs [hn', el, ew, hv', ec, hg]
          exact tt
        · simp -implicitDefEqProofs [hn', el, ew, hv', ec, hg]
          exact tt
      · have ho : optS ls n s i = [0] := by simp [optS, hn, h, hv]
        have tt := tail (st ++ g ++ [MO.lst [.int 0]]) (st ++ g).length (some (.int i)) o7 o8 ⟨_, by simp; rfl⟩ (up hF) (by rw [ho]; exact last_snoc)
        simp -implicitDefEqProofs at tt
        have hv' := hv
        rw [varied_w, Bool.or_eq_true, not_or] at hv'
        simp only [beq_iff_eq] at hv'
        simp -implicitDefEqProofs [hn', el, ew, hv'.1, hv'.2]
        exact tt
  · rintro env st' ⟨⟨F, o, o5, o6, o7, o8, rfl, hF1, hF⟩, g, rfl⟩
    simp -implicitDefEqProofs
    exact ⟨hF, hF1, fun W => .app _ _ _⟩
end
end K02

set_option Elab.async false
set_option linter.all false
set_option maxRecDepth 100000
set_option autoImplicit false
namespace K02
open PySem BH
def placeS (ls : List Lay) (t : List Int) : Nat → Int
  | 0 => 0
  | i + 1 => match ls[i]? with
    | some l => if varied l then placeS ls t i * (count l : Int) + t[i]?.getD 0 else placeS ls t i
    | none => placeS ls t i
theorem place_congr {ls : List Lay} {t t' : List Int} : ∀ m, (∀ i l, i < m → ls[i]? = some l → varied l = true → t[i]? = t'[i]?) → placeS ls t m = placeS ls t' m
  | 0, _ => rfl
  | m + 1, h => by
    have ih := place_congr m (fun i l hi => h i l (by omega))
    simp only [placeS, ih]
    split
    · rename_i l hl
      split
      · rename_i hv
        rw [h m l (by omega) hl hv]
      · rfl
    · rfl
theorem flat_get {α γ : Type} (f : α → List γ) (c : Nat) (hc : 0 < c) : ∀ (xs : List α) (j : Nat) (t : γ), (∀ x ∈ xs, (f x).length = c) → (xs.flatMap f)[j]? = some t → ∃ x, xs[j / c]? = some x ∧ (f x)[j % c]? = some t
  | [], j, t, _, h => by simp at h
  | x :: xs, j, t, hl, h => by
    rw [List.flatMap_cons] at h
    have hx := hl x (by simp)
    by_cases hj : j < c
    · rw [List.getElem?_append_left (by omega)] at h
      exact ⟨x, by rw [Nat.div_eq_of_lt hj]; rfl, by rw [Nat.mod_eq_of_lt hj]; exact h⟩
    · rw [List.getElem?_append_right (by omega), hx] at h
      obtain ⟨y, h1, h2⟩ := flat_get f c hc xs (j - c) t (fun y hy => hl y (by simp [hy])) h
      refine ⟨y, ?_, ?_⟩
      · rw [show j / c = (j - c) / c + 1 by rw [← Nat.add_div_right _ hc, Nat.sub_add_cancel (by omega)]]
        exact h1
      · rw [show j % c = (j - c) % c by rw [Nat.mod_eq_sub_mod (by omega)]]
        exact h2
theorem place_at {ls : List Lay} (G : Good ls) (n : Nat) (s : List Int) (hs : s.length = ls.length) : ∀ i, i ≤ ls.length → ∀ (j : Nat) (t : List Int), (startsS ls n s i)[j]? = some t → placeS ls t (min i n) = (j : Int)
  | 0, _, j, t, h => by
    cases j with
    | zero => simp [placeS]
    | succ j => simp [startsS] at h
  | i + 1, hi, j, t, h => by
    have hol := opt_len G n s i
    obtain ⟨f, h1, h2⟩ := flat_get _ (optS ls n s i).length hol.1 _ j t (fun x _ => by simp) h
    rw [List.getElem?_map] at h2
    obtain ⟨o, ho, rfl⟩ := Option.map_eq_some_iff.mp h2
    have ih := place_at G n s hs i (by omega) _ f h1
    have hf := starts_each ls n s i f (List.mem_of_getElem? h1)
    have hc : ∀ m, m ≤ i → placeS ls (f ++ [o]) m = placeS ls f m := fun m hm => place_congr m (fun q l hq _ _ => by rw [List.getElem?_append_left (by omega)])
    obtain ⟨l, hl⟩ := get_of (xs := ls) (i := i) (by omega)
    by_cases hn : n ≤ i
    · have e : optS ls n s i = [s[i]?.getD 0] := by simp [optS, hn]
      rw [e] at ih
      rw [Nat.min_eq_right hn] at ih
      rw [Nat.min_eq_right (by omega), hc n hn, ih]
      simp
    · rw [Nat.min_eq_left (by omega)] at ih
      rw [Nat.min_eq_left (by omega)]
      simp only [placeS, hl, hc i (Nat.le_refl _), ih]
      by_cases hv : varied l
      · have e : optS ls n s i = (List.range (count l)).map fun (j : Nat) => (j : Int) := by simp [optS, hn, hl, hv]
        rw [e, List.length_map, List.length_range] at ho
        rw [e, List.length_map, List.length_range, if_pos hv]
        have hpos : 0 < count l := by have := (G.at hl).1; omega
        have hlt := Nat.mod_lt j hpos
        rw [List.getElem?_map, List.getElem?_range hlt] at ho
        have ho' : ((j % count l : Nat) : Int) = o := by simpa using ho
        rw [List.getElem?_append_right (by omega), hf, Nat.sub_self]
        show ((j / count l : Nat) : Int) * (count l : Int) + o = j
        rw [← ho', ← Int.natCast_mul, ← Int.natCast_add, Nat.div_add_mod']
      · have e : optS ls n s i = [0] := by simp [optS, hn, hl, hv]
        rw [if_neg hv, e]
        simp
section
variable {b : Nat} {k : Str} {ls : List Lay} {st : Mst} {n : Nat}
theorem place_ok (hb : st[b]? = some (bookO k ls)) (G : Good ls) {t : List Int} (ht : t.length = ls.length) (hn : n ≤ ls.length) : m_place_below [.ref b, .int (n + 1), itup t] st = .ok (.int (placeS ls t n)) st := by
  suffices h : Post (m_place_below [.ref b, .int (n + 1), itup t] st) fun v st' => v = .int (placeS ls t n) ∧ st' = st by
    obtain ⟨_, _, h, rfl, rfl⟩ := h
    exact h
  rw [m_place_below, fnM3, b_place_below]
  have hl5 := G.1
  have r := rngOf1_nat (j := (n : Int)) (n := n) (st := st) rfl (by omega)
  simp -implicitDefEqProofs [r]
  refine .finB (.bind (.range (fun i env st' => (∃ o, env = [some (.ref b), some (.int (n + 1)), some (itup t), some (.int (placeS ls t i)), o]) ∧ st' = st) ⟨⟨_, rfl⟩, rfl⟩ rfl ?_ ?_))
  · rintro i env st' hi ⟨⟨o, rfl⟩, rfl⟩
    obtain ⟨l, h⟩ := get_of (xs := ls) (i := i) (by omega)
    obtain ⟨x, hx⟩ := get_of (xs := t) (i := i) (by omega)
    refine ⟨_, _, rfl, ?_⟩
    have hwd := word_at hb h
    have hct := count_at hb h
    have cw := clsB hb (f := "word_at") (by simp [List.lookup])
    have cc := clsB hb (f := "count_at") (by simp [List.lookup])
    have ex : gIx (itup t) (.int i) st' = .ok (.int x) st' := by simp [itup, hx]
    have hm := gMul_r (placeS ls t i) (count l : Int) st' (by have := G.at h; simp [small64]; omega)
    by_cases hv : varied l
    · simp -implicitDefEqProofs [hwd, hct, cw, cc, gIn_varied, hv, ex, hm, placeS, h, hx]
    · simp -implicitDefEqProofs [hwd, cw, gIn_varied, hv, placeS, h]
  · rintro env st' ⟨⟨o, rfl⟩, rfl⟩
    simp -implicitDefEqProofs
theorem zeros_ok (m : Nat) (hm : m ≤ 5) (st : Mst) : gMul (.tup [.int 0]) (.int m) st = .ok (itup (List.replicate m 0)) st := by
  simp only [gMul]
  rw [if_pos (by simp; omega)]
  simp [itup]
theorem starts_ok (hb : st[b]? = some (bookO k ls)) (G : Good ls) :
    Post (m_starts [.ref b] st) fun v st' => ∃ F, v = .ref F ∧ st'[F]? = some (.lst ((startsS ls ls.length (List.replicate ls.length 0) ls.length).map itup)) ∧ st.length ≤ F ∧ ∀ W, Fr W st st' := by
  rw [m_starts, fnM1, b_starts]
  have hl5 := G.1
  obtain ⟨v, st2, h1, F, rfl, h2, h3, h4⟩ := below_ok (n := ls.length) hb G (s := List.replicate ls.length 0) (by simp)
  have hz := zeros_ok ls.length hl5 st
  simp -implicitDefEqProofs [f_size hb, hz, h1]
  exact ⟨h2, h3, h4⟩
end
end K02

set_option Elab.async false
set_option linter.all false
set_option maxRecDepth 100000
set_option autoImplicit false
namespace K02
open PySem BH
theorem dat_starts {st : Mst} {a : Nat} {xs : List (List Int)} (h : st[a]? = some (.lst (xs.map itup))) : dat st 64 (.ref a) = some (.list (xs.map fun x => .tuple (x.map .int))) := by
  simp only [dat, h]
  rw [optAll_map (f := dat st 63) (g := itup) (k := fun x => PyData.tuple (x.map .int)) (fun x => dat_itup st 61 x)]
  rfl
theorem mod_nat {x : Int} {m : Nat} (h : 0 < m) : ∃ j : Nat, x % (m : Int) = (j : Int) ∧ j < m := by
  have h1 := Int.emod_nonneg x (show (m : Int) ≠ 0 by omega)
  have h2 := Int.emod_lt_of_pos x (show (0 : Int) < (m : Int) by omega)
  exact ⟨(x % (m : Int)).toNat, by omega, by omega⟩
section
variable {b R : Nat} {k : Str} {ls : List Lay} {row : List Int} {st : Mst}
theorem gNe_it (xs : List Int) (st : Mst) : gNe (itup xs) (itup xs) st = .ok (.bl false) st := gNe_same (dat_itup st 62 xs) (dat_itup st 62 xs)
theorem drop_it (s : List Int) (n : Nat) (st : Mst) : gSl (itup s) (some ((n : Int) + 1)) none st = .ok (itup (s.drop (n + 1))) st := by
  have g2 := mcut_from (s.map MV.int) (n + 1)
  simp -implicitDefEqProofs only [Int.natCast_add, Int.cast_ofNat_Int] at g2
  simp [itup, g2]
theorem add_one {xs : List Int} (h : xs.length ≤ 5) (x : Int) (st : Mst) : gAdd (itup xs) (.tup [.int x]) st = .ok (itup (xs ++ [x])) st := by
  rw [itup, gAdd_tup_ap, if_pos (by simp; omega)]
  simp [itup]
theorem add_rest {s : List Int} {n : Nat} (hn : n < s.length) (hl : s.length ≤ 5) (x : Int) (st : Mst) : gAdd (itup (s.take n ++ [x])) (itup (s.drop (n + 1))) st = .ok (itup (s.set n x)) st := by
  rw [itup, itup, gAdd_tup_ap, if_pos (by simp; omega), ← List.map_append, List.append_assoc]
  simp only [List.cons_append, List.nil_append, set_mid hn, itup]
def markE (ls : List Lay) (s t : List Int) (i : Nat) : Int := match ls[i]? with
  | some l => if word l = "note" then s[i]?.getD 0 else t[i]?.getD 0
  | none => 0
theorem mark_get {ls : List Lay} {s t : List Int} {i : Nat} {l : Lay} (h : ls[i]? = some l) (hv : varied l = true) (ht : t.length = ls.length) : ((List.range ls.length).map (markE ls s t))[i]? = t[i]? := by
  have hi := (List.getElem?_eq_some_iff.mp h).1
  obtain ⟨x, hx⟩ := get_of (xs := t) (i := i) (by omega)
  rw [List.getElem?_map, List.getElem?_range hi, Option.map_some, markE, h, hx]
  have : ¬ word l = "note" := by cases l <;> simp [varied, word] at hv ⊢
  simp [this]
theorem filterMap_all {α γ : Type} (f : α → γ) (xs : List α) : xs.filterMap (fun x => some (f x)) = xs.map f := by
  induction xs with
  | nil => rfl
  | cons x xs ih => simp [ih]
/-- the first part of the loop of states: notes get their members -/
def Val' (ls : List Lay) (s : List Int) (m : Nat) : Prop := s.length = ls.length ∧ ∀ (i : Nat) (nm : Str) (tb : List (List Nat)), i < m → ls[i]? = some (Lay.note nm tb) → ∃ x : Nat, s[i]? = some (x : Int) ∧ x < tb.length
theorem states_ok (hb : st[b]? = some (bookO k ls)) (hR : st[R]? = some (.lst (row.map .int))) (hr : row.length = 8) (G : Good ls) :
    Post (m_law_states [.ref b, .tup (ls.map enc), .ref R] st) fun v st' => v = .bl true ∧ ∀ W, Fr W st st' := by
  rw [m_law_states, fnM3, b_law_states]
  have hl5 := G.1
  have hz := zeros_ok ls.length hl5
  obtain ⟨v, st1, h1, D, rfl, hD1, D1, F1⟩ := lawstarts_ok (st := st) (s := List.replicate ls.length 0) (n := ls.length) G (by simp)
  obtain ⟨v, st2, h2, F, rfl, hF2, D2, F2⟩ := starts_ok (F1 [] b _ (by simp) hb) G
  have hD2 := F2 [] D _ (by simp) hD1
  have ne1 := gNe_same (dat_starts hF2) (dat_starts hD2)
  have hDF : D ≠ F := by have := lt_of hD1; omega
  obtain ⟨due, hdue⟩ : ∃ x, x = startsS ls ls.length (List.replicate ls.length 0) ls.length := ⟨_, rfl⟩
  have hdl := starts_len G ls.length (List.replicate ls.length 0) ls.length
  have hp : 3 ^ ls.length ≤ 3 ^ 5 := Nat.pow_le_pow_right (by omega) (by omega)
  have hde := starts_each ls ls.length (List.replicate ls.length 0) ls.length
  rw [← hdue] at hD1 hF2 hD2 hdl hde
  have ht2 := tyM_lst hF2
  have ha2 := gAppend_lst (y := itup (List.replicate ls.length 0)) hF2 (by simp; omega)
  obtain ⟨st3, e3⟩ : ∃ x, x = st2.set F (.lst (due.map itup ++ [itup (List.replicate ls.length 0)])) := ⟨_, rfl⟩
  rw [← e3] at ha2
  have F3 : Fr [F] st2 st3 := by rw [e3]; exact .put _ _ _
  have F03 : ∀ W, Fr W st st3 := fun W => ((F1 [F]).trans ((F2 [F]).trans F3)).new (by have := lt_of hD1; have := F1 []; omega) W
  obtain ⟨v, st4, h4, F', rfl, hF4, D4, F4⟩ := starts_ok (F03 [] b _ (by simp) hb) G
  rw [← hdue] at hF4
  have hD4 := F4 [] D _ (by simp) (F3 D _ (by simpa using hDF) hD2)
  have ne2 := gNe_same (dat_starts hF4) (dat_starts hD4)
  have hR4 := F4 [] R _ (by simp) (F03 [] R _ (by simp) hR)
  obtain ⟨r0, hr0⟩ := get_of (xs := row) (i := 0) (by omega)
  have er0 : gIx (.ref R) (.int 0) st4 = .ok (.int r0) st4 := gIx_lst hR4 (k := 0) rfl (by simp [hr0])
  obtain ⟨j, hj, hjl⟩ := mod_nat (x := r0) hdl.1
  have em0 := gMod_int (i := r0) (j := (due.length : Int)) (st := st4) (by omega)
  rw [hj] at em0
  obtain ⟨t0, ht0⟩ := get_of hjl
  have ht0l := hde t0 (List.mem_of_getElem? ht0)
  have ed : gIx (.ref D) (.int j) st4 = .ok (itup t0) st4 := gIx_lst hD4 rfl (by simp [ht0])
  have el4 := gLen_lst hD4
  rw [List.length_map] at el4
  have eli := gList_tup (xs := t0.map MV.int) (st := st4) (by simp; omega)
  obtain ⟨st5, e5⟩ : ∃ x, x = st4 ++ [MO.lst (t0.map MV.int)] := ⟨_, rfl⟩
  obtain ⟨S, eS⟩ : ∃ x, x = st4.length := ⟨_, rfl⟩
  rw [← e5, ← eS] at eli
  have hS5 : st5[S]? = some (.lst (t0.map MV.int)) := by rw [e5, eS]; exact last_snoc
  have F45 : ∀ W, Fr W st4 st5 := fun W => by rw [e5]; exact .app _ _ _
  have F05 : ∀ W, Fr W st st5 := fun W => (F03 W).trans ((F4 W).trans (F45 W))
  have r5 := rngOf1_nat (j := (ls.length : Int)) (n := ls.length) (st := st5) rfl (by omega)
  have hS0 : st.length ≤ S := by
    have := lt_of hD4
    omega
  simp -implicitDefEqProofs [hz, h1, h2, ne1, ht2, ha2, h4, ne2, er0, el4, em0, ed]
  rw [show itup t0 = .tup (t0.map MV.int) from rfl]
  simp -implicitDefEqProofs [eli, r5]
  refine .finB (.bind (.range (fun i env st' => (∃ o, env = [some (.ref b), some (.tup (ls.map enc)), some (.ref R), some (itup (List.replicate ls.length 0)), some (.ref D), some (.ref F), some (.ref S), o, none, none, none, none, none, none, none]) ∧
    ∃ s, Val' ls s i ∧ st'[S]? = some (.lst (s.map .int)) ∧ Fr [S] st5 st') ⟨⟨_, rfl⟩, t0, ⟨ht0l, fun i nm tb hi => by omega⟩, hS5, .refl _ _⟩ rfl ?_ ?_))
  · rintro i env st' hi ⟨⟨o, rfl⟩, s, ⟨hs, hv⟩, hSi, Fi⟩
    obtain ⟨l, h⟩ := get_of (xs := ls) (i := i) (by omega)
    refine ⟨_, _, rfl, ?_⟩
    have el : ∀ st, gIx (.tup (ls.map enc)) (.int i) st = .ok (enc l) st := fun st => by simp [h]
    have ew : ∀ st, gIx (enc l) (.int 0) st = .ok (.str (word l)) st := fun st => by simp [enc]
    by_cases hw : word l = "note"
    · cases l with
      | note nm tb =>
        have hpos : 0 < tb.length := by have := (G.at h).1; simp [count] at this; omega
        have e2 : ∀ st, gIx (enc (.note nm tb)) (.int 2) st = .ok (.tup (tb.map nats)) st := fun st => by simp [enc, third]
        obtain ⟨x, hx⟩ := get_of (xs := row) (i := 1 + i) (by omega)
        have hRi := Fi R _ (by have := lt_of hR; simp; omega) (F05 [] R _ (by simp) hR)
        have ex : gIx (.ref R) (.int (1 + (i : Int))) st' = .ok (.int x) st' := gIx_lst hRi (k := 1 + i) (by omega) (by simp [hx])
        obtain ⟨y, hy, hyl⟩ := mod_nat (x := x) hpos
        have em := gMod_int (i := x) (j := (tb.length : Int)) (st := st') (by omega)
        rw [hy] at em
        have s1 := gSetIx_lst (v := .int y) hSi (i := (i : Int)) rfl (by simp; omega)
        simp -implicitDefEqProofs [el, ew, word, e2, ex, em, s1]
        refine ⟨s.set i y, ⟨by simp [hs], fun q nm' tb' hq hl => ?_⟩, ?_, Fi.trans (.put _ _ _)⟩
        · by_cases hqi : q = i
          · subst hqi
            rw [h] at hl
            cases hl
            exact ⟨y, by rw [List.getElem?_set_self (by omega)], hyl⟩
          · rw [List.getElem?_set_ne (Ne.symm hqi)]
            exact hv q nm' tb' (by omega) hl
        · rw [List.getElem?_set_self (lt_of hSi), List.map_set]
      | _ => simp [word] at hw
    · simp -implicitDefEqProofs [el, ew, hw]
      refine ⟨s, ⟨hs, fun q nm' tb' hq hl => ?_⟩, hSi, Fi⟩
      by_cases hqi : q = i
      · subst hqi
        rw [h] at hl
        cases hl
        simp [word] at hw
      · exact hv q nm' tb' (by omega) hl
  · rintro env st6 ⟨⟨o, rfl⟩, s, ⟨hs, hv⟩, hS6, F56⟩
    have V : Val ls s := ⟨hs, fun i nm tb h => hv i nm tb (List.getElem?_eq_some_iff.mp h).1 h⟩
    have F06 : ∀ W, Fr W st st6 := fun W => ((F05 [S]).trans F56).new hS0 W
    have hR6 := F06 [] R _ (by simp) hR
    have etup := gTuple_lst hS6
    rw [show MV.tup (s.map MV.int) = itup s from rfl] at etup
    obtain ⟨r6, hr6⟩ := get_of (xs := row) (i := 6) (by omega)
    have er6 : gIx (.ref R) (.int 6) st6 = .ok (.int r6) st6 := gIx_lst hR6 (k := 6) rfl (by simp [hr6])
    obtain ⟨n, hn, hnl⟩ := mod_nat (x := r6) (m := ls.length + 1) (by omega)
    have em6 := gMod_int (i := r6) (j := ((ls.length + 1 : Nat) : Int)) (st := st6) (by omega)
    rw [hn] at em6
    simp -implicitDefEqProofs only [Int.natCast_add, Int.cast_ofNat_Int] at em6
    obtain ⟨v, st7, h7, N, rfl, hN7, N7, F67⟩ := lawstarts_ok (st := st6) (s := s) (n := n) G hs
    obtain ⟨v, st8, h8, F8, rfl, hF8, D8, F78⟩ := below_ok (n := n) (s := s) (F67 [] b _ (by simp) (F06 [] b _ (by simp) hb)) G hs
    have hN8 := F78 [] N _ (by simp) hN7
    have ne3 := gNe_same (dat_starts hF8) (dat_starts hN8)
    have hNF : N ≠ F8 := by have := lt_of hN7; omega
    have hlen := starts_len G n s ls.length
    have s8 := gSetIx_lst (v := .tup []) hF8 (i := 0) (k := 0) rfl (by simp; omega)
    obtain ⟨st9, e9⟩ : ∃ x, x = st8.set F8 (.lst (((startsS ls n s ls.length).map itup).set 0 (.tup []))) := ⟨_, rfl⟩
    rw [← e9] at s8
    have F89 : Fr [F8] st8 st9 := by rw [e9]; exact .put _ _ _
    have h06 : st.length ≤ st6.length := by have := lt_of hS6; omega
    have F09 : ∀ W, Fr W st st9 := fun W => ((F06 [F8]).trans ((F67 [F8]).trans ((F78 [F8]).trans F89))).new (by have := lt_of hN7; omega) W
    obtain ⟨v, st10, h10, F10, rfl, hF10, D10, F910⟩ := below_ok (n := n) (s := s) (F09 [] b _ (by simp) hb) G hs
    have hN10 := F910 [] N _ (by simp) (F89 N _ (by simpa using hNF) hN8)
    have ne4 := gNe_same (dat_starts hF10) (dat_starts hN10)
    have F010 : ∀ W, Fr W st st10 := fun W => (F09 W).trans (F910 W)
    have elN := gLen_lst hN10
    rw [List.length_map] at elN
    have r10 := rngOf1_nat (j := ((startsS ls n s ls.length).length : Int)) (n := (startsS ls n s ls.length).length) (st := st10) rfl (by omega)
    rw [Int.add_comm] at h7 h8 h10
    simp -implicitDefEqProofs [etup, er6, em6, h7, h8, ne3, s8, h10, ne4, elN, r10]
    refine .bind (.range (fun i env st' => (∃ o7 o10, env = [some (.ref b), some (.tup (ls.map enc)), some (.ref R), some (itup (List.replicate ls.length 0)), some (.ref D), some (.ref F8), some (itup s), o7, some (.int (1 + (n : Int))), some (.ref N), o10, none, none, none, none]) ∧
      ∃ g, st' = st10 ++ g) ⟨⟨_, _, rfl⟩, [], by simp⟩ rfl ?_ ?_)
    · rintro i env st' hi ⟨⟨o7, o10, rfl⟩, g, rfl⟩
      refine ⟨_, _, rfl, ?_⟩
      obtain ⟨t, ht⟩ := get_of hi
      have htl := starts_each ls n s ls.length t (List.mem_of_getElem? ht)
      have hp := place_at G n s hs ls.length (Nat.le_refl _) i t ht
      rw [Nat.min_eq_right (by omega)] at hp
      have hbN := fun g => up (F010 [] b _ (by simp) hb) (g := g)
      have p1 := fun g => place_ok (hbN g) G htl (n := n) (by omega)
      have p2 := fun g => place_ok (hbN g) G (t := (List.range ls.length).map (markE ls s t)) (by simp) (n := n) (by omega)
      rw [place_congr (t' := t) n (fun q l hq hl hv => mark_get hl hv htl)] at p2
      rw [hp, Int.add_comm] at p1 p2
      have eN : ∀ g, gIx (.ref N) (.int i) (st10 ++ g) = .ok (itup t) (st10 ++ g) := fun g => gIx_lst (up hN10) rfl (by simp [ht])
      have r11 := rngOf1_nat (j := (ls.length : Int)) (n := ls.length) (st := st10 ++ g) rfl (by omega)
      have hlc : ∀ env1 env2 env3 env4 env5 env6 env7 env8 : Option MV, lcL (srcRange 0 ls.length) (.nm 14) mYes (mIf (mTest (mBin gEq (mBin gIx (mBin gIx (mVar 1) (mVar 14)) (mC (.int 0))) (mC (.str "note")))) (mBin gIx (mVar 6) (mVar 14)) (mBin gIx (mBin gIx (mVar 9) (mVar 7)) (mVar 14)))
          [env1, some (.tup (ls.map enc)), env2, env3, env4, env5, some (itup s), some (.int i), env6, some (.ref N), env7, env8, none, none, none] (st10 ++ g).length (ls.length + 1) 0 (st10 ++ g ++ [.lst []]) =
          .ok (.ref (st10 ++ g).length) (st10 ++ g ++ [.lst (((List.range ls.length).map (markE ls s t)).map MV.int)]) := by
        intro env1 env2 env3 env4 env5 env6 env7 env8
        rw [lc_range (fun q => some (.int (markE ls s t q))) (by omega) rfl rfl, filterMap_all, List.map_map]
        · rfl
        · intro q acc hq
          refine ⟨_, rfl, rfl, ?_⟩
          obtain ⟨l, h⟩ := get_of hq
          obtain ⟨x, hx⟩ := get_of (xs := s) (i := q) (by omega)
          obtain ⟨y, hy⟩ := get_of (xs := t) (i := q) (by omega)
          have el : ∀ st, gIx (.tup (ls.map enc)) (.int q) st = .ok (enc l) st := fun st => by simp [h]
          have ew : ∀ st, gIx (enc l) (.int 0) st = .ok (.str (word l)) st := fun st => by simp [enc]
          have ex : ∀ st, gIx (itup s) (.int q) st = .ok (.int x) st := fun st => by simp [itup, hx]
          have ey : ∀ st, gIx (itup t) (.int q) st = .ok (.int y) st := fun st => by simp [itup, hy]
          have eN2 := eN (g ++ [.lst acc])
          rw [← List.append_assoc] at eN2
          simp -implicitDefEqProofs only [Int.zero_add, mIf_ap, mTest_ap, mBin_ap, mVar_ap, List.set, getO, List.getElem?_cons_succ, List.getElem?_cons_zero, Res.bind_ok, el, ew, mC_ap, gEq_lit, toB_bl, ex, ey, eN2, markE, h, hx, hy, Option.getD_some]
          by_cases hw : word l = "note"
          · simp [hw]
          · simp [hw]
      have gt := gTuple_lst (last_snoc (st := st10 ++ g) (o := .lst (((List.range ls.length).map (markE ls s t)).map MV.int)))
      rw [show MV.tup (((List.range ls.length).map (markE ls s t)).map MV.int) = itup ((List.range ls.length).map (markE ls s t)) from rfl] at gt
      have eN3 := eN (g ++ [.lst (((List.range ls.length).map (markE ls s t)).map MV.int)])
      have p13 := p1 (g ++ [.lst (((List.range ls.length).map (markE ls s t)).map MV.int)])
      have p23 := p2 (g ++ [.lst (((List.range ls.length).map (markE ls s t)).map MV.int)])
      simp -implicitDefEqProofs only [sSeq_ap, sAsg_ap, mLc_ap, iRange1_ap, mCons_ap, mCallB_ap, mNil_ap, mVar_ap, List.set, getO, List.getElem?_cons_succ, List.getElem?_cons_zero, Res.bind_ok, gLen_tup, List.length_map, r11, mwipe_cons, mwipe_nil, size_range, Int.zero_add, hlc, bindX_ok, gtName_ap]
      rw [List.append_assoc] at gt
      rw [List.append_assoc]
      simp -implicitDefEqProofs only [sIf_ap, mOr_ap, mTest_ap, mBin_ap, mCallF_ap, mCons_ap, mNil_ap, mVar_ap, mCallB_ap, getO, List.getElem?_cons_succ, List.getElem?_cons_zero, Res.bind_ok, eN3, p13, List.append_nil, gNe_int, beq_self_eq_true, Bool.not_true, toB_bl, Bool.false_eq_true, if_false, gt, p23, bindX_ok, sNext_ap, turns_nx]
      exact ⟨⟨_, _, rfl⟩, _, rfl⟩
    · rintro env st' ⟨⟨o7, o10, rfl⟩, g, rfl⟩
      have F0g : ∀ W, Fr W st (st10 ++ g) := fun W => (F010 W).trans (.app _ _ _)
      obtain ⟨st11, e11⟩ : ∃ x, x = st10 ++ g := ⟨_, rfl⟩
      rw [← e11] at F0g ⊢
      obtain ⟨g2, k1⟩ := kept_ok (st := st11) (F0g [] b _ (by simp) hb) hs (n := n) (by omega) hl5
      obtain ⟨g3, k2⟩ := lawkept_ok (ls := ls) (st := st11 ++ g2) (itemsOf_itup _ s) hs (n := n) (by omega) hl5
      rw [Int.add_comm] at k1 k2
      obtain ⟨st12, e12⟩ : ∃ x, x = st11 ++ g2 ++ g3 := ⟨_, rfl⟩
      rw [← e12] at k2
      have F012 : ∀ W, Fr W st st12 := fun W => by rw [e12]; exact (F0g W).trans ((Fr.app _ _ _).trans (.app _ _ _))
      have r12 := rngOf1_nat (j := (ls.length : Int)) (n := ls.length) (st := st12) rfl (by omega)
      simp -implicitDefEqProofs [k1, k2, gNe_it, r12]
      obtain ⟨q7, hq7⟩ := get_of (xs := row) (i := 7) (by omega)
      have hR12 := F012 [] R _ (by simp) hR
      have hb12 := F012 [] b _ (by simp) hb
      have er7 : gIx (.ref R) (.int 7) st12 = .ok (.int q7) st12 := gIx_lst hR12 (k := 7) rfl (by simp [hq7])
      refine .bind (.range (fun i env st' => (∃ o4 o7 o11 o12 o13, env = [some (.ref b), some (.tup (ls.map enc)), some (.ref R), some (itup (List.replicate ls.length 0)), o4, some (.ref F8), some (itup s), o7, some (.int (1 + (n : Int))), some (.ref N), o10, o11, o12, o13, none]) ∧
        st' = st12) ⟨⟨_, _, _, _, _, rfl⟩, rfl⟩ rfl ?_ ?_)
      · rintro i env st' hi ⟨⟨o4, o7, o11, o12, o13, rfl⟩, rfl⟩
        obtain ⟨l, h⟩ := get_of hi
        refine ⟨_, _, rfl, ?_⟩
        have el : ∀ st, gIx (.tup (ls.map enc)) (.int i) st = .ok (enc l) st := fun st => by simp [h]
        have ew : ∀ st, gIx (enc l) (.int 0) st = .ok (.str (word l)) st := fun st => by simp [enc]
        have a3 := fun x st => add_one (xs := s.take i) (by simp; omega) x st
        have a4 := fun x st => add_rest (s := s) (n := i) (by omega) (by omega) x st
        have ch := fun x => changed_ok (st := st') (s := s) (n := i) (x := x) (by omega) (by omega)
        by_cases hw : word l = "note"
        · cases l with
          | note nm tb =>
            have hpos : 0 < tb.length := by have := (G.at h).1; simp [count] at this; omega
            have e2 : ∀ st, gIx (enc (.note nm tb)) (.int 2) st = .ok (.tup (tb.map nats)) st := fun st => by simp [enc, third]
            have em := gMod_int (i := q7 + (i : Int)) (j := (tb.length : Int)) (st := st') (by omega)
            obtain ⟨m, hm, hml⟩ := mod_nat (x := q7) hpos
            have em2 := gMod_int (i := q7) (j := (tb.length : Int)) (st := st') (by omega)
            rw [hm] at em2
            obtain ⟨x, hx, hxl⟩ := V.2 i nm tb h
            obtain ⟨rw', z, hr1, hz1, hzl⟩ := G.cell h hxl hml
            have no := noted_ok hb12 h hx hr1 hz1 (by omega)
            have e3 : ∀ st, gIx (.tup (tb.map nats)) (.int x) st = .ok (nats rw') st := fun st => by simp [hr1]
            have e4 : ∀ st, gIx (nats rw') (.int m) st = .ok (.int z) st := fun st => by simp [nats, hz1]
            have e5 : ∀ st, gIx (itup s) (.int i) st = .ok (.int x) st := fun st => by simp [itup, hx]
            simp -implicitDefEqProofs [el, ew, word, e2, er7, em, take_it, drop_it, a3, a4, ch, gNe_it, em2, e3, e4, e5, no, -gIx_tup_ap]
          | _ => simp [word] at hw
        · by_cases hv : varied l
          · have ec : ∀ st, gIx (enc l) (.int 2) st = .ok (.int (count l)) st := fun st => by cases l <;> simp [enc, varied, third, count] at hv ⊢
            have em := gMod_int (i := q7 + (i : Int)) (j := (count l : Int)) (st := st') (G.at h).1
            have hv' := hv
            rw [varied_w, Bool.or_eq_true] at hv'
            simp only [beq_iff_eq] at hv'
            rcases hv' with hv' | hv'
            · simp -implicitDefEqProofs [el, ew, hv', ec, er7, em, take_it, drop_it, a3, a4, ch, gNe_it, -gIx_tup_ap]
            · simp -implicitDefEqProofs [el, ew, hv', ec, er7, em, take_it, drop_it, a3, a4, ch, gNe_it, -gIx_tup_ap]
          · have em := gMod_int (i := q7 + (i : Int)) (j := 1) (st := st') (by omega)
            have hv' := hv
            rw [varied_w, Bool.or_eq_true, not_or] at hv'
            simp only [beq_iff_eq] at hv'
            simp -implicitDefEqProofs [el, ew, hw, hv'.1, hv'.2, er7, em, take_it, drop_it, a3, a4, ch, gNe_it, -gIx_tup_ap]
      · rintro env st' ⟨⟨o4, o7, o11, o12, o13, rfl⟩, rfl⟩
        simp -implicitDefEqProofs
        exact F012
end
end K02

set_option Elab.async false
set_option linter.all false
set_option maxRecDepth 100000
set_option autoImplicit false
namespace K02
open PySem BH
/-! ### rows -/
section
variable {ns : List Int} {st : Mst}
theorem row_ok (h0 : st[0]? = some (.rol (ns.map .int))) (k n : Nat) (hn : n ≤ 12) :
    Post (m_law_row [.ref 0, .int k, .int n] st) fun v st' => ∃ (R : Nat) (row : List Int), v = .ref R ∧ st'[R]? = some (.lst (row.map .int)) ∧ row.length = n ∧ st.length ≤ R ∧ ∀ W, Fr W st st' := by
  rw [m_law_row, fnM3, b_law_row]
  have hlen := gLen_rol h0
  rw [List.length_map] at hlen
  obtain ⟨cell, hcell⟩ : ∃ x : Int, x = ns[k]?.getD 0 := ⟨_, rfl⟩
  have hp : gPow (.int 10) (.int 18) (st ++ [.lst []]) = .ok (.int (10 ^ 18)) (st ++ [.lst []]) := by simp [gPow]
  have r := rngOf1_nat (j := (n : Int)) (n := n) (st := st ++ [.lst []]) rfl (by omega)
  have first : ∀ (q : MS) (Q : MV → Mst → Prop), Post (finB (q [some (.ref 0), some (.int k), some (.int n), some (.int cell), none, none, none] st)) Q →
      Post (finB ((sSeq (sAsg (mC (.int 0)) (gtName 3)) (sSeq (sIf (mTest (mBin gLt (mVar 1) (mCallB gLen (mCons (mVar 0) mNil)))) (sAsg (mCallB gInt (mCons (mBin gIx (mVar 0) (mVar 1)) mNil)) (gtName 3)) sNext) q)) ([some (.ref 0), some (.int k), some (.int n)] ++ List.replicate (7 - 3) none) st)) Q := by
    intro q Q h
    by_cases hk : k < ns.length
    · have ex : gIx (.ref 0) (.int k) st = .ok (.int cell) st := gIx_rol h0 rfl (by rw [List.getElem?_map, hcell]; simp [hk])
      have hk' : (k : Int) < ns.length := by omega
      simp -implicitDefEqProofs [hlen, hk', ex]
      exact h
    · have hk' : ¬ (k : Int) < ns.length := by omega
      have e : cell = 0 := by rw [hcell]; simp [hk]
      subst e
      simp -implicitDefEqProofs [hlen, hk']
      exact h
  refine first _ _ ?_
  by_cases hc : (1000000000000000000 : Int) ≤ cell
  · simp -implicitDefEqProofs [hp, hc, r]
    refine .finB (.bind (.bind (.range (fun i env st' => (∃ c o o6, env = [some (.ref 0), some (.int k), some (.int n), some (.int c), some (.ref st.length), o, o6]) ∧ ∃ row : List Int, st' = st ++ [.lst (row.map .int)] ∧ row.length = i) ⟨⟨_, _, _, rfl⟩, [], rfl, rfl⟩ rfl ?_ ?_)))
    · rintro i env st' hi ⟨⟨c, o, o6, rfl⟩, row, rfl, hr⟩
      refine ⟨_, _, rfl, ?_⟩
      have ht := tyM_lst (last_snoc (st := st) (o := .lst (row.map .int)))
      have ha := fun y => gAppend_lst (y := y) (last_snoc (st := st) (o := .lst (row.map .int))) (by simp; omega)
      have hm := fun st => gMod_int (i := c) (j := 1000) (st := st) (by omega)
      have hd := fun st => gDiv_int (i := c) (j := 1000) (st := st) (by omega)
      simp -implicitDefEqProofs [ht, ha, hm, hd]
      exact ⟨row ++ [c % 1000], by simp, by simp [hr]⟩
    · rintro env st' ⟨⟨c, o, o6, rfl⟩, row, rfl, hr⟩
      simp -implicitDefEqProofs
      exact ⟨row, rfl, hr, fun W => .app _ _ _⟩
  · have hm1 := fun st => gMul_r cell 48271 st (by decide)
    have hm2 := fun st => gMul_r (k : Int) 69621 st (by decide)
    have hmod := fun i st => gMod_int (i := i) (j := 2147483647) (st := st) (by omega)
    simp -implicitDefEqProofs [hp, hc, r, hm1, hm2, hmod]
    refine .finB (.bind (.range (fun i env st' => (∃ c sd o, env = [some (.ref 0), some (.int k), some (.int n), c, some (.ref st.length), o, some (.int sd)]) ∧ ∃ row : List Int, st' = st ++ [.lst (row.map .int)] ∧ row.length = i) ⟨⟨_, _, _, rfl⟩, [], rfl, rfl⟩ rfl ?_ ?_))
    · rintro i env st' hi ⟨⟨c, sd, o, rfl⟩, row, rfl, hr⟩
      refine ⟨_, _, rfl, ?_⟩
      have ht := tyM_lst (last_snoc (st := st) (o := .lst (row.map .int)))
      have ha := fun y => gAppend_lst (y := y) (last_snoc (st := st) (o := .lst (row.map .int))) (by simp; omega)
      have hm3 := fun st => gMul_r sd 16807 st (by decide)
      have hm4 := fun st => gMul_r (i : Int) 7919 st (by decide)
      have hmod2 := fun i st => gMod_int (i := i) (j := 1000) (st := st) (by omega)
      have hdv := fun i st => gDiv_int (i := i) (j := 65536) (st := st) (by omega)
      simp -implicitDefEqProofs [ht, ha, hm3, hm4, hmod, hmod2, hdv]
      exact ⟨row ++ [(sd * 16807 + (i : Int) * 7919 + 101) % 2147483647 / 65536 % 1000], by simp, by simp [hr]⟩
    · rintro env st' ⟨⟨c, sd, o, rfl⟩, row, rfl, hr⟩
      simp -implicitDefEqProofs
      exact ⟨row, rfl, hr, fun W => .app _ _ _⟩
end
/-! ### books -/
def n3 : Lay := .note "n" [[0, 1, 2], [1, 1, 1], [2, 2, 2]]
def n2 : Lay := .note "m" [[0, 1], [1, 0]]
def bookAt : Nat → String × List Lay
  | 0 => ("mixed", [.cell "c" 2, n3, .outside "o" [2, 3], .setting "s" 3, .fail "f" 2])
  | 1 => ("twochoose", [.setting "s" 2, .cell "c" 3, .fail "f" 3, .outside "o" [3], n2])
  | 2 => ("spread", [n2, .outside "a" [1, 2], .cell "c" 3, n3, .outside "b" [2]])
  | 3 => ("twodraw", [.fail "f" 1, .cell "c" 2, .cell "d" 3, .outside "o" [3, 2], n3])
  | 4 => ("spread", [.cell "c" 2, .setting "s" 3, .outside "o" [2, 2], n2, .cell "d" 2])
  | 5 => ("mixed", [])
  | _ => ("choose", [.setting "s" 3])
theorem book_ok (x : Int) (st : Mst) : ∃ j g, j < 7 ∧ m_law_book [.int x] st = .ok (.tup [.str (bookAt j).1, .tup ((bookAt j).2.map enc)]) (st ++ g) := by
  obtain ⟨j, hj, hjl⟩ := mod_nat (x := x) (m := 7) (by omega)
  have hm := fun st => gMod_int (i := x) (j := 7) (st := st) (by omega)
  rw [show ((7 : Nat) : Int) = 7 from rfl] at hj
  rw [hj] at hm
  rw [m_law_book, fnM1, b_law_book]
  simp -implicitDefEqProofs [hm]
  rw [gIx_lst_ap _ _ _ last_snoc, matI_cast]
  have : j = 0 ∨ j = 1 ∨ j = 2 ∨ j = 3 ∨ j = 4 ∨ j = 5 ∨ j = 6 := by omega
  rcases this with rfl | rfl | rfl | rfl | rfl | rfl | rfl
  · refine ⟨0, by omega, ?_⟩
    simp -implicitDefEqProofs [bookAt, enc, word, nameOf, third, nats, n3, n2]
  · refine ⟨1, by omega, ?_⟩
    simp -implicitDefEqProofs [bookAt, enc, word, nameOf, third, nats, n3, n2]
  · refine ⟨2, by omega, ?_⟩
    simp -implicitDefEqProofs [bookAt, enc, word, nameOf, third, nats, n3, n2]
  · refine ⟨3, by omega, ?_⟩
    simp -implicitDefEqProofs [bookAt, enc, word, nameOf, third, nats, n3, n2]
  · refine ⟨4, by omega, ?_⟩
    simp -implicitDefEqProofs [bookAt, enc, word, nameOf, third, nats, n3, n2]
  · refine ⟨5, by omega, ?_⟩
    simp -implicitDefEqProofs [bookAt, enc, word, nameOf, third, nats, n3, n2]
  · refine ⟨6, by omega, ?_⟩
    simp -implicitDefEqProofs [bookAt, enc, word, nameOf, third, nats, n3, n2]
end K02

set_option Elab.async false
set_option linter.all false
set_option maxRecDepth 100000
set_option autoImplicit false
namespace K02
open PySem BH
/-! ### names -/
def okN (x : Str) : Bool := decide (x.cps.size = 1) && (match x.cps[0]? with
  | some c => !(Builtin.Str.occurrences ("abcdefghijklmnopqrstuvwxyz" : Str) ⟨#[c]⟩ 0 ("abcdefghijklmnopqrstuvwxyz" : Str).length 1).isEmpty
  | none => false)
theorem name_ok {x : Str} (h : okN x = true) (st : Mst) : m_is_name [.str x] st = .ok (.bl true) st := by
  simp only [okN, Bool.and_eq_true, decide_eq_true_eq] at h
  obtain ⟨h1, h2⟩ := h
  split at h2
  · rename_i c hc
    have hin : ∀ st, gIn true (.str ⟨#[c]⟩) c_LETTERS st = .ok (.bl false) st := fun st => by
      simp only [gIn, itemsOf, c_LETTERS, if_true]
      rw [h2]
      rfl
    have hs : ∀ st, srcOf (.str x) st = .ok (srcStr x) st := fun st => rfl
    have hsz : (srcStr x).size = 1 := h1
    have hl : ∀ st, gLen [.str x] st = .ok (.int 1) st := fun st => by
      have e : x.length = 1 := h1
      simp [gLen, e]
    have n0 : ∀ st, (srcStr x).next 0 st = some (some (.str ⟨#[c]⟩)) := fun st => by simp only [srcStr, hc]; rfl
    have n1 : ∀ st, (srcStr x).next 1 st = some none := fun st => by
      have : x.cps[1]? = none := Array.getElem?_eq_none (by omega)
      simp only [srcStr, this]; rfl
    rw [m_is_name, fnM1, b_is_name]
    simp -implicitDefEqProofs [hs, hsz, hl, forL, n0, n1, hin]
  · cases h2
/-! ### tables -/
def at2 (tb : List (List Nat)) (x y : Nat) : Nat := ((tb[x]?.getD [])[y]?).getD 0
def isMon (tb : List (List Nat)) : Bool := decide (2 ≤ tb.length) && (decide (tb.length ≤ 6) && ((List.range tb.length).all (fun a => at2 tb 0 a == a && at2 tb a 0 == a) &&
  (List.range tb.length).all fun a => (List.range tb.length).all fun b => (List.range tb.length).all fun c => at2 tb (at2 tb a b) c == at2 tb a (at2 tb b c)))
theorem optBls_true {α : Type} : ∀ xs : List α, optBls (xs.map fun _ => MV.bl true) = some (xs.map fun _ => true)
  | [] => rfl
  | x :: xs => by simp only [List.map_cons, optBls, optBls_true xs, Option.map_some]
theorem gAll_true {α : Type} {xs : List α} {a : Nat} {st : Mst} (h : st[a]? = some (.lst (xs.map fun _ => MV.bl true))) : gAll [.ref a] st = .ok (.bl true) st := by
  simp only [gAll, itemsOf, h, Option.bind_some, optBls_true]
  simp
theorem monoid_ok {nm : Str} {tb : List (List Nat)} (hL : okL (.note nm tb) = true) (h : isMon tb = true) (st : Mst) : ∃ g, m_is_monoid [.tup (tb.map nats)] st = .ok (.bl true) (st ++ g) := by
  suffices h : Post (m_is_monoid [.tup (tb.map nats)] st) fun v st' => v = .bl true ∧ ∃ g, st' = st ++ g by
    obtain ⟨_, _, h, rfl, g, rfl⟩ := h
    exact ⟨g, h⟩
  simp only [okL, Bool.and_eq_true, List.all_eq_true, decide_eq_true_eq, beq_iff_eq] at hL
  simp only [isMon, Bool.and_eq_true, List.all_eq_true, decide_eq_true_eq, beq_iff_eq, List.mem_range] at h
  obtain ⟨h2, h6, hid, has⟩ := h
  have hrow : ∀ x, x < tb.length → (tb[x]?.getD []).length = tb.length ∧ ∀ y, y < tb.length → at2 tb x y < tb.length := fun x hx => by
    have he : tb[x]? = some tb[x] := by simp [hx]
    have := hL.2.2 tb[x] (by simp)
    rw [he, Option.getD_some]
    refine ⟨this.1, fun y hy => ?_⟩
    have hy' : tb[x][y]? = some (tb[x][y]'(by omega)) := by simp [this.1, hy]
    rw [at2, he, Option.getD_some, hy', Option.getD_some]
    exact this.2 _ (by simp)
  have e1 : ∀ x st, x < tb.length → gIx (.tup (tb.map nats)) (.int (x : Nat)) st = .ok (nats (tb[x]?.getD [])) st := fun x st hx => by simp [hx]
  have e2 : ∀ x y st, x < tb.length → y < tb.length → gIx (nats (tb[x]?.getD [])) (.int (y : Nat)) st = .ok (.int (at2 tb x y : Nat)) st := fun x y st hx hy => by
    have := (hrow x hx).1
    have hy' : (tb[x]?.getD [])[y]? = some ((tb[x]?.getD [])[y]'(by omega)) := by simp [hy, this]
    rw [nats, gIx_tup_ap, matI_cast, List.getElem?_map, at2, hy']
    rfl
  rw [m_is_monoid, fnM1, b_is_monoid]
  have q1 : (2 : Int) ≤ tb.length := by omega
  have q2 : (tb.length : Int) ≤ 6 := by omega
  simp -implicitDefEqProofs [q1, q2, srcOf_tup]
  refine .finB (.bind (.items (fun i env st' => (∃ o, env = [some (.tup (tb.map nats)), some (.int tb.length), o, none, none, none, none]) ∧ ∃ g, st' = st ++ g) ⟨⟨_, rfl⟩, [], by simp⟩ (by simp) ?_ ?_))
  · rintro i x env st' hx ⟨⟨o, rfl⟩, g, rfl⟩
    rw [List.getElem?_map] at hx
    obtain ⟨row, hr, rfl⟩ := Option.map_eq_some_iff.mp hx
    have hrl := hL.2.2 row (List.mem_of_getElem? hr)
    refine ⟨_, _, rfl, ?_⟩
    have hlen : ∀ st, gLen [nats row] st = .ok (.int tb.length) st := fun st => by simp [nats, hrl.1]
    have hsrc : ∀ st, srcOf (nats row) st = .ok (srcItems (row.map fun (x : Nat) => MV.int x)) st := fun st => rfl
    have hlc := lc_items (xs := row.map fun (x : Nat) => MV.int x) (m := row.length + 1) (D := (st ++ g).length) (t := .nm 6) (test := mYes) (elt := mChain gLe gLt (mC (.int 0)) (mVar 6) (mVar 1)) (env := [some (.tup (tb.map nats)), some (.int tb.length), some (nats row), none, none, none, none]) (st := st ++ g)
      (fun _ => some (.bl true)) (by simp; omega) (by simp) rfl (by
        intro q x acc hx
        rw [List.getElem?_map] at hx
        obtain ⟨z, hz, rfl⟩ := Option.map_eq_some_iff.mp hx
        have hzl := hrl.2 z (List.mem_of_getElem? hz)
        refine ⟨_, rfl, rfl, ?_⟩
        simp -implicitDefEqProofs
        omega)
    rw [filterMap_all] at hlc
    have hall := gAll_true (last_snoc (st := st ++ g) (o := .lst ((List.range (row.map fun (x : Nat) => MV.int x).length).map fun _ => MV.bl true)))
    simp -implicitDefEqProofs at hlc hall
    simp -implicitDefEqProofs [hlen, hsrc, hlc, hall]
  · rintro env st' ⟨⟨o, rfl⟩, g, rfl⟩
    obtain ⟨st1, e⟩ : ∃ x, x = st ++ g := ⟨_, rfl⟩
    rw [← e]
    have r := rngOf1_nat (j := (tb.length : Int)) (n := tb.length) (st := st1) rfl (by omega)
    simp -implicitDefEqProofs [r]
    refine .bind (.range (fun i env st' => (∃ o3 o4 o5, env = [some (.tup (tb.map nats)), some (.int tb.length), o, o3, o4, o5, none]) ∧ st' = st1) ⟨⟨_, _, _, rfl⟩, rfl⟩ rfl ?_ ?_)
    · rintro a env st' ha ⟨⟨o3, o4, o5, rfl⟩, rfl⟩
      refine ⟨_, _, rfl, ?_⟩
      have f0 := e1 0 st' (by omega)
      have f1 := e1 a st' ha
      have f2 := e2 0 a st' (by omega) ha
      have f3 := e2 a 0 st' ha (by omega)
      rw [(hid a ha).1] at f2
      rw [(hid a ha).2] at f3
      simp -implicitDefEqProofs only [Int.cast_ofNat_Int] at f0 f3
      simp -implicitDefEqProofs [f0, f1, f2, f3, r, -gIx_tup_ap]
      refine .of (.range (fun i env st'' => (∃ o4 o5, env = [some (.tup (tb.map nats)), some (.int tb.length), o, some (.int a), o4, o5, none]) ∧ st'' = st') ⟨⟨_, _, rfl⟩, rfl⟩ rfl ?_ ?_)
      · rintro b env st'' hb ⟨⟨o4, o5, rfl⟩, rfl⟩
        refine ⟨_, _, rfl, ?_⟩
        simp -implicitDefEqProofs [r]
        refine .of (.range (fun i env st' => (∃ o5, env = [some (.tup (tb.map nats)), some (.int tb.length), o, some (.int a), some (.int b), o5, none]) ∧ st' = st'') ⟨⟨_, rfl⟩, rfl⟩ rfl ?_ ?_)
        · rintro c env st' hc ⟨⟨o5, rfl⟩, rfl⟩
          refine ⟨_, _, rfl, ?_⟩
          have gb := e1 b st' hb
          have gab := e2 a b st' ha hb
          have hab := (hrow a ha).2 b hb
          have gx := e1 (at2 tb a b) st' hab
          have gabc := e2 (at2 tb a b) c st' hab hc
          have gbc := e2 b c st' hb hc
          have hbc := (hrow b hb).2 c hc
          have gabc' := e2 a (at2 tb b c) st' ha hbc
          rw [← has a ha b hb c hc] at gabc'
          simp -implicitDefEqProofs [f1, gb, gab, gx, gabc, gbc, gabc', -gIx_tup_ap]
        · rintro env st' ⟨⟨o5, rfl⟩, rfl⟩
          exact ⟨_, rfl, ⟨_, _, rfl⟩, rfl⟩
      · rintro env st' ⟨⟨o4, o5, rfl⟩, rfl⟩
        exact ⟨_, rfl, ⟨_, _, _, rfl⟩, rfl⟩
    · rintro env st' ⟨⟨o3, o4, o5, rfl⟩, rfl⟩
      simp -implicitDefEqProofs
      exact ⟨g, e⟩
/-! ### layers -/
def kindL : Lay → Bool
  | .cell _ n => decide (2 ≤ n ∧ n ≤ 3)
  | .setting _ n => decide (2 ≤ n ∧ n ≤ 3)
  | .fail _ n => decide (1 ≤ n ∧ n ≤ 3)
  | .note _ tb => isMon tb
  | .outside _ ar => decide (1 ≤ ar.length ∧ ar.length ≤ 2) && ar.all fun w => decide (1 ≤ w ∧ w ≤ 3)
theorem layer_ok {l : Lay} (h0 : okN (nameOf l) = true) (h1 : okL l = true) (h2 : kindL l = true) (st : Mst) : ∃ g, m_is_layer [enc l] st = .ok (.bl true) (st ++ g) := by
  rw [m_is_layer, fnM1, b_is_layer]
  have e0 : ∀ st, gIx (enc l) (.int 0) st = .ok (.str (word l)) st := fun st => by simp [enc]
  have e1 : ∀ st, gIx (enc l) (.int 1) st = .ok (.str (nameOf l)) st := fun st => by simp [enc]
  have hn := fun st => name_ok h0 st
  cases l with
  | cell nm n =>
    have e2 : ∀ st, gIx (enc (.cell nm n)) (.int 2) st = .ok (.int n) st := fun st => by simp [enc, third]
    simp only [kindL, decide_eq_true_eq] at h2
    have c1 : (2 : Int) ≤ n := by omega
    have c2 : (n : Int) ≤ 3 := by omega
    exact ⟨[], by simp -implicitDefEqProofs [e0, e1, e2, hn, word, c_VARIED, c1, c2, -gIx_tup_ap]⟩
  | setting nm n =>
    have e2 : ∀ st, gIx (enc (.setting nm n)) (.int 2) st = .ok (.int n) st := fun st => by simp [enc, third]
    simp only [kindL, decide_eq_true_eq] at h2
    have c1 : (2 : Int) ≤ n := by omega
    have c2 : (n : Int) ≤ 3 := by omega
    exact ⟨[], by simp -implicitDefEqProofs [e0, e1, e2, hn, word, c_VARIED, c1, c2, -gIx_tup_ap]⟩
  | fail nm n =>
    have e2 : ∀ st, gIx (enc (.fail nm n)) (.int 2) st = .ok (.int n) st := fun st => by simp [enc, third]
    simp only [kindL, decide_eq_true_eq] at h2
    have c1 : (1 : Int) ≤ n := by omega
    have c2 : (n : Int) ≤ 3 := by omega
    exact ⟨[], by simp -implicitDefEqProofs [e0, e1, e2, hn, word, c_VARIED, c1, c2, -gIx_tup_ap]⟩
  | note nm tb =>
    have e2 : ∀ st, gIx (enc (.note nm tb)) (.int 2) st = .ok (.tup (tb.map nats)) st := fun st => by simp [enc, third]
    obtain ⟨g, hg⟩ := monoid_ok h1 h2 st
    exact ⟨g, by simp -implicitDefEqProofs [e0, e1, e2, hn, word, c_VARIED, hg, -gIx_tup_ap]⟩
  | outside nm ar =>
    have e2 : ∀ st, gIx (enc (.outside nm ar)) (.int 2) st = .ok (nats ar) st := fun st => by simp [enc, third]
    simp only [kindL, Bool.and_eq_true, List.all_eq_true, decide_eq_true_eq] at h2
    have c1 : (1 : Int) ≤ ar.length := by omega
    have c2 : (ar.length : Int) ≤ 2 := by omega
    have hlen : ∀ st, gLen [nats ar] st = .ok (.int ar.length) st := fun st => by simp [nats]
    have hsrc : ∀ st, srcOf (nats ar) st = .ok (srcItems (ar.map fun (x : Nat) => MV.int x)) st := fun st => rfl
    have hlc := lc_items (xs := ar.map fun (x : Nat) => MV.int x) (m := ar.length + 1) (D := st.length) (t := .nm 1) (test := mYes) (elt := mChain gLe gLe (mC (.int 1)) (mVar 1) (mC (.int 3))) (env := [some (enc (.outside nm ar)), none]) (st := st)
      (fun _ => some (.bl true)) (by simp; omega) (by simp) rfl (by
        intro q x acc hx
        rw [List.getElem?_map] at hx
        obtain ⟨z, hz, rfl⟩ := Option.map_eq_some_iff.mp hx
        have hzl := h2.2 z (List.mem_of_getElem? hz)
        refine ⟨_, rfl, rfl, ?_⟩
        have d1 : (1 : Int) ≤ z := by omega
        have d2 : (z : Int) ≤ 3 := by omega
        simp -implicitDefEqProofs [d1, d2])
    rw [filterMap_all] at hlc
    have hall := gAll_true (last_snoc (st := st) (o := .lst ((List.range (ar.map fun (x : Nat) => MV.int x).length).map fun _ => MV.bl true)))
    simp -implicitDefEqProofs at hlc hall
    exact ⟨_, by simp -implicitDefEqProofs [e0, e1, e2, hn, word, c_VARIED, hlen, c1, c2, hsrc, hlc, hall, -gIx_tup_ap]; rfl⟩
theorem post_enum {xs : List MV} {m : Nat} {g : MG} {body : MS} {env : BH.Env} {st : Mst} {Q : Fl → Mst → Prop} (I : Nat → BH.Env → Mst → Prop) (h0 : I 0 env st) (hm : m = xs.length + 1)
    (step : ∀ i x env st, xs[i]? = some x → I i env st → ∃ env1 s1, g (.tup [.int i, x]) env st = .ok env1 s1 ∧ Turns (I (i + 1)) (body env1 s1)) (hk : ∀ env st, I xs.length env st → Q (.nx env) st) : Post (forL (srcEnum (srcItems xs)) g body m 0 env st) Q := by
  subst hm
  obtain ⟨env', st', h1, h2⟩ := for_rule (src := srcEnum (srcItems xs)) (g := g) (body := body) (n := xs.length) I (fun env st _ => by simp [srcEnum, srcItems]) (fun i env st hi h => by
    have hx : xs[i]? = some xs[i] := by simp [hi]
    obtain ⟨env1, s1, h1, h2⟩ := step i xs[i] env st hx h
    exact ⟨_, env1, s1, by simp [srcEnum, srcItems, hx], h1, h2⟩) (xs.length + 1) 0 env st (Nat.zero_le _) (by omega) h0
  exact ⟨_, _, h1, hk _ _ h2⟩
def mulS (ls : List Lay) : Nat → Int
  | 0 => 1
  | i + 1 => match ls[i]? with
    | some l => if varied l then mulS ls i * (count l : Int) else mulS ls i
    | none => mulS ls i
structure BookOk (k : String) (ls : List Lay) : Prop where
  good : Good ls
  kern : decide ((k : Str) ∈ k_CHOICES) = true
  names : ∀ l ∈ ls, okN (nameOf l) = true
  kinds : ∀ l ∈ ls, kindL l = true
  many : mulS ls ls.length ≤ 12
  diff : ∀ i < ls.length, ((ls.take i).map nameOf).all (fun x => !(x == ((ls[i]?.map nameOf).getD ""))) = true
theorem init_ok {k : String} {ls : List Lay} {a : Nat} {st : Mst} (B : BookOk k ls) (ha : st[a]? = some (.ins 0 [])) :
    Post (m_Book_init [.ref a, .str k, .tup (ls.map enc)] st) fun v st' => v = .non ∧ st'[a]? = some (bookO k ls) ∧ Fr [a] st st' := by
  rw [m_Book_init, fnM3, b_Book_init]
  have hl5 := B.good.1
  have hk : ∀ st, gInK true k_CHOICES (.str k) st = .ok (.bl false) st := fun st => by
    simp only [gInK, B.kern]
    rfl
  have q5 : ¬ (5 : Int) < ls.length := by omega
  have hsq : ∀ st, srcSeq (.tup (ls.map enc)) st = .ok (srcItems (ls.map enc)) st := fun st => rfl
  have hsz : (srcEnum (srcItems (ls.map enc))).size = ls.length := by simp [srcEnum, srcItems]
  simp -implicitDefEqProofs [hk, c_MOST_LAYERS, q5, hsq, hsz]
  refine .finB (.bind (post_enum (fun i env st' => (∃ o5 o6, env = [some (.ref a), some (.str k), some (.tup (ls.map enc)), some (.ref st.length), some (.int (mulS ls i)), o5, o6]) ∧ Fr [] st st' ∧ st'[st.length]? = some (.lst (((ls.take i).map nameOf).map MV.str))) ⟨⟨_, _, rfl⟩, .app _ _ _, last_snoc⟩ (by simp) ?_ ?_))
  · rintro i x env st' hx ⟨⟨o5, o6, rfl⟩, Fi, hN⟩
    rw [List.getElem?_map] at hx
    obtain ⟨l, h, rfl⟩ := Option.map_eq_some_iff.mp hx
    have hm := List.mem_of_getElem? h
    have hi := (List.getElem?_eq_some_iff.mp h).1
    refine ⟨_, _, rfl, ?_⟩
    obtain ⟨g, hy⟩ := layer_ok (B.names l hm) (B.good.2 l hm) (B.kinds l hm) st'
    have hN2 := up hN (g := g)
    have hdf := B.diff i hi
    rw [h] at hdf
    have hin : gIn false (.str (nameOf l)) (.ref st.length) (st' ++ g) = .ok (.bl false) (st' ++ g) := by
      have q1 : (((ls.take i).map nameOf).map MV.str).all mflat = true := by
        rw [List.all_eq_true]
        intro z hz
        obtain ⟨y, _, rfl⟩ := List.mem_map.mp hz
        rfl
      have q2 : ((((ls.take i).map nameOf).map MV.str).any fun z => meq z (.str (nameOf l))) = false := by
        rw [List.all_eq_true] at hdf
        rw [List.any_eq_false]
        intro z hz
        obtain ⟨y, hy, rfl⟩ := List.mem_map.mp hz
        have := hdf y hy
        simpa [meq] using this
      simp only [gIn, itemsOf, hN2, q1, q2]
      rfl
    have e0 : ∀ st, gIx (enc l) (.int 0) st = .ok (.str (word l)) st := fun st => by simp [enc]
    have e1 : ∀ st, gIx (enc l) (.int 1) st = .ok (.str (nameOf l)) st := fun st => by simp [enc]
    have ht := tyM_lst hN2
    have hap := gAppend_lst (y := .str (nameOf l)) hN2 (by simp; omega)
    have tk : (ls.take (i + 1)).map nameOf = (ls.take i).map nameOf ++ [nameOf l] := by rw [take_snoc h]; simp
    have fin : Fr [] st ((st' ++ g).set st.length (.lst (((ls.take i).map nameOf).map MV.str ++ [.str (nameOf l)]))) ∧ ((st' ++ g).set st.length (.lst (((ls.take i).map nameOf).map MV.str ++ [.str (nameOf l)])))[st.length]? = some (.lst (((ls.take (i + 1)).map nameOf).map MV.str)) := by
      refine ⟨(((Fi.mono (by simp)).trans (.app _ _ _)).trans (.put st.length _ _)).new (Nat.le_refl _) _, ?_⟩
      rw [List.getElem?_set_self (lt_of hN2), tk]
      simp
    simp -implicitDefEqProofs at fin
    by_cases hv : varied l
    · have e2 : ∀ st, gIx (enc l) (.int 2) st = .ok (.int (count l)) st := fun st => by cases l <;> simp [enc, varied, third, count] at hv ⊢
      have hmm := fun st => gMul_r (mulS ls i) (count l : Int) st (by have := B.good.at h; simp [small64]; omega)
      simp -implicitDefEqProofs [hy, hin, e0, e1, ht, hap, gIn_varied, hv, e2, hmm, mulS, h, -gIx_tup_ap]
      exact ⟨fin.1, fin.2⟩
    · simp -implicitDefEqProofs [hy, hin, e0, e1, ht, hap, gIn_varied, hv, mulS, h, -gIx_tup_ap]
      exact ⟨fin.1, fin.2⟩
  · rintro env st' ⟨⟨o5, o6, rfl⟩, Fi, hN⟩
    have hmy := B.many
    have q12 : ¬ (12 : Int) < mulS ls ls.length := by omega
    have ha' := Fi a _ (by simp) ha
    have p1 : putFM [0] "kernel" (.ref a) (.str k) st' = .ok () (st'.set a (.ins 0 [("kernel", .str k)])) := by
      rw [putFM_ins ha' (by simp) (by simp)]; rfl
    have ha2 : (st'.set a (.ins 0 [("kernel", .str k)]))[a]? = some (.ins 0 [("kernel", .str k)]) := List.getElem?_set_self (lt_of ha')
    have p2 : putFM [0] "layers" (.ref a) (.tup (ls.map enc)) (st'.set a (.ins 0 [("kernel", .str k)])) = .ok () (st'.set a (.ins 0 [("kernel", .str k), ("layers", .tup (ls.map enc))])) := by
      rw [putFM_ins ha2 (by simp) (by simp), List.set_set]
      simp [mputF]
    have ha3 : (st'.set a (.ins 0 [("kernel", .str k), ("layers", .tup (ls.map enc))]))[a]? = some (.ins 0 [("kernel", .str k), ("layers", .tup (ls.map enc))]) := List.getElem?_set_self (lt_of ha')
    have p3 : putFM [0] "size" (.ref a) (.int ls.length) (st'.set a (.ins 0 [("kernel", .str k), ("layers", .tup (ls.map enc))])) = .ok () (st'.set a (bookO k ls)) := by
      rw [putFM_ins ha3 (by simp) (by simp), List.set_set]
      simp [mputF, bookO]
    rw [List.length_map]
    simp -implicitDefEqProofs [c_MOST_STARTS, q12, p1, p2, p3]
    exact ⟨List.getElem?_set_self (lt_of ha'), (Fi.mono (by simp)).trans (.put _ _ _)⟩
theorem bookAt_ok : ∀ j, j < 7 → BookOk (bookAt j).1 (bookAt j).2
  | 0, _ => ⟨⟨by decide, by decide +kernel⟩, by decide +kernel, by decide +kernel, by decide +kernel, by decide +kernel, by decide +kernel⟩
  | 1, _ => ⟨⟨by decide, by decide +kernel⟩, by decide +kernel, by decide +kernel, by decide +kernel, by decide +kernel, by decide +kernel⟩
  | 2, _ => ⟨⟨by decide, by decide +kernel⟩, by decide +kernel, by decide +kernel, by decide +kernel, by decide +kernel, by decide +kernel⟩
  | 3, _ => ⟨⟨by decide, by decide +kernel⟩, by decide +kernel, by decide +kernel, by decide +kernel, by decide +kernel, by decide +kernel⟩
  | 4, _ => ⟨⟨by decide, by decide +kernel⟩, by decide +kernel, by decide +kernel, by decide +kernel, by decide +kernel, by decide +kernel⟩
  | 5, _ => ⟨⟨by decide, by decide +kernel⟩, by decide +kernel, by decide +kernel, by decide +kernel, by decide +kernel, by decide +kernel⟩
  | 6, _ => ⟨⟨by decide, by decide +kernel⟩, by decide +kernel, by decide +kernel, by decide +kernel, by decide +kernel, by decide +kernel⟩
  | j + 7, h => by omega
end K02

set_option Elab.async false
set_option linter.all false
set_option maxRecDepth 100000
set_option autoImplicit false
namespace K02
open PySem BH
theorem playinit_ok {a B H : Nat} {s nn : List Int} {st : Mst} (ha : st[a]? = some (.ins 1 [])) (hH : st[H]? = some (.lst (nn.map .int))) :
    Post (m_Play_init [.ref a, .ref B, itup s, .ref H] st) fun v st' => v = .non ∧ ∃ T, st'[a]? = some (.ins 1 (playF B T s nn 0 0)) ∧ st'[T]? = some (.lst []) ∧ st.length ≤ T ∧ Fr [a] st st' := by
  rw [m_Play_init, fnM4, b_Play_init]
  have aH : a ≠ H := fun e => by rw [e, hH] at ha; cases ha
  have step : ∀ (st : Mst) (fs : Mfs) (f : Str) (v : MV), st[a]? = some (.ins 1 fs) → fs.length < 900 → ∃ st', putFM [1] f (.ref a) v st = .ok () st' ∧ st'[a]? = some (.ins 1 (mputF f v fs)) ∧ Fr [a] st st' := fun st fs f v h hl =>
    ⟨_, putFM_ins h (by simp) hl, List.getElem?_set_self (lt_of h), .put _ _ _⟩
  obtain ⟨s1, p1, a1, F1⟩ := step st [] "book" (.ref B) ha (by simp)
  obtain ⟨s2, p2, a2, F2⟩ := step s1 _ "state" (itup s) a1 (by simp [mputF])
  have H2 := F2 H _ (by simpa using aH.symm) (F1 H _ (by simpa using aH.symm) hH)
  have t2 := gTuple_lst H2
  rw [show MV.tup (nn.map MV.int) = itup nn from rfl] at t2
  have t1 : ∀ st, gTuple [itup s] st = .ok (itup s) st := fun st => rfl
  obtain ⟨s3, p3, a3, F3⟩ := step s2 _ "script" (itup nn) a2 (by simp [mputF])
  obtain ⟨s4, p4, a4, F4⟩ := step s3 _ "taken" (.int 0) a3 (by simp [mputF])
  obtain ⟨s5, p5, a5, F5⟩ := step s4 _ "deeds" (.int 0) a4 (by simp [mputF])
  obtain ⟨s6, p6, a6, F6⟩ := step (s5 ++ [.lst []]) _ "trail" (.ref s5.length) (up a5) (by simp [mputF])
  have F05 := F1.trans (F2.trans (F3.trans (F4.trans F5)))
  have hne : s5.length ≠ a := by have := lt_of a5; omega
  have hle : st.length ≤ s5.length := by
    rcases Nat.lt_or_ge s5.length st.length with h | h
    · have e : st[s5.length]? = some (st[s5.length]) := by simp
      have := lt_of (F05 s5.length _ (by simpa using hne) e)
      omega
    · exact h
  simp -implicitDefEqProofs [p1, t1, p2, t2, p3, p4, p5, p6]
  refine ⟨s5.length, ?_, ?_, hle, F05.trans ((Fr.app _ _ _).trans F6)⟩
  · rw [a6]
    simp [mputF]
  · exact F6 _ _ (by simpa using hne) last_snoc
/-! ### the end -/
def isFail : Lay → Bool
  | .fail _ _ => true
  | _ => false
theorem isFail_w (l : Lay) : isFail l = (word l == "fail") := by cases l <;> rfl
inductive End where
  | ret (t : String)
  | fail (n : Nat) (kind : Int)
def okE (ls : List Lay) : End → Prop
  | .ret _ => True
  | .fail n _ => n ≤ ls.length
def encE : End → MV
  | .ret t => .tup [.str "ret", .str t]
  | .fail n k => .tup [.str "fail", .int (n + 1), .int k]
def endS (ls : List Lay) (s : List Int) : End → MV
  | .ret t => .tup [.str "done", .str t, itup (keptS ls s ls.length)]
  | .fail n k => .tup [.str "fail", .int (n + 1), .int k, itup (keptS ls s n)]
section
variable {A R : Nat} {ls : List Lay} {s row : List Int} {st : Mst}
theorem end_ok (hA : st[A]? = some (.lst (s.map .int))) (hR : st[R]? = some (.lst (row.map .int))) (hr : row.length = 3) (G : Good ls) (hs : s.length = ls.length) :
    Post (m_law_end [.tup (ls.map enc), .ref A, .ref R] st) fun v st' => ∃ E, okE ls E ∧ v = .tup [encE E, endS ls s E] ∧ ∀ W, Fr W st st' := by
  rw [m_law_end, fnM3, b_law_end]
  have hl5 := G.1
  have r := rngOf1_nat (j := (ls.length : Int)) (n := ls.length) (st := st) rfl (by omega)
  obtain ⟨ys, hys⟩ : ∃ x, x = (List.range ls.length).filterMap fun i => match ls[i]? with
    | some l => if isFail l then some (i + 1) else none
    | none => none := ⟨_, rfl⟩
  have hym : ∀ y ∈ ys, ∃ n nm c, y = n + 1 ∧ ls[n]? = some (Lay.fail nm c) := by
    intro y hy
    rw [hys, List.mem_filterMap] at hy
    obtain ⟨i, _, h⟩ := hy
    cases hl : ls[i]? with
    | none => rw [hl] at h; cases h
    | some l =>
      rw [hl] at h
      cases l with
      | fail nm c => exact ⟨i, nm, c, by simpa [isFail] using h.symm, hl⟩
      | _ => simp [isFail] at h
  have hlc := lc_range (lo := 0) (n := ls.length) (m := ls.length + 1) (D := st.length) (t := .nm 7) (test := mTest (mBin gEq (mBin gIx (mBin gIx (mVar 0) (mVar 7)) (mC (.int 0))) (mC (.str "fail")))) (elt := mBin gAdd (mVar 7) (mC (.int 1))) (env := [some (.tup (ls.map enc)), some (.ref A), some (.ref R), none, none, none, none, none]) (st := st)
    (fun i => (match ls[i]? with | some l => if isFail l then some (i + 1) else none | none => none).map fun (y : Nat) => MV.int y) (by omega) rfl rfl (by
      intro q acc hq
      obtain ⟨l, h⟩ := get_of hq
      refine ⟨_, rfl, ?_⟩
      have el : ∀ st, gIx (.tup (ls.map enc)) (.int q) st = .ok (enc l) st := fun st => by simp [h]
      have ew : ∀ st, gIx (enc l) (.int 0) st = .ok (.str (word l)) st := fun st => by simp [enc]
      by_cases hf : isFail l
      · have hf' := hf
        rw [isFail_w] at hf'
        simp only [beq_iff_eq] at hf'
        simp -implicitDefEqProofs [h, hf, el, ew, hf', -gIx_tup_ap]
      · have hf' := hf
        rw [isFail_w] at hf'
        simp only [beq_iff_eq] at hf'
        simp -implicitDefEqProofs [h, hf, el, ew, hf', -gIx_tup_ap])
  rw [← List.map_filterMap, ← hys] at hlc
  obtain ⟨st1, e1⟩ : ∃ x, x = st ++ [MO.lst (ys.map fun (y : Nat) => MV.int y)] := ⟨_, rfl⟩
  obtain ⟨D, eD⟩ : ∃ x, x = st.length := ⟨_, rfl⟩
  have hD : st1[D]? = some (.lst (ys.map fun (y : Nat) => MV.int y)) := by rw [e1, eD]; exact last_snoc
  rw [← e1] at hlc
  have F1 : ∀ W, Fr W st st1 := fun W => by rw [e1]; exact .app _ _ _
  have hR1 := F1 [] R _ (by simp) hR
  have hA1 := F1 [] A _ (by simp) hA
  obtain ⟨q0, hq0⟩ := get_of (xs := row) (i := 0) (by omega)
  obtain ⟨q1, hq1⟩ := get_of (xs := row) (i := 1) (by omega)
  obtain ⟨q2, hq2⟩ := get_of (xs := row) (i := 2) (by omega)
  have g0 : ∀ g, gIx (.ref R) (.int 0) (st1 ++ g) = .ok (.int q0) (st1 ++ g) := fun g => gIx_lst (up hR1) (k := 0) rfl (by simp [hq0])
  have g1 : ∀ g, gIx (.ref R) (.int 1) (st1 ++ g) = .ok (.int q1) (st1 ++ g) := fun g => gIx_lst (up hR1) (k := 1) rfl (by simp [hq1])
  have g2 : ∀ g, gIx (.ref R) (.int 2) (st1 ++ g) = .ok (.int q2) (st1 ++ g) := fun g => gIx_lst (up hR1) (k := 2) rfl (by simp [hq2])
  have g0' := g0 []
  rw [List.append_nil] at g0'
  have m3 := fun i st => gMod_int (i := i) (j := 3) (st := st) (by omega)
  -- the ending with a return
  have fin : ∀ g, Post (finB ((sSeq (sAsg (mBin gIx (mLst (mCons (mC (.str "0")) (mCons (mC (.str "(1 0)")) (mCons (mC (.str "12")) mNil)))) (mBin gMod (mBin gIx (mVar 2) (mC (.int 1))) (mC (.int 3)))) (gtName 6))
      (sRet (mTup (mCons (mTup (mCons (mC (.str "ret")) (mCons (mVar 6) mNil))) (mCons (mTup (mCons (mC (.str "done")) (mCons (mVar 6) (mCons (mCallF m_law_kept (mCons (mVar 0) (mCons (mVar 1) (mCons (mBin gAdd (mCallB gLen (mCons (mVar 0) mNil)) (mC (.int 1))) mNil))) []) mNil)))) mNil)))))
      [some (.tup (ls.map enc)), some (.ref A), some (.ref R), some (.ref D), none, none, none, none] (st1 ++ g))) fun v st' => ∃ E, okE ls E ∧ v = .tup [encE E, endS ls s E] ∧ ∀ W, Fr W st st' := by
    intro g
    have gg := g1 (g ++ [.lst [.str "0", .str "(1 0)", .str "12"]])
    rw [← List.append_assoc] at gg
    obtain ⟨t, ht⟩ : ∃ t : String, gIx (.ref (st1 ++ g).length) (.int (q1 % 3)) (st1 ++ g ++ [.lst [.str "0", .str "(1 0)", .str "12"]]) = .ok (.str t) (st1 ++ g ++ [.lst [.str "0", .str "(1 0)", .str "12"]]) := by
      obtain ⟨j, hj, hjl⟩ := mod_nat (x := q1) (m := 3) (by omega)
      rw [show ((3 : Nat) : Int) = 3 from rfl] at hj
      rw [hj, gIx_lst_ap _ _ _ last_snoc, matI_cast]
      have : j = 0 ∨ j = 1 ∨ j = 2 := by omega
      rcases this with rfl | rfl | rfl
      · exact ⟨_, rfl⟩
      · exact ⟨_, rfl⟩
      · exact ⟨_, rfl⟩
    obtain ⟨g3, hk⟩ := lawkept_ok (ls := ls) (st := st1 ++ g ++ [.lst [.str "0", .str "(1 0)", .str "12"]]) (itemsOf_up (itemsOf_up (itemsOf_lst hA1))) hs (Nat.le_refl _) hl5
    simp -implicitDefEqProofs only [sSeq_ap, sAsg_ap, mBin_ap, mLst_ap, mCons_ap, mC_ap, mNil_ap, Res.bind_ok, newL_ap, List.length_cons, List.length_nil, if_pos (show 0 + 1 + 1 + 1 ≤ 16777216 by omega), mVar_ap, getO, List.getElem?_cons_succ, List.getElem?_cons_zero, gg, m3, ht, bindX_ok, gtName_ap, List.set, sRet_ap, mTup_ap, mCallF_ap, mCallB_ap, gLen_tup, List.length_map, gAdd_int, List.append_nil, hk, if_pos (show 0 + 1 + 1 ≤ 16777216 by omega), finB_rt, post_ok]
    exact ⟨.ret t, trivial, rfl, fun W => (F1 W).trans (((Fr.app _ _ _).trans (.app _ _ _)).trans (.app _ _ _))⟩
  subst eD
  obtain ⟨TL, hTL⟩ : ∃ x : MS, x = (sSeq (sAsg (mBin gIx (mLst (mCons (mC (.str "0")) (mCons (mC (.str "(1 0)")) (mCons (mC (.str "12")) mNil)))) (mBin gMod (mBin gIx (mVar 2) (mC (.int 1))) (mC (.int 3)))) (gtName 6))
      (sRet (mTup (mCons (mTup (mCons (mC (.str "ret")) (mCons (mVar 6) mNil))) (mCons (mTup (mCons (mC (.str "done")) (mCons (mVar 6) (mCons (mCallF m_law_kept (mCons (mVar 0) (mCons (mVar 1) (mCons (mBin gAdd (mCallB gLen (mCons (mVar 0) mNil)) (mC (.int 1))) mNil))) []) mNil)))) mNil))))) := ⟨_, rfl⟩
  rw [← hTL] at fin ⊢
  have f0 := fin []
  rw [List.append_nil] at f0
  by_cases hq : q0 % 3 = 0
  · have hn2 : (st1 ++ [MO.lst []])[st1.length]? = some (.lst []) := last_snoc
    have da : ∀ (a : Nat) (zs : List Nat) (st : Mst), st[a]? = some (.lst (zs.map fun (y : Nat) => MV.int y)) → dat st 64 (.ref a) = some (.list (zs.map fun (y : Nat) => .int y)) := fun a zs st h => by
      simp only [dat, h]
      rw [optAll_map (f := dat st 63) (g := fun (y : Nat) => MV.int y) (k := fun (y : Nat) => PyData.int y) (fun x => rfl)]
      rfl
    have d1 := da _ ys _ (up hD (g := [.lst []]))
    have d2 := da _ [] _ hn2
    cases ys with
    | nil =>
      have ne := gNe_same d1 d2
      simp -implicitDefEqProofs [r, hlc, g0', m3, hq, ne]
      exact fin [.lst []]
    | cons y ys =>
      have ne : gNe (.ref st.length) (.ref st1.length) (st1 ++ [.lst []]) = .ok (.bl true) (st1 ++ [.lst []]) := by
        simp only [gNe, d1, d2]
        simp [PyData.eqv, PyData.eqvAll]
      have gl := gLen_lst (up hD (g := [.lst []]))
      rw [List.length_map] at gl
      obtain ⟨j, hj, hjl⟩ := mod_nat (x := q1) (m := (y :: ys).length) (by simp)
      have gm := gMod_int (i := q1) (j := ((y :: ys).length : Int)) (st := st1 ++ [.lst []]) (by simp)
      rw [hj] at gm
      obtain ⟨w, hw⟩ := get_of hjl
      obtain ⟨n, nm, c, rfl, hn⟩ := hym w (List.mem_of_getElem? hw)
      have gk : gIx (.ref st.length) (.int j) (st1 ++ [.lst []]) = .ok (.int (n + 1)) (st1 ++ [.lst []]) := gIx_lst (up hD) (k := j) rfl (by rw [List.getElem?_map, hw]; rfl)
      have hnl := (List.getElem?_eq_some_iff.mp hn).1
      have e2 : ∀ st, gIx (enc (.fail nm c)) (.int 2) st = .ok (.int c) st := fun st => by simp [enc, third]
      have el : ∀ st, gIx (.tup (ls.map enc)) (.int n) st = .ok (enc (.fail nm c)) st := fun st => by simp [hn]
      have mc := fun st => gMod_int (i := q2) (j := (c : Int)) (st := st) (by have := (G.at hn).1; simpa [count] using this)
      obtain ⟨g3, hk⟩ := lawkept_ok (ls := ls) (st := st1 ++ [.lst []]) (itemsOf_up (itemsOf_lst hA1)) hs (Nat.le_of_lt hnl) hl5
      rw [hTL]
      simp -implicitDefEqProofs only [List.length_cons, Int.natCast_add, Int.cast_ofNat_Int] at gl gm
      simp -implicitDefEqProofs [r, hlc, g0', m3, hq, ne, g1, g2, gl, gm, gk, el, e2, mc, hk, -gIx_tup_ap]
      exact ⟨.fail n (q2 % c), Nat.le_of_lt hnl, ⟨rfl, rfl⟩, fun W => (F1 W).trans (.app _ _ _)⟩
  · simp -implicitDefEqProofs [r, hlc, g0', m3, hq]
    exact f0
end
end K02

set_option Elab.async false
set_option linter.all false
set_option maxRecDepth 100000
set_option autoImplicit false
namespace K02
open PySem BH
section
variable {F : Nat} {ls : List Lay} {ds : List Deed} {st : Mst}
/-- a comprehension of deeds, joined to those found -/
theorem join_ok {xs : List Deed} (hF : st[F]? = some (.lst (ds.map encD))) (hl : ds.length + xs.length ≤ 16777216) : ∃ st', gAdd (.ref F) (.ref st.length) (st ++ [.lst (xs.map encD)]) = .ok (.ref (st.length + 1)) st' ∧ st'[st.length + 1]? = some (.lst ((ds ++ xs).map encD)) ∧ ∀ W, Fr W st st' := by
  have h := gAdd_lst (up hF (g := [MO.lst (xs.map encD)])) last_snoc (by simpa using hl)
  rw [List.length_append] at h
  refine ⟨_, h, ?_, fun W => (Fr.app _ _ _).trans (.app _ _ _)⟩
  rw [← List.map_append, show st.length + 1 = (st ++ [MO.lst (xs.map encD)]).length by simp]
  exact last_snoc
theorem deedsloop {base m : Nat} {st0 : Mst} {e0 o3 o4 o6 o7 : Option MV} {Q : Fl → Mst → Prop} (G : Good ls) (hF : st[F]? = some (.lst (ds.map encD))) (hds : ∀ d ∈ ds, okD ls d) (hne : ds ≠ []) (hdl : ds.length ≤ 10) (hb : st0.length ≤ F) (hfr : ∀ W, Fr W st0 st) (hm : m = ls.length + 1)
    (hk : ∀ F' ds' st' o3 o4 o6 o7, st'[F']? = some (.lst (ds'.map encD)) → (∀ d ∈ ds', okD ls d) → ds' ≠ [] → st0.length ≤ F' → (∀ W, Fr W st0 st') → Q (.nx [e0, some (.tup (ls.map enc)), some (.ref F'), o3, o4, none, o6, o7]) st') :
    Post (forL (srcRange 0 ls.length) (gtName 3) (sSeq (sAsg (mBin gIx (mVar 1) (mVar 3)) (gtName 4))
    (sSeq (sIf (mTest (mBin gEq (mBin gIx (mVar 4) (mC (.int 0))) (mC (.str "cell")))) (sAsg (mBin gAdd (mBin gAdd (mVar 2) (mLst (mCons (mTup (mCons (mC (.str "get")) (mCons (mBin gAdd (mVar 3) (mC (.int 1))) mNil))) mNil))) (mLc (iRange1 (mCons (mBin gIx (mVar 4) (mC (.int 2))) mNil)) [5] (.nm 5) mYes (mTup (mCons (mC (.str "put")) (mCons (mBin gAdd (mVar 3) (mC (.int 1))) (mCons (mVar 5) mNil)))))) (gtName 2)) sNext)
    (sSeq (sIf (mTest (mBin gEq (mBin gIx (mVar 4) (mC (.int 0))) (mC (.str "setting")))) (sExpr (mBM "list" gAppend (mVar 2) (mCons (mTup (mCons (mC (.str "look")) (mCons (mBin gAdd (mVar 3) (mC (.int 1))) mNil))) mNil))) sNext)
    (sSeq (sIf (mTest (mBin gEq (mBin gIx (mVar 4) (mC (.int 0))) (mC (.str "note")))) (sAsg (mBin gAdd (mVar 2) (mLc (iRange1 (mCons (mCallB gLen (mCons (mBin gIx (mVar 4) (mC (.int 2))) mNil)) mNil)) [6] (.nm 6) mYes (mTup (mCons (mC (.str "note")) (mCons (mBin gAdd (mVar 3) (mC (.int 1))) (mCons (mVar 6) mNil)))))) (gtName 2)) sNext)
    (sIf (mTest (mBin gEq (mBin gIx (mVar 4) (mC (.int 0))) (mC (.str "outside")))) (sAsg (mBin gAdd (mVar 2) (mLc (iRange1 (mCons (mCallB gLen (mCons (mBin gIx (mVar 4) (mC (.int 2))) mNil)) mNil)) [7] (.nm 7) mYes (mTup (mCons (mC (.str "ask")) (mCons (mBin gAdd (mVar 3) (mC (.int 1))) (mCons (mVar 7) mNil)))))) (gtName 2)) sNext)))))
      m 0 [e0, some (.tup (ls.map enc)), some (.ref F), o3, o4, none, o6, o7] st) Q := by
  have hl5 := G.1
  refine .range (fun i env st' => ∃ F' ds' o3 o4 o6 o7, env = [e0, some (.tup (ls.map enc)), some (.ref F'), o3, o4, none, o6, o7] ∧ st'[F']? = some (.lst (ds'.map encD)) ∧ (∀ d ∈ ds', okD ls d) ∧ ds' ≠ [] ∧ st0.length ≤ F' ∧ (∀ W, Fr W st0 st') ∧ ds'.length ≤ 10 + i * 1001)
    ⟨F, ds, _, _, _, _, rfl, hF, hds, hne, hb, hfr, by omega⟩ hm ?_ ?_
  · rintro i env st' hi ⟨F', ds', o3, o4, o6, o7, rfl, hF', hds', hne', hb', hfr', hl'⟩
    obtain ⟨l, h⟩ := get_of hi
    refine ⟨_, _, rfl, ?_⟩
    have el : ∀ st, gIx (.tup (ls.map enc)) (.int i) st = .ok (enc l) st := fun st => by simp [h]
    have ew : ∀ st, gIx (enc l) (.int 0) st = .ok (.str (word l)) st := fun st => by simp [enc]
    have hcl := G.2 l (List.mem_of_getElem? h)
    have lcc : ∀ (sl : Nat) (kind : String) (f : Nat → Deed) (n : Nat) (st2 : Mst) (hsl : sl = 5 ∨ sl = 6 ∨ sl = 7) (hf : ∀ x, encD (f x) = .tup [.str kind, .int (i + 1), .int x]) (hn : n < 1001) (env : BH.Env) (he : env = [e0, some (.tup (ls.map enc)), some (.ref F'), some (.int i), some (enc l), none, o6, o7]),
        lcL (srcRange 0 n) (.nm sl) mYes (mTup (mCons (mC (.str kind)) (mCons (mBin gAdd (mVar 3) (mC (.int 1))) (mCons (mVar sl) mNil)))) (env.set sl none) st2.length (n + 1) 0 (st2 ++ [.lst []]) = .ok (.ref st2.length) (st2 ++ [.lst (((List.range n).map f).map encD)]) := by
      intro sl kind f n st2 hsl hf hn env he
      rw [lc_range (fun x => some (encD (f x))) (by omega) rfl rfl, filterMap_all, List.map_map]
      · rfl
      · intro q acc hq
        refine ⟨_, rfl, rfl, ?_⟩
        subst he
        rw [hf]
        rcases hsl with rfl | rfl | rfl
        · simp -implicitDefEqProofs
        · simp -implicitDefEqProofs
        · simp -implicitDefEqProofs
    have more : ∀ xs : List Deed, (∀ d ∈ xs, okD ls d) → ∀ d ∈ ds' ++ xs, okD ls d := fun xs h d hd => by
      rcases List.mem_append.mp hd with hd | hd
      · exact hds' d hd
      · exact h d hd
    have ne2 : ∀ xs : List Deed, ¬ ds' ++ xs = [] := fun xs => by simp [hne']
    cases l with
    | cell nm n =>
      have e2 : ∀ st, gIx (enc (.cell nm n)) (.int 2) st = .ok (.int n) st := fun st => by simp [enc, third]
      have hn : n < 4 := by simp [okL] at hcl; omega
      obtain ⟨st2, h1, h2, h3⟩ := join_ok (xs := [Deed.get i]) hF' (by simp; omega)
      have r := rngOf1_nat (j := (n : Int)) (n := n) (st := st2) rfl (by omega)
      have hlc := lcc 5 "put" (fun x => .put i x) n st2 (by omega) (fun x => rfl) (by omega) _ rfl
      obtain ⟨xs, hxs⟩ : ∃ xs, xs = (List.range n).map fun x => Deed.put i x := ⟨_, rfl⟩
      rw [← hxs] at hlc
      have hxl : xs.length = n := by rw [hxs]; simp
      obtain ⟨st3, k1, k2, k3⟩ := join_ok (xs := xs) h2 (by simp; omega)
      simp -implicitDefEqProofs only [List.set] at hlc
      simp -implicitDefEqProofs only [List.map_cons, List.map_nil, encD] at h1
      simp -implicitDefEqProofs [el, ew, word, e2, h1, r, hlc, k1, -gIx_tup_ap]
      refine ⟨_, k2, ?_, ?_, by have := lt_of hF'; have := lt_of h2; omega, fun W => (hfr' W).trans ((h3 W).trans (k3 W)), by simp [hxl]; omega⟩
      · rw [List.append_assoc]
        refine more _ fun d hd => ?_
        rcases List.mem_append.mp hd with hd | hd
        · simp only [List.mem_singleton] at hd
          subst hd
          exact hi
        · rw [hxs] at hd
          obtain ⟨x, _, rfl⟩ := List.mem_map.mp hd
          exact ⟨nm, n, h⟩
      · rw [List.append_assoc]; exact ne2 _
    | setting nm n =>
      have ht := tyM_lst hF'
      have ha := gAppend_lst (y := .tup [.str "look", .int (i + 1)]) hF' (by simp; omega)
      simp -implicitDefEqProofs [el, ew, word, ht, ha, -gIx_tup_ap]
      refine ⟨ds' ++ [.look i], by rw [List.getElem?_set_self (lt_of hF')]; simp [encD], more _ fun d hd => ?_, ne2 _, hb', fun W => (((hfr' [F']).trans (.put F' _ _)).new hb' W), by simp; omega⟩
      simp only [List.mem_singleton] at hd
      subst hd
      exact hi
    | fail nm n =>
      simp -implicitDefEqProofs [el, ew, word, -gIx_tup_ap]
      exact ⟨ds', hF', hds', hne', hb', hfr', by omega⟩
    | note nm tb =>
      have e2 : ∀ st, gIx (enc (.note nm tb)) (.int 2) st = .ok (.tup (tb.map nats)) st := fun st => by simp [enc, third]
      have hn : tb.length < 1000 := by simp [okL] at hcl; omega
      have r := rngOf1_nat (j := (tb.length : Int)) (n := tb.length) (st := st') rfl (by omega)
      have hlc := lcc 6 "note" (fun x => .note i x) tb.length st' (by omega) (fun x => rfl) (by omega) _ rfl
      obtain ⟨xs, hxs⟩ : ∃ xs, xs = (List.range tb.length).map fun x => Deed.note i x := ⟨_, rfl⟩
      rw [← hxs] at hlc
      have hxl : xs.length = tb.length := by rw [hxs]; simp
      obtain ⟨st2, h1, h2, h3⟩ := join_ok (xs := xs) hF' (by omega)
      simp -implicitDefEqProofs only [List.set] at hlc
      simp -implicitDefEqProofs [el, ew, word, e2, r, hlc, h1, -gIx_tup_ap]
      refine ⟨_, h2, more _ fun d hd => ?_, ne2 _, by have := lt_of hF'; omega, fun W => (hfr' W).trans (h3 W), by simp [hxl]; omega⟩
      rw [hxs] at hd
      obtain ⟨x, hx, rfl⟩ := List.mem_map.mp hd
      exact ⟨nm, tb, h, List.mem_range.mp hx⟩
    | outside nm ar =>
      have e2 : ∀ st, gIx (enc (.outside nm ar)) (.int 2) st = .ok (nats ar) st := fun st => by simp [enc, third]
      have gl : ∀ st, gLen [nats ar] st = .ok (.int ar.length) st := fun st => by simp [nats]
      have hn : ar.length < 1000 := by simp [okL] at hcl; omega
      have r := rngOf1_nat (j := (ar.length : Int)) (n := ar.length) (st := st') rfl (by omega)
      have hlc := lcc 7 "ask" (fun x => .ask i x) ar.length st' (by omega) (fun x => rfl) (by omega) _ rfl
      obtain ⟨xs, hxs⟩ : ∃ xs, xs = (List.range ar.length).map fun x => Deed.ask i x := ⟨_, rfl⟩
      rw [← hxs] at hlc
      have hxl : xs.length = ar.length := by rw [hxs]; simp
      obtain ⟨st2, h1, h2, h3⟩ := join_ok (xs := xs) hF' (by omega)
      simp -implicitDefEqProofs only [List.set] at hlc
      simp -implicitDefEqProofs [el, ew, word, e2, gl, r, hlc, h1, -gIx_tup_ap]
      refine ⟨_, h2, more _ fun d hd => ?_, ne2 _, by have := lt_of hF'; omega, fun W => (hfr' W).trans (h3 W), by simp [hxl]; omega⟩
      rw [hxs] at hd
      obtain ⟨x, hx, rfl⟩ := List.mem_map.mp hd
      exact ⟨nm, ar, h, List.mem_range.mp hx⟩
  · rintro env st' ⟨F', ds', o3, o4, o6, o7, rfl, h1, h2, h3, h4, h5, _⟩
    exact hk F' ds' st' _ _ _ _ h1 h2 h3 h4 h5
theorem deeds_ok (k : String) (hk : k = "mixed" ∨ k = "twochoose" ∨ k = "spread" ∨ k = "twodraw" ∨ k = "choose") (G : Good ls) :
    Post (m_law_deeds [.str k, .tup (ls.map enc)] st) fun v st' => ∃ (F : Nat) (ds : List Deed), v = .ref F ∧ st'[F]? = some (.lst (ds.map encD)) ∧ (∀ d ∈ ds, okD ls d) ∧ ds ≠ [] ∧ st.length ≤ F ∧ ∀ W, Fr W st st' := by
  rw [m_law_deeds, fnM2, b_law_deeds]
  have hl5 := G.1
  have r := fun st => rngOf1_nat (j := (ls.length : Int)) (n := ls.length) (st := st) rfl (by omega)
  have ht := fun xs => tyM_lst (last_snoc (st := st) (o := .lst xs))
  have ha0 := gAppend_lst (y := encD (.choose 0)) (last_snoc (st := st) (o := .lst [])) (by simp)
  have ha1 := gAppend_lst (y := encD (.choose 1)) (last_snoc (st := st) (o := .lst [encD (.choose 0)])) (by simp)
  rw [set_last] at ha0 ha1
  simp only [List.nil_append] at ha0
  have ok0 : ∀ d ∈ [Deed.choose 0], okD ls d := by simp [okD]
  have ok1 : ∀ d ∈ [Deed.choose 0, .choose 1], okD ls d := by simp [okD]
  have ok2 : ∀ d ∈ [Deed.choose 0, .draw 0 1 2, .draw 0 2 5, .draw 0 5 6], okD ls d := by simp [okD]
  have ok3 : ∀ d ∈ [Deed.draw 0 1 2, .draw 0 2 5, .draw 0 5 6, .draw 1 1 3], okD ls d := by simp [okD]
  have add2 : ∀ L0 L1 : List MV, L0.length + L1.length ≤ 16777216 → gAdd (.ref st.length) (.ref (st.length + 1)) (st ++ [.lst L0, .lst L1]) = .ok (.ref (st.length + 2)) (st ++ [.lst L0, .lst L1, .lst (L0 ++ L1)]) := fun L0 L1 h => by
    have := gAdd_lst (st := st ++ [.lst L0, .lst L1]) (a := st.length) (b := st.length + 1) (xs := L0) (ys := L1) (by simp) (by simp) h
    simpa using this
  have ht3 : ∀ L0 L1 L2 : List MV, tyM "list" (.ref (st.length + 2)) (st ++ [.lst L0, .lst L1, .lst L2]) = true := fun L0 L1 L2 => tyM_lst (xs := L2) (by simp)
  have ap3 : ∀ (L0 L1 L2 : List MV) (y : MV), L2.length < 16777216 → gAppend (.ref (st.length + 2)) [y] (st ++ [.lst L0, .lst L1, .lst L2]) = .ok .non (st ++ [.lst L0, .lst L1, .lst (L2 ++ [y])]) := fun L0 L1 L2 y h => by
    have := gAppend_lst (st := st ++ [.lst L0, .lst L1, .lst L2]) (a := st.length + 2) (xs := L2) (y := y) (by simp) h
    rw [this]
    simp [List.set_append]
  simp -implicitDefEqProofs [encD] at ha0 ha1
  have dd : gAdd (.ref st.length) (.ref (st.length + 1)) (st ++ [.lst [.tup [.str "choose", .int 0]], .lst [.tup [.str "draw", .int 0, .int 1, .int 2], .tup [.str "draw", .int 0, .int 2, .int 5], .tup [.str "draw", .int 0, .int 5, .int 6]]]) = _ := add2 _ _ (by simp)
  have de : gAdd (.ref st.length) (.ref (st.length + 1)) (st ++ [.lst [], .lst [.tup [.str "draw", .int 0, .int 1, .int 2], .tup [.str "draw", .int 0, .int 2, .int 5], .tup [.str "draw", .int 0, .int 5, .int 6]]]) = _ := add2 _ _ (by simp)
  have df : gAppend (.ref (st.length + 2)) [.tup [.str "draw", .int 1, .int 1, .int 3]] (st ++ [.lst [], .lst [.tup [.str "draw", .int 0, .int 1, .int 2], .tup [.str "draw", .int 0, .int 2, .int 5], .tup [.str "draw", .int 0, .int 5, .int 6]], .lst [.tup [.str "draw", .int 0, .int 1, .int 2], .tup [.str "draw", .int 0, .int 2, .int 5], .tup [.str "draw", .int 0, .int 5, .int 6]]]) = _ := ap3 _ _ _ _ (by simp)
  simp only [List.nil_append, List.cons_append] at dd de df
  rcases hk with rfl | rfl | rfl | rfl | rfl
  · simp -implicitDefEqProofs [ht, ha0, r, dd]
    refine .finB (.bind (deedsloop (base := 0) (st0 := st) (ds := [Deed.choose 0, .draw 0 1 2, .draw 0 2 5, .draw 0 5 6]) G (by simp [encD]) ok2 (by simp) (by simp) (by omega) (fun W => .app _ _ _) rfl ?_))
    intro F' ds' st' o3 o4 o6 o7 h1 h2 h3 h4 h5
    simp -implicitDefEqProofs
    exact ⟨ds', h1, h2, h3, h4, h5⟩
  · simp -implicitDefEqProofs [ht, ha0, ha1, r]
    refine .finB (.bind (deedsloop (base := 0) (st0 := st) (ds := [Deed.choose 0, .choose 1]) G (by simp [encD]) ok1 (by simp) (by simp) (by omega) (fun W => .app _ _ _) rfl ?_))
    intro F' ds' st' o3 o4 o6 o7 h1 h2 h3 h4 h5
    simp -implicitDefEqProofs
    exact ⟨ds', h1, h2, h3, h4, h5⟩
  · simp -implicitDefEqProofs [ht, ha0, r, dd]
    refine .finB (.bind (deedsloop (base := 0) (st0 := st) (ds := [Deed.choose 0, .draw 0 1 2, .draw 0 2 5, .draw 0 5 6]) G (by simp [encD]) ok2 (by simp) (by simp) (by omega) (fun W => .app _ _ _) rfl ?_))
    intro F' ds' st' o3 o4 o6 o7 h1 h2 h3 h4 h5
    simp -implicitDefEqProofs
    exact ⟨ds', h1, h2, h3, h4, h5⟩
  · simp -implicitDefEqProofs [ht, r, de, ht3, df]
    refine .finB (.bind (deedsloop (base := 0) (st0 := st) (ds := [Deed.draw 0 1 2, .draw 0 2 5, .draw 0 5 6, .draw 1 1 3]) G (by simp [encD]) ok3 (by simp) (by simp) (by omega) (fun W => .app _ _ _) rfl ?_))
    intro F' ds' st' o3 o4 o6 o7 h1 h2 h3 h4 h5
    simp -implicitDefEqProofs
    exact ⟨ds', h1, h2, h3, h4, h5⟩
  · simp -implicitDefEqProofs [ht, ha0, r]
    refine .finB (.bind (deedsloop (base := 0) (st0 := st) (ds := [Deed.choose 0]) G (by simp [encD]) ok0 (by simp) (by simp) (by omega) (fun W => .app _ _ _) rfl ?_))
    intro F' ds' st' o3 o4 o6 o7 h1 h2 h3 h4 h5
    simp -implicitDefEqProofs
    exact ⟨ds', h1, h2, h3, h4, h5⟩
end
end K02

set_option Elab.async false
set_option linter.all false
set_option maxRecDepth 100000
set_option autoImplicit false
namespace K02
open PySem BH
/-! ### good states stay good -/
section
variable {ls : List Lay} {s : List Int}
theorem val_set (V : Val ls s) {n : Nat} {x : Int} (h : ∀ nm tb, ls[n]? = some (Lay.note nm tb) → ∃ y : Nat, x = y ∧ y < tb.length) : Val ls (s.set n x) := by
  refine ⟨by simp [V.1], fun i nm tb hi => ?_⟩
  by_cases e : i = n
  · subst e
    obtain ⟨y, rfl, hy⟩ := h nm tb hi
    have : i < s.length := by rw [V.1]; exact (List.getElem?_eq_some_iff.mp hi).1
    exact ⟨y, by rw [List.getElem?_set_self this], hy⟩
  · rw [List.getElem?_set_ne (Ne.symm e)]
    exact V.2 i nm tb hi
theorem val_ask (G : Good ls) (V : Val ls s) (r : Int) : ∀ n, Val ls (askS ls n s r).1
  | 0 => V
  | i + 1 => by
    have ih := val_ask G V r i
    simp only [askS]
    split
    · rename_i l h
      split
      · rename_i hv
        refine val_set ih fun nm tb hn => ?_
        rw [h] at hn
        cases hn
        simp [varied] at hv
      · refine val_set ih fun nm tb hn => ⟨0, rfl, ?_⟩
        have := (G.at hn).1
        simp [count] at this
        omega
    · exact ih
theorem val_nxt (G : Good ls) (V : Val ls s) (q : Int) (D : Deed) (hD : okD ls D) : Val ls (nxtS ls s q D) := by
  cases D with
  | choose i => exact V
  | draw i a b => exact V
  | get n => exact V
  | look n => exact V
  | put n x =>
    obtain ⟨nm, c, hn⟩ := hD
    refine val_set V fun nm' tb h => ?_
    rw [hn] at h
    cases h
  | note n m =>
    obtain ⟨nm, tb, hn, hm⟩ := hD
    obtain ⟨x, hx, hxl⟩ := V.2 n nm tb hn
    obtain ⟨row, z, hr, hz, hzl⟩ := G.cell hn hxl hm
    have e : prodS ls s n m = z := by simp [prodS, hn, hx, hr, hz]
    refine val_set V fun nm' tb' h => ⟨z, by rw [e], ?_⟩
    rw [hn] at h
    cases h
    exact hzl
  | ask n e => exact val_ask G V _ n
theorem val_back {old : List Int} {n : Nat} (V : Val ls s) (O : Val ls old) : ∀ i, Val ls (backS ls n old i s)
  | 0 => V
  | i + 1 => by
    have ih := val_back (n := n) V O i
    simp only [backS]
    split
    · rename_i l x h hx
      split
      · refine val_set ih fun nm tb hn => ?_
        obtain ⟨y, hy, hyl⟩ := O.2 _ nm tb hn
        rw [hx] at hy
        cases hy
        exact ⟨y, rfl, hyl⟩
      · exact ih
    · exact ih
end
/-! ### values that can be compared -/
def GoodV (v : MV) : Prop := ∀ n, 5 ≤ n → ∃ d, ∀ st, dat st n v = some d
theorem good_all {xs : List MV} (h : ∀ v ∈ xs, GoodV v) {n : Nat} (hn : 5 ≤ n) : ∃ ds, ∀ st, optAll (dat st n) xs = some ds := by
  induction xs with
  | nil => exact ⟨[], fun st => rfl⟩
  | cons x xs ih =>
    obtain ⟨d, hd⟩ := h x (by simp) n hn
    obtain ⟨ds, hds⟩ := ih fun v hv => h v (by simp [hv])
    exact ⟨d :: ds, fun st => by simp only [optAll, hd, hds]⟩
theorem dat_lst {xs : List MV} (h : ∀ v ∈ xs, GoodV v) : ∃ d, ∀ st a, st[a]? = some (.lst xs) → dat st 64 (.ref a) = some d := by
  obtain ⟨ds, hds⟩ := good_all h (n := 63) (by omega)
  exact ⟨.list ds, fun st a ha => by simp only [dat, ha, hds]; rfl⟩
theorem good_int (i : Int) : GoodV (.int i) := fun n hn => ⟨.int i, fun st => by
  obtain ⟨m, rfl⟩ : ∃ m, n = m + 1 := ⟨n - 1, by omega⟩
  rfl⟩
theorem trE_good (n d : Nat) (b : List Int) (x : Int) (a : List Int) : GoodV (trE n d b x a) := fun m hm => by
  obtain ⟨m, rfl⟩ : ∃ k, m = k + 4 := ⟨m - 4, by omega⟩
  refine ⟨.tuple [.int (n + 1), .int d, .tuple (b.map .int), .int x, .tuple (a.map .int)], fun st => ?_⟩
  have h1 := dat_itup st (m + 1) b
  have h2 := dat_itup st (m + 1) a
  simp only [trE, dat, optAll, h1, h2]
  rfl
theorem trl_good (ls : List Lay) (s : List Int) (q : Int) (D : Deed) : ∀ v ∈ trlS ls s q D, GoodV v := by
  intro v hv
  cases D with
  | ask n e =>
    simp only [trlS, List.mem_singleton] at hv
    subst hv
    exact trE_good _ _ _ _ _
  | _ => simp [trlS] at hv
theorem endS_good (ls : List Lay) (s : List Int) (E : End) : ∃ d, ∀ st, dat st 63 (endS ls s E) = some d := by
  cases E with
  | ret t =>
    refine ⟨.tuple [.str ("done" : Str), .str (t : Str), .tuple ((keptS ls s ls.length).map .int)], fun st => ?_⟩
    have h1 := dat_itup st 60 (keptS ls s ls.length)
    simp only [endS, dat, optAll, h1, strOk_ofString, if_true]
    rfl
  | fail n k =>
    refine ⟨.tuple [.str ("fail" : Str), .int (n + 1), .int k, .tuple ((keptS ls s n).map .int)], fun st => ?_⟩
    have h1 := dat_itup st 60 (keptS ls s n)
    simp only [endS, dat, optAll, h1, strOk_ofString, if_true]
    rfl
theorem dat_book : ∀ j, j < 7 → ∃ ds, ∀ st, dat st 64 (.tup ((bookAt j).2.map enc)) = some (.tuple ds) ∧ ds.length = (bookAt j).2.length
  | 0, _ => ⟨_, fun st => ⟨by simp [bookAt, enc, third, nats, n3, n2, dat, optAll, nameOf, word]; rfl, rfl⟩⟩
  | 1, _ => ⟨_, fun st => ⟨by simp [bookAt, enc, third, nats, n3, n2, dat, optAll, nameOf, word]; rfl, rfl⟩⟩
  | 2, _ => ⟨_, fun st => ⟨by simp [bookAt, enc, third, nats, n3, n2, dat, optAll, nameOf, word]; rfl, rfl⟩⟩
  | 3, _ => ⟨_, fun st => ⟨by simp [bookAt, enc, third, nats, n3, n2, dat, optAll, nameOf, word]; rfl, rfl⟩⟩
  | 4, _ => ⟨_, fun st => ⟨by simp [bookAt, enc, third, nats, n3, n2, dat, optAll, nameOf, word]; rfl, rfl⟩⟩
  | 5, _ => ⟨[], fun st => ⟨rfl, rfl⟩⟩
  | 6, _ => ⟨_, fun st => ⟨by simp [bookAt, enc, third, nats, n3, n2, dat, optAll, nameOf, word]; rfl, rfl⟩⟩
  | j + 7, h => by omega
theorem ne_nil {xs : List MV} {ds : List PyData} {st : Mst} (h : dat st 64 (.tup xs) = some (.tuple ds)) (hl : ds.length = xs.length) (hx : xs ≠ []) : gNe (.tup xs) (.tup []) st = .ok (.bl true) st := by
  have h2 : dat st 64 (.tup []) = some (.tuple []) := rfl
  cases ds with
  | nil => cases xs with
    | nil => exact absurd rfl hx
    | cons x xs => cases hl
  | cons d ds =>
    simp only [gNe, h, h2]
    simp [PyData.eqv, PyData.eqvAll]
end K02

set_option Elab.async false
set_option linter.all false
set_option maxRecDepth 100000
set_option autoImplicit false
namespace K02
open PySem BH
def dword : Deed → String
  | .choose _ => "choose"
  | .draw _ _ _ => "draw"
  | .get _ => "get"
  | .look _ => "look"
  | .put _ _ => "put"
  | .note _ _ => "note"
  | .ask _ _ => "ask"
theorem encD_0 (D : Deed) (st : Mst) : gIx (encD D) (.int 0) st = .ok (.str (dword D)) st := by cases D <;> simp [encD, dword]
theorem asks_in (D : Deed) (st : Mst) : gIn false (.str (dword D)) (.tup [.str "choose", .str "draw", .str "ask"]) st = .ok (.bl (asks D)) st := by cases D <;> simp -implicitDefEqProofs [dword, asks]
theorem ans_q (ls : List Lay) (s : List Int) (q q' : Int) (D : Deed) (h : asks D = false) : ansS ls s q D = ansS ls s q' D ∧ nxtS ls s q D = nxtS ls s q' D ∧ trlS ls s q D = trlS ls s q' D := by
  cases D <;> simp [asks] at h <;> exact ⟨rfl, rfl, rfl⟩
/-- what stays through the law's loop -/
structure LC (k : String) (ls : List Lay) (nn : List Int) (ds : List Deed) (ns : List Int) (row : List Int) (R B N P T T' S Dd : Nat) (stL : Mst) : Prop where
  good : Good ls
  dat : ∃ es, ∀ st, dat st 64 (.tup (ls.map enc)) = some (.tuple es) ∧ es.length = ls.length
  h0 : stL[0]? = some (.rol (ns.map .int))
  hN : stL[N]? = some (.lst (nn.map .int))
  hD : stL[Dd]? = some (.lst (ds.map encD))
  dok : ∀ d ∈ ds, okD ls d
  dne : ds ≠ []
  w0 : 0 ∉ [P, T, T', S]
  wN : N ∉ [P, T, T', S]
  wD : Dd ∉ [P, T, T', S]
  wR : R ∉ [P, T, T', S]
  PT' : P ≠ T'
  PS : P ≠ S
  TT' : T ≠ T'
  TS : T ≠ S
  T'S : T' ≠ S
  BT' : B ≠ T'
  BS : B ≠ S
structure LIn (k : String) (ls : List Lay) (nn : List Int) (B P T T' S A : Nat) (s : List Int) (t i : Nat) (tr seen : List MV) (stL st : Mst) : Prop where
  fr : Fr [P, T, T', S] stL st
  len : stL.length ≤ st.length
  val : Val ls s
  hA : st[A]? = some (.lst (s.map .int))
  wA : A ∉ [P, T, T', S]
  ps : PSt P B T k ls s nn t i tr st
  hT' : st[T']? = some (.lst tr)
  hS : st[S]? = some (.lst seen)
  sne : seen ≠ []
  sok : ∀ v ∈ seen, ∃ (a : Nat) (o : List Int), v = .ref a ∧ a ∉ [P, T, T', S] ∧ Val ls o ∧ st[a]? = some (.lst (o.map .int))
  tok : ∀ v ∈ tr, GoodV v
  trl : tr.length ≤ i
  sel : seen.length ≤ i + 1
section
variable {k : String} {ls : List Lay} {nn ns row : List Int} {ds : List Deed} {R B N P T T' S Dd A : Nat} {s : List Int} {t i : Nat} {tr seen : List MV} {stL st st' : Mst}
theorem Fr.len {W : List Nat} (h : Fr W st st') (hW : ∀ a ∈ W, a < st'.length) : st.length ≤ st'.length := by
  rcases Nat.lt_or_ge st'.length st.length with hl | hl
  · have e : st[st'.length]? = some (st[st'.length]) := by simp
    by_cases hm : st'.length ∈ W
    · have := hW _ hm; omega
    · have := lt_of (h _ _ hm e); omega
  · exact hl
/-- a change that touches nothing of these -/
theorem LIn.mono (I : LIn k ls nn B P T T' S A s t i tr seen stL st) (F : ∀ W, Fr W st st') : LIn k ls nn B P T T' S A s t i tr seen stL st' where
  fr := I.fr.trans (F _)
  len := Nat.le_trans I.len (Fr.len (F []) (by simp))
  val := I.val
  hA := F [] _ _ (by simp) I.hA
  wA := I.wA
  ps := ⟨F [] _ _ (by simp) I.ps.hp, F [] _ _ (by simp) I.ps.hB, F [] _ _ (by simp) I.ps.hT⟩
  hT' := F [] _ _ (by simp) I.hT'
  hS := F [] _ _ (by simp) I.hS
  sne := I.sne
  sok := fun v hv => by
    obtain ⟨a, o, e, w, V, h⟩ := I.sok v hv
    exact ⟨a, o, e, w, V, F [] _ _ (by simp) h⟩
  tok := I.tok
  trl := I.trl
  sel := I.sel
end
end K02

set_option Elab.async false
set_option linter.all false
set_option maxRecDepth 100000
set_option autoImplicit false
namespace K02
open PySem BH
abbrev ev (k : String) (ls : List Lay) (R B : Nat) (s0 : List Int) (N H P Dd A S T' t : Nat) (o9 o15 o16 o17 o18 o19 o20 o21 : Option MV) : BH.Env :=
  [some (.ref 0), some (.ref R), some (.str k), some (.tup (ls.map enc)), some (.ref B), some (itup s0), some (.ref N), some (.ref H), some (.ref P), o9, some (.ref Dd), some (.ref A), some (.ref S), some (.ref T'), some (.int t), o15, o16, o17, o18, o19, o20, o21, none, none]
def body5 : MS := (sIf (mOr (mTest (mBin gNe (mFld [1] "state" (mVar 8)) (mCallB gTuple (mCons (mVar 11) mNil)))) (mOr (mTest (mBin gNe (mFld [1] "taken" (mVar 8)) (mVar 14))) (mOr (mTest (mBin gNe (mFld [1] "deeds" (mVar 8)) (mBin gAdd (mVar 9) (mC (.int 1))))) (mTest (mBin gNe (mFld [1] "trail" (mVar 8)) (mVar 13)))))) (sRet (mC (.bl false))) sNext)
def body4 : MS := (sSeq (sExpr (mBM "list" gAppend (mVar 12) (mCons (mVar 11) mNil))) body5)
def body3 : MS := (sSeq (sIf (mAnd (mTest (mBin gEq (mBin gMod (mBin gIx (mVar 15) (mC (.int 1))) (mC (.int 9))) (mC (.int 0)))) (mTest (mBin gNe (mVar 3) (mTup mNil)))) (sSeq (sAsg (mBin gAdd (mC (.int 1)) (mBin gMod (mCallB gInt (mCons (mBin gIx (mVar 15) (mC (.int 2))) mNil)) (mCallB gLen (mCons (mVar 3) mNil)))) (gtName 20))
    (sSeq (sAsg (mBin gIx (mVar 12) (mBin gMod (mCallB gInt (mCons (mBin gIx (mVar 15) (mC (.int 2))) mNil)) (mCallB gLen (mCons (mVar 12) mNil)))) (gtName 21))
    (sSeq (sAsg (mCallF m_law_back (mCons (mVar 3) (mCons (mVar 11) (mCons (mVar 20) (mCons (mVar 21) mNil)))) []) (gtName 11))
    (sExpr (mMeth 1 "restore" m_Play_restore (mVar 8) (mCons (mVar 20) (mCons (mCallB gTuple (mCons (mVar 21) mNil)) mNil)) []))))) sNext) body4)
def body2 : MS := (sSeq (sAsg (mCallF m_law_step (mCons (mVar 3) (mCons (mVar 11) (mCons (mVar 16) (mCons (mVar 17) (mCons (mVar 13) mNil))))) []) (gtTup 2 (gtCons (gtName 18) (gtCons (gtName 11) gtNil))))
    (sSeq (sAsg (mMeth 1 "answer" m_Play_answer (mVar 8) (mCons (mVar 16) mNil) []) (gtName 19))
    (sSeq (sIf (mOr (mNot (mTru (mCallB gIsi (mCons (mVar 19) (mCons (mC (.ty "int")) mNil))))) (mOr (mTru (mCallB gIsi (mCons (mVar 19) (mCons (mC (.ty "bool")) mNil)))) (mTest (mBin gNe (mVar 19) (mVar 18))))) (sRet (mC (.bl false))) sNext) body3)))
def body1 : MS := (sSeq (sAsg (mCallF m_law_row (mCons (mVar 0) (mCons (mBin gAdd (mC (.int 15)) (mVar 9)) (mCons (mC (.int 3)) mNil))) []) (gtName 15))
    (sSeq (sAsg (mBin gIx (mVar 10) (mBin gMod (mCallB gInt (mCons (mBin gIx (mVar 15) (mC (.int 0))) mNil)) (mCallB gLen (mCons (mVar 10) mNil)))) (gtName 16))
    (sSeq (sAsg (mC (.int 0)) (gtName 17))
    (sSeq (sIf (mTest (mBin (gIn false) (mBin gIx (mVar 16) (mC (.int 0))) (mTup (mCons (mC (.str "choose")) (mCons (mC (.str "draw")) (mCons (mC (.str "ask")) mNil)))))) (sSeq (sIf (mTest (mBin gLt (mVar 14) (mCallB gLen (mCons (mVar 6) mNil)))) (sAsg (mBin gIx (mVar 6) (mVar 14)) (gtName 17)) sNext)
    (sAsg (mBin gAdd (mVar 14) (mC (.int 1))) (gtName 14))) sNext) body2))))
section
variable {k : String} {ls : List Lay} {nn ns row s0 : List Int} {ds : List Deed} {R B N H P T T' S Dd A : Nat} {s : List Int} {t i : Nat} {tr seen : List MV} {stL st : Mst} {o9 o15 o16 o17 o18 o19 o20 o21 : Option MV}
def J (k : String) (ls : List Lay) (nn s0 : List Int) (R B N H P T T' S Dd : Nat) (stL : Mst) (i : Nat) (env : BH.Env) (st : Mst) : Prop :=
  ∃ A s t tr seen o9 o15 o16 o17 o18 o19 o20 o21, env = ev k ls R B s0 N H P Dd A S T' t o9 o15 o16 o17 o18 o19 o20 o21 ∧ LIn k ls nn B P T T' S A s t i tr seen stL st
theorem body5_ok (C : LC k ls nn ds ns row R B N P T T' S Dd stL) (I : LIn k ls nn B P T T' S A s t (i + 1) tr seen stL st) :
    Turns (J k ls nn s0 R B N H P T T' S Dd stL (i + 1)) (body5 (ev k ls R B s0 N H P Dd A S T' t (some (.int i)) o15 o16 o17 o18 o19 o20 o21) st) := by
  obtain ⟨d, hd⟩ := dat_lst I.tok
  have h1 := gTuple_lst I.hA
  rw [show MV.tup (s.map MV.int) = itup s from rfl] at h1
  have h2 := gNe_same (hd st T I.ps.hT) (hd st T' I.hT')
  have h3 := I.ps.f_deeds
  simp -implicitDefEqProofs only [Int.natCast_add, Int.cast_ofNat_Int] at h3
  simp -implicitDefEqProofs [body5, I.ps.f_state, h1, gNe_it, I.ps.f_taken, h3, I.ps.f_trail, h2]
  exact ⟨A, s, t, tr, seen, _, _, _, _, _, _, _, _, rfl, I⟩
theorem body4_ok (C : LC k ls nn ds ns row R B N P T T' S Dd stL) (I : LIn k ls nn B P T T' S A s t (i + 1) tr seen stL st) (hsel : seen.length ≤ i + 1) (hi : i < 100) :
    Turns (J k ls nn s0 R B N H P T T' S Dd stL (i + 1)) (body4 (ev k ls R B s0 N H P Dd A S T' t (some (.int i)) o15 o16 o17 o18 o19 o20 o21) st) := by
  have ht := tyM_lst I.hS
  have ha := gAppend_lst (y := .ref A) I.hS (by omega)
  have wA := I.wA
  simp only [List.mem_cons, List.not_mem_nil, or_false, not_or] at wA
  have key : ∀ a o, a ≠ S → st[a]? = some o → (st.set S (.lst (seen ++ [.ref A])))[a]? = some o := fun a o n h => by rw [List.getElem?_set_ne (Ne.symm n)]; exact h
  have I2 : LIn k ls nn B P T T' S A s t (i + 1) tr (seen ++ [.ref A]) stL (st.set S (.lst (seen ++ [.ref A]))) :=
    { fr := I.fr.trans (Fr.mono (.put S _ _) (fun a n => by simp only [List.mem_cons, List.not_mem_nil, or_false, not_or] at n ⊢; exact n.2.2.2))
      len := by rw [List.length_set]; exact I.len
      val := I.val
      hA := key _ _ wA.2.2.2 I.hA
      wA := I.wA
      ps := ⟨key _ _ C.PS I.ps.hp, key _ _ C.BS I.ps.hB, key _ _ C.TS I.ps.hT⟩
      hT' := key _ _ C.T'S I.hT'
      hS := List.getElem?_set_self (lt_of I.hS)
      sne := by simp
      sok := fun v hv => by
        rcases List.mem_append.mp hv with hv | hv
        · obtain ⟨a, o, e, w, V, h⟩ := I.sok v hv
          exact ⟨a, o, e, w, V, key _ _ (by simp only [List.mem_cons, List.not_mem_nil, or_false, not_or] at w; exact w.2.2.2) h⟩
        · simp only [List.mem_singleton] at hv
          exact ⟨A, s, hv, I.wA, I.val, key _ _ wA.2.2.2 I.hA⟩
      tok := I.tok
      trl := I.trl
      sel := by simp; omega }
  have e := body5_ok (s0 := s0) (H := H) (o15 := o15) (o16 := o16) (o17 := o17) (o18 := o18) (o19 := o19) (o20 := o20) (o21 := o21) C I2
  simp -implicitDefEqProofs [body4, ht, ha]
  exact e
theorem mem4 {a P T T' S : Nat} : a ∉ [P, T, T', S] ↔ a ≠ P ∧ a ≠ T ∧ a ≠ T' ∧ a ≠ S := by
  simp only [List.mem_cons, List.not_mem_nil, or_false, not_or, ne_eq]
theorem body3_ok (C : LC k ls nn ds ns row R B N P T T' S Dd stL) (I : LIn k ls nn B P T T' S A s t (i + 1) tr seen stL st) (hsel : seen.length ≤ i + 1) (hi : i < 100) {R3 : Nat} {drawn : List Int} (hR3 : st[R3]? = some (.lst (drawn.map .int))) (hdr : drawn.length = 3) :
    Turns (J k ls nn s0 R B N H P T T' S Dd stL (i + 1)) (body3 (ev k ls R B s0 N H P Dd A S T' t (some (.int i)) (some (.ref R3)) o16 o17 o18 o19 o20 o21) st) := by
  have G := C.good
  have hl5 := G.1
  obtain ⟨es, hes⟩ := C.dat
  obtain ⟨q1, hq1⟩ := get_of (xs := drawn) (i := 1) (by omega)
  obtain ⟨q2, hq2⟩ := get_of (xs := drawn) (i := 2) (by omega)
  have e1 : gIx (.ref R3) (.int 1) st = .ok (.int q1) st := gIx_lst hR3 (k := 1) rfl (by simp [hq1])
  have e2 : gIx (.ref R3) (.int 2) st = .ok (.int q2) st := gIx_lst hR3 (k := 2) rfl (by simp [hq2])
  have m9 := gMod_int (i := q1) (j := 9) (st := st) (by omega)
  by_cases h9 : q1 % 9 = 0
  · by_cases hn0 : ls = []
    · have hne : gNe (.tup (ls.map enc)) (.tup []) st = .ok (.bl false) st := by
        subst hn0
        exact gNe_same (d := .tuple []) rfl rfl
      have e := body4_ok (s0 := s0) (H := H) (o15 := some (.ref R3)) (o16 := o16) (o17 := o17) (o18 := o18) (o19 := o19) (o20 := o20) (o21 := o21) C I hsel hi
      simp -implicitDefEqProofs [body3, e1, m9, h9, hne]
      exact e
    · have hne := ne_nil (hes st).1 (by rw [(hes st).2]; simp) (xs := ls.map enc) (by simpa using hn0)
      have hpos : 0 < ls.length := List.length_pos_iff.mpr hn0
      obtain ⟨n, hn, hnl⟩ := mod_nat (x := q2) hpos
      have ml := gMod_int (i := q2) (j := (ls.length : Int)) (st := st) (by omega)
      rw [hn] at ml
      have hsp : 0 < seen.length := List.length_pos_iff.mpr I.sne
      obtain ⟨j, hj, hjl⟩ := mod_nat (x := q2) hsp
      have ms := gMod_int (i := q2) (j := (seen.length : Int)) (st := st) (by omega)
      rw [hj] at ms
      obtain ⟨v, hv⟩ := get_of hjl
      obtain ⟨a, o, rfl, wa, Vo, ha⟩ := I.sok v (List.mem_of_getElem? hv)
      have es' : gIx (.ref S) (.int j) st = .ok (.ref a) st := gIx_lst I.hS rfl hv
      have gl := gLen_lst I.hS
      obtain ⟨_, st2, b1, A2, rfl, b2, b3, b4⟩ := back_ok I.hA ha G I.val.1 Vo.1 hnl
      rw [Int.add_comm] at b1
      have I2 := I.mono b4
      have ha2 := b4 [] a _ (by simp) ha
      have gt := gTuple_lst ha2
      rw [show MV.tup (o.map MV.int) = itup o from rfl] at gt
      obtain ⟨_, st3, r1, F3, P3⟩ := restore_ok I2.ps G I.val.1 Vo.1 hnl
      have cr := I2.ps.cls (f := "restore") (by simp [List.lookup])
      rw [Int.add_comm] at r1
      have wA := mem4.mp I.wA
      have key : ∀ a o, a ≠ P → st2[a]? = some o → st3[a]? = some o := fun a o h e => F3 a o (by simpa using h) e
      have I3 : LIn k ls nn B P T T' S A2 (backS ls (n + 1) o (ls.length - (n + 1)) s) t (i + 1) tr seen stL st3 :=
        { fr := I2.fr.trans (F3.mono fun a h => by simp only [List.mem_singleton]; exact (mem4.mp h).1)
          len := Nat.le_trans I2.len (Fr.len F3 (by simpa using lt_of P3.hp))
          val := val_back I.val Vo _
          hA := key _ _ (by have := lt_of I.ps.hp; omega) b2
          wA := mem4.mpr ⟨by have := lt_of I.ps.hp; omega, by have := lt_of I.ps.hT; omega, by have := lt_of I.hT'; omega, by have := lt_of I.hS; omega⟩
          ps := P3
          hT' := key _ _ (Ne.symm C.PT') I2.hT'
          hS := key _ _ (Ne.symm C.PS) I2.hS
          sne := I2.sne
          sok := fun v hv => by
            obtain ⟨a, o, e, w, V, h⟩ := I2.sok v hv
            exact ⟨a, o, e, w, V, key _ _ (mem4.mp w).1 h⟩
          tok := I2.tok
          trl := I2.trl
          sel := I2.sel }
      have e := body4_ok (s0 := s0) (H := H) (o15 := some (.ref R3)) (o16 := o16) (o17 := o17) (o18 := o18) (o19 := o19) (o20 := some (.int (1 + (n : Int)))) (o21 := some (.ref a)) C I3 hsel hi
      simp -implicitDefEqProofs [body3, e1, m9, h9, hne, e2, ml, ms, gl, es', b1, cr, gt, r1]
      exact e
  · have e := body4_ok (s0 := s0) (H := H) (o15 := some (.ref R3)) (o16 := o16) (o17 := o17) (o18 := o18) (o19 := o19) (o20 := o20) (o21 := o21) C I hsel hi
    simp -implicitDefEqProofs [body3, e1, m9, h9]
    exact e
theorem isi_int (x : Int) (st : Mst) : gIsi [.int x, .ty "int"] st = .ok (.bl true) st := by
  simp [gIsi, tyName, isiT]
theorem isi_bool (x : Int) (st : Mst) : gIsi [.int x, .ty "bool"] st = .ok (.bl false) st := by
  simp [gIsi, tyName, isiT]
theorem body2_ok (C : LC k ls nn ds ns row R B N P T T' S Dd stL) (I : LIn k ls nn B P T T' S A s t i tr seen stL st) (hi : i < 100) {R3 : Nat} {drawn : List Int} (hR3 : st[R3]? = some (.lst (drawn.map .int))) (hdr : drawn.length = 3) (w3 : R3 ∉ [P, T, T', S]) {D : Deed} (hD : okD ls D) {q : Int} (hq : q = if asks D then num nn t else 0) :
    Turns (J k ls nn s0 R B N H P T T' S Dd stL (i + 1)) (body2 (ev k ls R B s0 N H P Dd A S T' (if asks D then t + 1 else t) (some (.int i)) (some (.ref R3)) (some (encD D)) (some (.int q)) o18 o19 o20 o21) st) := by
  have G := C.good
  have trl := I.trl
  obtain ⟨_, st2, s1, A2, rfl, hA2, lA2, F2, hT2⟩ := step_ok I.hA I.hT' G I.val D hD q (by omega)
  have hqq : ansS ls s q D = ansS ls s (num nn t) D ∧ nxtS ls s q D = nxtS ls s (num nn t) D ∧ trlS ls s q D = trlS ls s (num nn t) D := by
    by_cases ha : asks D
    · rw [hq, if_pos ha]; exact ⟨rfl, rfl, rfl⟩
    · exact ans_q _ _ _ _ _ (by simpa using ha)
  rw [hqq.1] at s1
  rw [hqq.2.1] at hA2
  rw [hqq.2.2] at hT2
  have k2 : ∀ a o, a ≠ T' → st[a]? = some o → st2[a]? = some o := fun a o h e => F2 a o (by simpa using h) e
  have P2 : PSt P B T k ls s nn t i tr st2 := ⟨k2 _ _ C.PT' I.ps.hp, k2 _ _ C.BT' I.ps.hB, k2 _ _ C.TT' I.ps.hT⟩
  obtain ⟨_, st3, a1, rfl, F3, P3⟩ := answer_ok P2 G I.val D hD (by omega)
  have ca := P2.cls (f := "answer") (by simp [List.lookup])
  have k3 : ∀ a o, a ≠ P → a ≠ T → st2[a]? = some o → st3[a]? = some o := fun a o h h' e => F3 a o (by simp [h, h']) e
  have lp := lt_of I.ps.hp
  have lT := lt_of I.ps.hT
  have lT' := lt_of I.hT'
  have lS := lt_of I.hS
  have hlen : stL.length ≤ st3.length := by
    have h1 := Fr.len F2 (by simpa using lt_of hT2)
    have h2 := Fr.len F3 (by
      intro a ha
      simp only [List.mem_cons, List.not_mem_nil, or_false] at ha
      rcases ha with rfl | rfl
      · exact lt_of P3.hp
      · exact lt_of P3.hT)
    have := I.len
    omega
  have I3 : LIn k ls nn B P T T' S A2 (nxtS ls s (num nn t) D) (if asks D then t + 1 else t) (i + 1) (tr ++ trlS ls s (num nn t) D) seen stL st3 :=
    { fr := (I.fr.trans (F2.mono fun a h => by simp only [List.mem_singleton]; exact (mem4.mp h).2.2.1)).trans (F3.mono fun a h => by simp [(mem4.mp h).1, (mem4.mp h).2.1])
      len := hlen
      val := val_nxt G I.val _ D hD
      hA := k3 _ _ (by omega) (by omega) hA2
      wA := mem4.mpr ⟨by omega, by omega, by omega, by omega⟩
      ps := P3
      hT' := k3 _ _ (Ne.symm C.PT') (Ne.symm C.TT') hT2
      hS := k3 _ _ (Ne.symm C.PS) (Ne.symm C.TS) (k2 _ _ (Ne.symm C.T'S) I.hS)
      sne := I.sne
      sok := fun v hv => by
        obtain ⟨a, o, e, w, V, h⟩ := I.sok v hv
        have w' := mem4.mp w
        exact ⟨a, o, e, w, V, k3 _ _ w'.1 w'.2.1 (k2 _ _ w'.2.2.1 h)⟩
      tok := fun v hv => by
        rcases List.mem_append.mp hv with hv | hv
        · exact I.tok v hv
        · exact trl_good _ _ _ _ v hv
      trl := by
        have : (trlS ls s (num nn t) D).length ≤ 1 := by cases D <;> simp [trlS]
        simp
        omega
      sel := by have := I.sel; omega }
  have w3' := mem4.mp w3
  have hR33 := k3 _ _ w3'.1 w3'.2.1 (k2 _ _ w3'.2.2.1 hR3)
  have e := body3_ok (s0 := s0) (H := H) (o16 := some (encD D)) (o17 := some (.int q)) (o18 := some (.int (ansS ls s (num nn t) D))) (o19 := some (.int (ansS ls s (num nn t) D))) (o20 := o20) (o21 := o21) C I3 I.sel hi hR33 hdr
  simp -implicitDefEqProofs [body2, s1, ca, a1, isi_int, isi_bool]
  exact e
theorem body1_ok (C : LC k ls nn ds ns row R B N P T T' S Dd stL) (I : LIn k ls nn B P T T' S A s t i tr seen stL st) (hi : i < 100) :
    Turns (J k ls nn s0 R B N H P T T' S Dd stL (i + 1)) (body1 (ev k ls R B s0 N H P Dd A S T' t (some (.int i)) o15 o16 o17 o18 o19 o20 o21) st) := by
  obtain ⟨_, st1, r1, R3, drawn, rfl, hR3, hdr, lR3, F1⟩ := row_ok (I.fr 0 _ C.w0 C.h0) (15 + i) 3 (by omega)
  have I1 := I.mono F1
  simp -implicitDefEqProofs only [Int.natCast_add, Int.cast_ofNat_Int] at r1
  obtain ⟨q0, hq0⟩ := get_of (xs := drawn) (i := 0) (by omega)
  have e0 : gIx (.ref R3) (.int 0) st1 = .ok (.int q0) st1 := gIx_lst hR3 (k := 0) rfl (by simp [hq0])
  have hDd := I1.fr Dd _ C.wD C.hD
  have hN1 := I1.fr N _ C.wN C.hN
  have gl := gLen_lst hDd
  rw [List.length_map] at gl
  have gn := gLen_lst hN1
  rw [List.length_map] at gn
  obtain ⟨j, hj, hjl⟩ := mod_nat (x := q0) (List.length_pos_iff.mpr C.dne)
  have mj := gMod_int (i := q0) (j := (ds.length : Int)) (st := st1) (by have := List.length_pos_iff.mpr C.dne; omega)
  rw [hj] at mj
  obtain ⟨D, hD⟩ := get_of hjl
  have hDok := C.dok D (List.mem_of_getElem? hD)
  have eD : gIx (.ref Dd) (.int j) st1 = .ok (encD D) st1 := gIx_lst hDd rfl (by simp [hD])
  have w3 : R3 ∉ [P, T, T', S] := mem4.mpr ⟨by have := lt_of I.ps.hp; omega, by have := lt_of I.ps.hT; omega, by have := lt_of I.hT'; omega, by have := lt_of I.hS; omega⟩
  have fin := fun (q : Int) (hq : q = if asks D then num nn t else 0) => body2_ok (s0 := s0) (H := H) (o18 := o18) (o19 := o19) (o20 := o20) (o21 := o21) C I1 hi hR3 hdr w3 hDok hq
  by_cases ha : asks D
  · by_cases ht : t < nn.length
    · obtain ⟨x, hx⟩ := get_of ht
      have ht' : (t : Int) < nn.length := by omega
      have ex : gIx (.ref N) (.int t) st1 = .ok (.int x) st1 := gIx_lst hN1 rfl (by simp [hx])
      have e := fin x (by simp [ha, num, hx])
      rw [if_pos ha] at e
      simp -implicitDefEqProofs [body1, r1, e0, gl, mj, eD, encD_0, asks_in, ha, gn, ht', ex, -gIx_tup_ap, -gIn_tup_ap]
      exact e
    · have ht' : ¬ (t : Int) < nn.length := by omega
      have e := fin 0 (by simp [ha, num, ht])
      rw [if_pos ha] at e
      simp -implicitDefEqProofs [body1, r1, e0, gl, mj, eD, encD_0, asks_in, ha, gn, ht', -gIx_tup_ap, -gIn_tup_ap]
      exact e
  · have e := fin 0 (by simp [ha])
    rw [if_neg ha] at e
    simp -implicitDefEqProofs [body1, r1, e0, gl, mj, eD, encD_0, asks_in, ha, -gIx_tup_ap, -gIn_tup_ap]
    exact e
end
end K02

set_option Elab.async false
set_option linter.all false
set_option maxRecDepth 100000
set_option autoImplicit false
namespace K02
open PySem BH
theorem filter_ix {α γ : Type} (h : α → γ) (g : Nat → Option γ) : ∀ (xs : List α) (i : Nat), (∀ (j : Nat) x, xs[j]? = some x → g (i + j) = some (h x)) → (List.range' i xs.length).filterMap g = xs.map h
  | [], i, _ => by simp
  | x :: xs, i, e => by
    have e0 : g i = some (h x) := e 0 x rfl
    rw [List.length_cons, List.range'_succ, List.filterMap_cons, e0, List.map_cons, filter_ix h g xs (i + 1) (fun j y e' => by rw [Nat.add_assoc, Nat.add_comm 1 j]; exact e (j + 1) y e')]
theorem lc_ints {a : Nat} {zs : List Int} {n m D : Nat} {sl : Nat} {elt : ME} {env : BH.Env} {st : Mst} (f : Int → Int) (ha : itemsOf st (.ref a) = some (zs.map .int)) (hl : n = zs.length) (hn : zs.length < 16777216) (hm : m = zs.length + 1) (hD : D = st.length)
    (step : ∀ z acc, elt (env.set sl (some (.int z))) (st ++ [.lst acc]) = .ok (.int (f z)) (st ++ [.lst acc])) :
    lcL (srcList a n) (.nm sl) mYes elt env D m 0 (st ++ [.lst []]) = .ok (.ref D) (st ++ [.lst ((zs.map f).map MV.int)]) := by
  rw [lc_list ha (fun i => (zs[i]?).map fun z => .int (f z)) (by simpa using hl) (by simpa using hn) (by simpa using hm) hD]
  · rw [List.range_eq_range', List.length_map, filter_ix (fun z => MV.int (f z)) _ zs 0 (fun j x h => by rw [Nat.zero_add, h]; rfl), List.map_map]
    rfl
  · intro i x acc hx
    rw [List.getElem?_map] at hx
    obtain ⟨z, hz, rfl⟩ := Option.map_eq_some_iff.mp hx
    refine ⟨_, rfl, ?_⟩
    rw [hz]
    exact ⟨rfl, step z acc⟩
theorem mcut_map {α γ : Type} (f : α → γ) (xs : List α) (lo hi : Option Int) : mcut (xs.map f) lo hi = (mcut xs lo hi).map f := by
  simp [mcut, List.map_take, List.map_drop]
theorem mcut_le {α : Type} (xs : List α) (lo hi : Option Int) : (mcut xs lo hi).length ≤ xs.length := by
  simp only [mcut, List.length_take, List.length_drop]
  omega
theorem dat_ints {st : Mst} {a : Nat} {xs : List Int} (h : st[a]? = some (.lst (xs.map MV.int))) : dat st 64 (.ref a) = some (.list (xs.map .int)) := by
  simp only [dat, h]
  rw [optAll_map (f := dat st 63) (g := MV.int) (k := PyData.int) (fun x => rfl)]
  rfl
theorem starts_note {ls : List Lay} {s : List Int} : ∀ i, i ≤ ls.length → ∀ t ∈ startsS ls ls.length s i, ∀ (q : Nat) (nm : Str) (tb : List (List Nat)), q < i → ls[q]? = some (Lay.note nm tb) → t[q]? = some 0
  | 0, _, t, _, q, nm, tb, hq, _ => by omega
  | i + 1, hi, t, ht, q, nm, tb, hq, hl => by
    simp only [startsS, List.mem_flatMap, List.mem_map] at ht
    obtain ⟨f, hf, o, ho, rfl⟩ := ht
    have hfl := starts_each ls ls.length s i f hf
    by_cases e : q = i
    · subst e
      rw [List.getElem?_append_right (by omega), hfl, Nat.sub_self]
      have : optS ls ls.length s q = [0] := by simp [optS, hl, varied, show ¬ ls.length ≤ q by omega]
      rw [this] at ho
      simp only [List.mem_singleton] at ho
      rw [ho]
      rfl
    · rw [List.getElem?_append_left (by omega)]
      exact starts_note i (by omega) f hf q nm tb (by omega) hl
theorem start_val {ls : List Lay} (G : Good ls) {s t : List Int} (h : t ∈ startsS ls ls.length s ls.length) : Val ls t :=
  ⟨starts_each _ _ _ _ _ h, fun i nm tb hl => ⟨0, starts_note ls.length (Nat.le_refl _) t h i nm tb (List.getElem?_eq_some_iff.mp hl).1 hl, by
    have := (G.at hl).1
    simp [count] at this
    omega⟩⟩
theorem kern_of : ∀ j, j < 7 → (bookAt j).1 = "mixed" ∨ (bookAt j).1 = "twochoose" ∨ (bookAt j).1 = "spread" ∨ (bookAt j).1 = "twodraw" ∨ (bookAt j).1 = "choose"
  | 0, _ => by decide
  | 1, _ => by decide
  | 2, _ => by decide
  | 3, _ => by decide
  | 4, _ => by decide
  | 5, _ => by decide
  | 6, _ => by decide
  | j + 7, h => by omega
theorem isi_tup (xs : List MV) (st : Mst) : gIsi [.tup xs, .ty "tuple"] st = .ok (.bl true) st := by
  simp [gIsi, tyName, isiT]
/-- the loop that counts the handed numbers up -/
theorem handed_ok {H m : Nat} {nn : List Int} {e0 e1 e2 e3 e4 e5 e6 e8 e9 : Option MV} {rest : List (Option MV)} {st : Mst} {Q : Fl → Mst → Prop} (hH : st[H]? = some (.lst (nn.map .int))) (hm : m = nn.length + 1)
    (hk : ∀ st' e9, Fr [H] st st' → st'[H]? = some (.lst ((nn.map (· + 1)).map .int)) → Q (.nx (e0 :: e1 :: e2 :: e3 :: e4 :: e5 :: e6 :: some (.ref H) :: e8 :: e9 :: rest)) st') :
    Post (forL (srcRange 0 nn.length) (gtName 9) (sAsg (mBin gAdd (mBin gIx (mVar 7) (mVar 9)) (mC (.int 1))) (gtSub (mVar 7) (mVar 9))) m 0 (e0 :: e1 :: e2 :: e3 :: e4 :: e5 :: e6 :: some (.ref H) :: e8 :: e9 :: rest) st) Q := by
  refine .range (fun i env st' => (∃ e9, env = e0 :: e1 :: e2 :: e3 :: e4 :: e5 :: e6 :: some (.ref H) :: e8 :: e9 :: rest) ∧ Fr [H] st st' ∧ st'[H]? = some (.lst (((nn.take i).map (· + 1) ++ nn.drop i).map .int))) ⟨⟨_, rfl⟩, .refl _ _, by simpa using hH⟩ hm ?_ ?_
  · rintro i env st' hi ⟨⟨e9, rfl⟩, Fi, hHi⟩
    obtain ⟨x, hx⟩ := get_of hi
    refine ⟨_, _, rfl, ?_⟩
    have hd : nn.drop i = x :: nn.drop (i + 1) := by
      rw [List.drop_eq_getElem_cons hi]
      congr 1
      have : nn[i]? = some nn[i] := by simp [hi]
      rw [this] at hx
      exact Option.some.inj hx
    have ex : gIx (.ref H) (.int i) st' = .ok (.int x) st' := gIx_lst hHi rfl (by
      rw [List.getElem?_map, List.getElem?_append_right (by simp; omega)]
      simp [hd, Nat.min_eq_left (Nat.le_of_lt hi)])
    have es := gSetIx_lst (v := .int (x + 1)) hHi (i := (i : Int)) rfl (by simp; omega)
    have e : (((nn.take i).map (· + 1) ++ nn.drop i).map MV.int).set i (.int (x + 1)) = (((nn.take (i + 1)).map (· + 1) ++ nn.drop (i + 1)).map MV.int) := by
      rw [← List.map_set, hd, List.set_append_right _ _ (by simp; omega)]
      simp only [List.length_map, List.length_take, Nat.min_eq_left (Nat.le_of_lt hi), Nat.sub_self, List.set_cons_zero, take_snoc hx]
      simp
    rw [e] at es
    simp -implicitDefEqProofs only [sAsg_ap, mBin_ap, mVar_ap, gtName_ap, List.set, getO, List.getElem?_cons_succ, List.getElem?_cons_zero, Res.bind_ok, Int.zero_add, ex, mC_ap, gAdd_int, bindX_ok, gtSub_ap, noX_ok, es, turns_nx]
    exact ⟨⟨_, rfl⟩, Fi.trans (.put _ _ _), List.getElem?_set_self (lt_of hHi)⟩
  · rintro env st' ⟨⟨e9, rfl⟩, Fi, hHi⟩
    refine hk st' e9 Fi ?_
    rw [hHi]
    simp
end K02

set_option Elab.async false
set_option linter.all false
set_option maxRecDepth 100000
set_option autoImplicit false
namespace K02
open PySem BH
def absI (z : Int) : Int := if z < 0 then -z else z
theorem law_true : ∀ ns : List Int, ns.length ≤ 63 → ∃ st, m_law [.ref 0] [.rol (ns.map .int)] = .ok (.bl true) st := by
  intro ns hns
  suffices h : Post (m_law [.ref 0] [.rol (ns.map .int)]) fun v st' => v = .bl true by
    obtain ⟨_, st, h, rfl⟩ := h
    exact ⟨st, h⟩
  have h0 : ([MO.rol (ns.map .int)] : Mst)[0]? = some (.rol (ns.map .int)) := rfl
  obtain ⟨st0, e0⟩ : ∃ x : Mst, x = [MO.rol (ns.map .int)] := ⟨_, rfl⟩
  rw [← e0] at h0 ⊢
  rw [m_law, fnM1, b_law]
  -- the row and the book
  obtain ⟨_, st1, r1, R, row, rfl, hR1, hrow, _, F1⟩ := row_ok h0 0 12 (by omega)
  simp -implicitDefEqProofs only [Int.cast_ofNat_Int] at r1
  obtain ⟨q0, hq0⟩ := get_of (xs := row) (i := 0) (by omega)
  obtain ⟨q1, hq1⟩ := get_of (xs := row) (i := 1) (by omega)
  obtain ⟨q2, hq2⟩ := get_of (xs := row) (i := 2) (by omega)
  obtain ⟨q3, hq3⟩ := get_of (xs := row) (i := 3) (by omega)
  have ex0 : gIx (.ref R) (.int 0) st1 = .ok (.int q0) st1 := gIx_lst hR1 (k := 0) rfl (by simp [hq0])
  obtain ⟨j, g, hj, bk⟩ := book_ok q0 st1
  have BO := bookAt_ok j hj
  have KO := kern_of j hj
  obtain ⟨es, hes⟩ := dat_book j hj
  obtain ⟨k, hk⟩ : ∃ k, k = (bookAt j).1 := ⟨_, rfl⟩
  obtain ⟨ls, hls⟩ : ∃ ls, ls = (bookAt j).2 := ⟨_, rfl⟩
  rw [← hk, ← hls] at bk BO
  rw [← hk] at KO
  rw [← hls] at hes
  have G := BO.good
  have hl5 := G.1
  obtain ⟨st2, e2⟩ : ∃ x, x = st1 ++ g := ⟨_, rfl⟩
  rw [← e2] at bk
  have F2 : ∀ W, Fr W st0 st2 := fun W => (F1 W).trans (by rw [e2]; exact .app _ _ _)
  have hR2 : st2[R]? = some (.lst (row.map .int)) := by rw [e2]; exact up hR1
  -- the book's object
  obtain ⟨_, st3, i1, rfl, hB3, F23⟩ := init_ok (a := st2.length) (st := st2 ++ [.ins 0 []]) BO last_snoc
  have F3 : ∀ W, Fr W st2 st3 := fun W => ((Fr.app [st2.length] _ _).trans F23).new (Nat.le_refl _) W
  obtain ⟨B, eB⟩ : ∃ x, x = st2.length := ⟨_, rfl⟩
  have h03 := F3 [] 0 _ (by simp) (F2 [] 0 _ (by simp) h0)
  obtain ⟨_, st4, r4, R8, row8, rfl, hR8, hrow8, _, F4⟩ := row_ok h03 1 8 (by omega)
  simp -implicitDefEqProofs only [Int.cast_ofNat_Int] at r4
  obtain ⟨_, st5, s5, rfl, F5⟩ := states_ok (F4 [] _ _ (by simp) hB3) hR8 hrow8 G
  obtain ⟨_, st6, s6, D6, rfl, hD6, _, F6⟩ := lawstarts_ok (st := st5) (s := List.replicate ls.length 0) (n := ls.length) G (by simp)
  have hz := zeros_ok ls.length hl5
  have F26 : ∀ W, Fr W st2 st6 := fun W => (F3 W).trans ((F4 W).trans ((F5 W).trans (F6 W)))
  have hR6 := F26 [] R _ (by simp) hR2
  have ex1 : gIx (.ref R) (.int 1) st6 = .ok (.int q1) st6 := gIx_lst hR6 (k := 1) rfl (by simp [hq1])
  have ex2 : gIx (.ref R) (.int 2) st6 = .ok (.int q2) st6 := gIx_lst hR6 (k := 2) rfl (by simp [hq2])
  have sl := starts_len G ls.length (List.replicate ls.length 0) ls.length
  obtain ⟨j1, hj1, hj1l⟩ := mod_nat (x := q1) sl.1
  have m1 := gMod_int (i := q1) (j := ((startsS ls ls.length (List.replicate ls.length 0) ls.length).length : Int)) (st := st6) (by omega)
  rw [hj1] at m1
  obtain ⟨s0, hs0⟩ := get_of hj1l
  have V0 := start_val G (List.mem_of_getElem? hs0)
  have es0 : gIx (.ref D6) (.int j1) st6 = .ok (itup s0) st6 := gIx_lst hD6 rfl (by simp [hs0])
  have gl6 := gLen_lst hD6
  rw [List.length_map] at gl6
  -- the numbers
  obtain ⟨m, hm, hml⟩ := mod_nat (x := q2) (m := 13) (by omega)
  have m13 := gMod_int (i := q2) (j := 13) (st := st6) (by omega)
  rw [show ((13 : Nat) : Int) = 13 from rfl] at hm
  rw [hm] at m13
  have h06 := F26 [] 0 _ (by simp) (F2 [] 0 _ (by simp) h0)
  have sl6 := gSl_rol_ap _ _ h06 (some 2) (some (2 + (m : Int)))
  rw [mcut_map] at sl6
  obtain ⟨zs, hzs⟩ : ∃ x, x = mcut ns (some 2) (some (2 + (m : Int))) := ⟨_, rfl⟩
  rw [← hzs] at sl6
  have zl : zs.length ≤ 63 := by rw [hzs]; exact Nat.le_trans (mcut_le _ _ _) hns
  obtain ⟨st7, e7⟩ : ∃ x, x = st6 ++ [MO.lst (zs.map MV.int)] := ⟨_, rfl⟩
  obtain ⟨L7, eL7⟩ : ∃ x, x = st6.length := ⟨_, rfl⟩
  rw [← e7, ← eL7] at sl6
  have hL7 : st7[L7]? = some (.lst (zs.map MV.int)) := by rw [e7, eL7]; exact last_snoc
  have so7 := srcOf_lst hL7
  obtain ⟨nn, hnn⟩ : ∃ x, x = zs.map absI := ⟨_, rfl⟩
  have nl : nn.length ≤ 63 := by rw [hnn]; simpa using zl
  have lc7 : ∀ env : BH.Env, env.length = 24 → lcL (srcList L7 zs.length) (.nm 17) mYes (mCallB gAbs (mCons (mCallB gInt (mCons (mVar 17) mNil)) mNil)) env st7.length (zs.length + 1) 0 (st7 ++ [.lst []]) = .ok (.ref st7.length) (st7 ++ [.lst (nn.map MV.int)]) := fun env he => by
    rw [hnn]
    refine lc_ints absI (itemsOf_lst hL7) rfl (by omega) rfl rfl fun z acc => ?_
    have : (env.set 17 (some (.int z)))[17]? = some (some (.int z)) := List.getElem?_set_self (by omega)
    simp -implicitDefEqProofs [this, getO, absI]
  obtain ⟨st8, e8⟩ : ∃ x, x = st7 ++ [MO.lst (nn.map MV.int)] := ⟨_, rfl⟩
  obtain ⟨N, eN⟩ : ∃ x, x = st7.length := ⟨_, rfl⟩
  rw [← e8, ← eN] at lc7
  have hN8 : st8[N]? = some (.lst (nn.map MV.int)) := by rw [e8, eN]; exact last_snoc
  have li8 := gList_lst hN8 (by simp; omega)
  obtain ⟨st9, e9⟩ : ∃ x, x = st8 ++ [MO.lst (nn.map MV.int)] := ⟨_, rfl⟩
  obtain ⟨H, eH⟩ : ∃ x, x = st8.length := ⟨_, rfl⟩
  rw [← e9, ← eH] at li8
  have hH9 : st9[H]? = some (.lst (nn.map MV.int)) := by rw [e9, eH]; exact last_snoc
  have F69 : ∀ W, Fr W st6 st9 := fun W => by rw [e9, e8, e7]; exact (Fr.app _ _ _).trans ((Fr.app _ _ _).trans (.app _ _ _))
  have hN9 : st9[N]? = some (.lst (nn.map MV.int)) := by rw [e9]; exact up hN8
  -- the play's object
  obtain ⟨_, st10, p1, rfl, T, hP10, hT10, lT, F910⟩ := playinit_ok (a := st9.length) (B := B) (H := H) (s := s0) (nn := nn) (st := st9 ++ [.ins 1 []]) last_snoc (up hH9)
  obtain ⟨P, eP⟩ : ∃ x, x = st9.length := ⟨_, rfl⟩
  have F10 : ∀ W, Fr W st9 st10 := fun W => ((Fr.app [st9.length] _ _).trans F910).new (Nat.le_refl _) W
  have hB9 : st9[B]? = some (bookO k ls) := by
    have := (F4 [] _ _ (by simp) hB3)
    rw [eB]
    exact F69 [] _ _ (by simp) (F6 [] _ _ (by simp) (F5 [] _ _ (by simp) this))
  have hB10 := F10 [] B _ (by simp) hB9
  have hH10 := F10 [] H _ (by simp) hH9
  have hN10 := F10 [] N _ (by simp) hN9
  rw [← eP] at p1 hP10
  rw [List.length_append, ← eP] at lT
  rw [← eB] at i1 hB3 s5
  have P10 : PSt P B T k ls s0 nn 0 0 [] st10 := ⟨hP10, hB10, hT10⟩
  have ne1 := gNe_same (dat_ints hH10) (dat_ints hN10)
  have ne2 : gNe (.str k) (.str k) st10 = .ok (.bl false) st10 := by simp -implicitDefEqProofs
  have ne3 := gNe_same (hes st10).1 (hes st10).1
  have gl10 := gLen_lst hH10
  rw [List.length_map] at gl10
  have rg10 := rngOf1_nat (j := (nn.length : Int)) (n := nn.length) (st := st10) rfl (by omega)
  simp -implicitDefEqProofs [r1, ex0, bk, ← eB, i1, r4, s5, hz, s6, ex1, gl6, m1, es0, ex2, m13, sl6, so7, ← eN, lc7, li8, ← eP, p1, ne1, P10.f_book, f_kernel hB10, f_layers hB10, ne2, ne3, gl10, rg10, -gIx_tup_ap]
  refine .finB (.bind (handed_ok hH10 rfl fun st11 o9 F11 hH11 => ?_))
  have ht11 := tyM_lst hH11
  have ha11 := gAppend_lst (y := .int 1) hH11 (by simp; omega)
  obtain ⟨st12, e12⟩ : ∃ x, x = st11.set H (.lst ((nn.map (· + 1)).map MV.int ++ [.int 1])) := ⟨_, rfl⟩
  rw [← e12] at ha11
  have F1012 : Fr [H] st10 st12 := by rw [e12]; exact F11.trans (.put _ _ _)
  have hH12 : st12[H]? = some (.lst ((nn.map (· + 1)).map MV.int ++ [.int 1])) := by rw [e12]; exact List.getElem?_set_self (lt_of hH11)
  obtain ⟨_, st13, d13, Dd, ds, rfl, hDd13, dok, dne, lDd, F13⟩ := deeds_ok (st := st12) k KO G
  have s0l : s0.length ≤ 5 := by rw [V0.1]; exact hl5
  have li13 : gList [itup s0] st13 = .ok (.ref st13.length) (st13 ++ [.lst (s0.map MV.int)]) := gList_tup (by simp; omega)
  obtain ⟨st14, e14⟩ : ∃ x, x = st13 ++ [MO.lst (s0.map MV.int)] := ⟨_, rfl⟩
  obtain ⟨A, eA⟩ : ∃ x, x = st13.length := ⟨_, rfl⟩
  rw [← e14, ← eA] at li13
  have hA14 : st14[A]? = some (.lst (s0.map MV.int)) := by rw [e14, eA]; exact last_snoc
  obtain ⟨st16, e16⟩ : ∃ x, x = st14 ++ [MO.lst [.ref A], MO.lst []] := ⟨_, rfl⟩
  have F1416 : ∀ W, Fr W st14 st16 := fun W => by rw [e16]; exact .app _ _ _
  have F1216 : ∀ W, Fr W st12 st16 := fun W => (F13 W).trans ((by rw [e14]; exact Fr.app _ _ _ : Fr W st13 st14).trans (F1416 W))
  obtain ⟨S, eS⟩ : ∃ x, x = st14.length := ⟨_, rfl⟩
  have hS16 : st16[S]? = some (.lst [.ref A]) := by rw [e16, eS]; simp
  have hT'16 : st16[S + 1]? = some (.lst []) := by rw [e16, eS]; simp
  -- where all lies
  have lHP : H < P := by rw [eP]; exact lt_of hH9
  have lNP : N < P := by rw [eP]; exact lt_of hN9
  have lNH : N < H := by rw [eH]; exact lt_of hN8
  have lBP : B < P := by rw [eP]; exact lt_of hB9
  have hR9 := F69 [] R _ (by simp) hR6
  have h09 := F69 [] 0 _ (by simp) h06
  have lRP : R < P := by rw [eP]; exact lt_of hR9
  have l0P : 0 < P := by rw [eP]; exact lt_of h09
  have lBH : B < H := by
    have h8 : st8[B]? = some (bookO k ls) := by
      have := F6 [] _ _ (by simp) (F5 [] _ _ (by simp) (F4 [] _ _ (by simp) hB3))
      rw [e8, e7]
      exact up (up this)
    rw [eH]; exact lt_of h8
  have lRH : R < H := by
    have h8 : st8[R]? = some (.lst (row.map .int)) := by rw [e8, e7]; exact up (up hR6)
    rw [eH]; exact lt_of h8
  have l0H : 0 < H := by omega
  have lPT : P < T := by simp at lT; omega
  have lT10 := lt_of hT10
  have l12 : st10.length ≤ st12.length := Fr.len F1012 (by simpa using lt_of hH12)
  have lDdA : Dd < A := by rw [eA]; exact lt_of hDd13
  have lAS : A < S := by rw [eS]; exact lt_of hA14
  have F1016 : Fr [H] st10 st16 := F1012.trans (F1216 _)
  have up16 : ∀ a o, a ≠ H → st10[a]? = some o → st16[a]? = some o := fun a o h e => F1016 a o (by simpa using h) e
  have C : LC k ls nn ds ns row R B N P T (S + 1) S Dd st16 :=
    { good := G
      dat := ⟨es, hes⟩
      h0 := up16 _ _ (by omega) (F10 [] _ _ (by simp) h09)
      hN := up16 _ _ (by omega) hN10
      hD := F1416 [] _ _ (by simp) (by rw [e14]; exact up hDd13)
      dok := dok
      dne := dne
      w0 := mem4.mpr ⟨by omega, by omega, by omega, by omega⟩
      wN := mem4.mpr ⟨by omega, by omega, by omega, by omega⟩
      wD := mem4.mpr ⟨by omega, by omega, by omega, by omega⟩
      wR := mem4.mpr ⟨by omega, by omega, by omega, by omega⟩
      PT' := by omega
      PS := by omega
      TT' := by omega
      TS := by omega
      T'S := by omega
      BT' := by omega
      BS := by omega }
  have hA16 := F1416 [] _ _ (by simp) hA14
  have wA : A ∉ [P, T, S + 1, S] := mem4.mpr ⟨by omega, by omega, by omega, by omega⟩
  have I0 : LIn k ls nn B P T (S + 1) S A s0 0 0 [] [.ref A] st16 st16 :=
    { fr := .refl _ _
      len := Nat.le_refl _
      val := V0
      hA := hA16
      wA := wA
      ps := ⟨up16 _ _ (by omega) hP10, up16 _ _ (by omega) hB10, up16 _ _ (by omega) hT10⟩
      hT' := hT'16
      hS := hS16
      sne := by simp
      sok := fun v hv => by
        simp only [List.mem_singleton] at hv
        exact ⟨A, s0, hv, wA, V0, hA16⟩
      tok := fun v hv => by simp at hv
      trl := by simp
      sel := by simp }
  have hR16 := up16 _ _ (by omega) (F10 [] _ _ (by simp) hR9)
  have ex3 : gIx (.ref R) (.int 3) st16 = .ok (.int q3) st16 := gIx_lst hR16 (k := 3) rfl (by simp [hq3])
  obtain ⟨c, hc, hcl⟩ := mod_nat (x := q3) (m := 21) (by omega)
  have m21 := gMod_int (i := q3) (j := 21) (st := st16) (by omega)
  rw [show ((21 : Nat) : Int) = 21 from rfl] at hc
  rw [hc] at m21
  have rg16 := rngOf1_nat (j := (c : Int)) (n := c) (st := st16) rfl (by omega)
  rw [e16] at ex3 m21 rg16
  simp -implicitDefEqProofs [ht11, ha11, d13, li13, ex3, m21, rg16, ← eS, -gIx_tup_ap]
  rw [← e16]
  refine .bind (.range (J k ls nn s0 R B N H P T (S + 1) S Dd st16) ⟨A, s0, 0, [], [.ref A], o9, none, none, none, none, none, none, none, rfl, I0⟩ rfl ?_ ?_)
  · rintro i env st' hi ⟨A, s, t, tr, seen, o9, o15, o16, o17, o18, o19, o20, o21, rfl, I⟩
    refine ⟨ev k ls R B s0 N H P Dd A S (S + 1) t (some (.int i)) o15 o16 o17 o18 o19 o20 o21, st', by simp [ev], ?_⟩
    exact body1_ok C I (by omega)
  · rintro env st17 ⟨A, s, t, tr, seen, o9, o15, o16, o17, o18, o19, o20, o21, rfl, I⟩
    obtain ⟨_, st18, r40, R40, row40, rfl, hR40, hrow40, _, F18⟩ := row_ok (I.fr 0 _ C.w0 C.h0) 40 3 (by omega)
    simp -implicitDefEqProofs only [Int.cast_ofNat_Int] at r40
    have I18 := I.mono F18
    obtain ⟨_, st19, en, E, okE', rfl, F19⟩ := end_ok I18.hA hR40 hrow40 G I18.val.1
    have I19 := I18.mono F19
    have oc : ∃ g, m_Play_outcome [.ref P, encE E] st19 = .ok (.tup [.tup tr, endS ls s E]) (st19 ++ g) := by
      cases E with
      | ret t => exact outcome_ret I19.ps G I19.val.1 t
      | fail n kind => exact outcome_fail I19.ps G I19.val.1 okE' kind
    obtain ⟨g20, oc⟩ := oc
    have co := I19.ps.cls (f := "outcome") (by simp [List.lookup])
    obtain ⟨st20, e20⟩ : ∃ x, x = st19 ++ g20 := ⟨_, rfl⟩
    rw [← e20] at oc
    have I20 := I19.mono (st' := st20) (fun W => by rw [e20]; exact .app _ _ _)
    have hN20 := I20.fr N _ C.wN C.hN
    have so20 := srcOf_lst hN20
    have lc20 : ∀ env : BH.Env, env.length = 24 → lcL (srcList N nn.length) (.nm 17) mYes (mBin gAdd (mVar 17) (mC (.int 1))) env st20.length (nn.length + 1) 0 (st20 ++ [.lst []]) = .ok (.ref st20.length) (st20 ++ [.lst ((nn.map (· + 1)).map MV.int)]) := fun env he => by
      refine lc_ints (· + 1) (itemsOf_lst hN20) rfl (by omega) rfl rfl fun z acc => ?_
      have : (env.set 17 (some (.int z)))[17]? = some (some (.int z)) := List.getElem?_set_self (by omega)
      simp -implicitDefEqProofs [this, getO]
    obtain ⟨xs, hxs⟩ : ∃ x, x = nn.map (· + 1) := ⟨_, rfl⟩
    rw [← hxs] at lc20 hH12
    have xl : xs.length ≤ 63 := by rw [hxs]; simpa using nl
    have ga : gAdd (.ref st20.length) (.ref (st20.length + 1)) (st20 ++ [.lst (xs.map MV.int), .lst [.int 1]]) = .ok (.ref (st20.length + 2)) (st20 ++ [.lst (xs.map MV.int), .lst [.int 1], .lst (xs.map MV.int ++ [.int 1])]) := by
      have := gAdd_lst (st := st20 ++ [.lst (xs.map MV.int), .lst [.int 1]]) (a := st20.length) (b := st20.length + 1) (xs := xs.map MV.int) (ys := [.int 1]) (by simp) (by simp) (by simp; omega)
      simpa using this
    have wH : H ∉ [P, T, S + 1, S] := mem4.mpr ⟨by omega, by omega, by omega, by omega⟩
    have hH16 := F1216 [] H _ (by simp) hH12
    have hH20 := I20.fr H _ wH hH16
    have ex : xs.map MV.int ++ [.int 1] = (xs ++ [1]).map MV.int := by simp
    have neH : gNe (.ref H) (.ref (st20.length + 2)) (st20 ++ [.lst (xs.map MV.int), .lst [.int 1], .lst (xs.map MV.int ++ [.int 1])]) = .ok (.bl false) (st20 ++ [.lst (xs.map MV.int), .lst [.int 1], .lst (xs.map MV.int ++ [.int 1])]) := by
      refine gNe_same (dat_ints (xs := xs ++ [1]) ?_) (dat_ints (xs := xs ++ [1]) ?_)
      · rw [← ex]; exact up hH20
      · rw [← ex]; simp
    have gt := gTuple_lst (up I20.hT' (g := [.lst (xs.map MV.int), .lst [.int 1], .lst (xs.map MV.int ++ [.int 1])]))
    obtain ⟨d1, hd1⟩ := good_all I20.tok (n := 62) (by omega)
    obtain ⟨d2, hd2⟩ := endS_good ls s E
    have eq : ∀ st, gEq (.tup [.tup tr, endS ls s E]) (.tup [.tup tr, endS ls s E]) st = .ok (.bl true) st := fun st => by
      have hd : dat st 64 (.tup [.tup tr, endS ls s E]) = some (.tuple [.tuple d1, d2]) := by
        have h1 : dat st 63 (.tup tr) = some (.tuple d1) := by simp only [dat, hd1]; rfl
        have h2 := hd2 st
        simp only [dat, optAll] at h1 h2 ⊢
        rw [h1, h2]
        rfl
      exact gEq_same hd hd
    simp -implicitDefEqProofs [r40, en, co, oc, so20, lc20, ga, neH, gt, eq, isi_tup]
end K02

set_option Elab.async false
set_option linter.all false
set_option maxRecDepth 100000
set_option autoImplicit false
namespace K02
open PySem PySem.Spec PyProof.Rows L2 BH
def top (i : Nat) : Stmt := PySem.Challenge.pw_bookshandled_k02_plays.main.body.getD i (.Pass ⟨0, 0, 0, 0⟩)
abbrev s_is_name : Stmt := top 6
abbrev s_is_monoid : Stmt := top 13
abbrev s_is_layer : Stmt := top 14
abbrev s_Book_word_at : Stmt := inClass (top 15) 1
abbrev s_Book_count_at : Stmt := inClass (top 15) 2
abbrev s_starts_below : Stmt := top 17
abbrev s_starts : Stmt := top 18
abbrev s_place_below : Stmt := top 19
abbrev s_kept : Stmt := top 20
abbrev s_changed : Stmt := top 21
abbrev s_Book_product : Stmt := inClass (top 15) 4
abbrev s_noted : Stmt := top 22
abbrev s_law_row : Stmt := top 26
abbrev s_law_book : Stmt := top 27
abbrev s_law_deeds : Stmt := top 28
abbrev s_law_starts : Stmt := top 29
abbrev s_law_kept : Stmt := top 30
abbrev s_law_asked : Stmt := top 31
abbrev s_law_step : Stmt := top 32
abbrev s_law_back : Stmt := top 33
abbrev s_law_states : Stmt := top 34
abbrev s_law_end : Stmt := top 35
abbrev s_Play_outcome : Stmt := inClass (top 24) 5
abbrev s_Play_restore : Stmt := inClass (top 24) 4
abbrev s_Book_ways_at : Stmt := inClass (top 15) 3
abbrev s_Play_next_number : Stmt := inClass (top 24) 1
abbrev s_Play_ask : Stmt := inClass (top 24) 2
abbrev s_Play_answer : Stmt := inClass (top 24) 3
abbrev s_Play_init : Stmt := inClass (top 24) 0
abbrev s_Book_init : Stmt := inClass (top 15) 0
abbrev s_law : Stmt := top 36
/-- what the top leaves -/
structure Txt (K : PySem.W.Frag) (w : World) (mg : Str → Option Value) (cl : Nat → Addr) : Prop where
  d_is_name : DefT K mg "is_name" "is_name" s_is_name ["token"] []
  d_is_monoid : DefT K mg "is_monoid" "is_monoid" s_is_monoid ["table"] []
  d_is_layer : DefT K mg "is_layer" "is_layer" s_is_layer ["layer"] []
  q_Book_word_at : MethT K cl 0 "word_at" "Book.word_at" s_Book_word_at ["self", "layer"] []
  q_Book_count_at : MethT K cl 0 "count_at" "Book.count_at" s_Book_count_at ["self", "layer"] []
  d_starts_below : DefT K mg "starts_below" "starts_below" s_starts_below ["book", "layer", "state"] []
  d_starts : DefT K mg "starts" "starts" s_starts ["book"] []
  d_place_below : DefT K mg "place_below" "place_below" s_place_below ["book", "layer", "state"] []
  d_kept : DefT K mg "kept" "kept" s_kept ["book", "state", "layer"] []
  d_changed : DefT K mg "changed" "changed" s_changed ["state", "layer", "entry"] []
  q_Book_product : MethT K cl 0 "product" "Book.product" s_Book_product ["self", "layer", "first", "second"] []
  d_noted : DefT K mg "noted" "noted" s_noted ["book", "state", "layer", "member"] []
  d_law_row : DefT K mg "_law_row" "_law_row" s_law_row ["script", "k", "count"] []
  d_law_book : DefT K mg "_law_book" "_law_book" s_law_book ["k"] []
  d_law_deeds : DefT K mg "_law_deeds" "_law_deeds" s_law_deeds ["kernel", "layers"] []
  d_law_starts : DefT K mg "_law_starts" "_law_starts" s_law_starts ["layers", "layer", "state"] []
  d_law_kept : DefT K mg "_law_kept" "_law_kept" s_law_kept ["layers", "state", "layer"] []
  d_law_asked : DefT K mg "_law_asked" "_law_asked" s_law_asked ["layers", "state", "deed", "number", "trail"] []
  d_law_step : DefT K mg "_law_step" "_law_step" s_law_step ["layers", "state", "deed", "number", "trail"] []
  d_law_back : DefT K mg "_law_back" "_law_back" s_law_back ["layers", "state", "layer", "old"] []
  d_law_states : DefT K mg "_law_states" "_law_states" s_law_states ["book", "layers", "row"] []
  d_law_end : DefT K mg "_law_end" "_law_end" s_law_end ["layers", "state", "row"] []
  q_Play_outcome : MethT K cl 1 "outcome" "Play.outcome" s_Play_outcome ["self", "deed"] []
  q_Play_restore : MethT K cl 1 "restore" "Play.restore" s_Play_restore ["self", "layer", "state"] []
  q_Book_ways_at : MethT K cl 0 "ways_at" "Book.ways_at" s_Book_ways_at ["self", "layer", "deed"] []
  q_Play_next_number : MethT K cl 1 "next_number" "Play.next_number" s_Play_next_number ["self"] []
  q_Play_ask : MethT K cl 1 "ask" "Play.ask" s_Play_ask ["self", "layer", "deed"] []
  q_Play_answer : MethT K cl 1 "answer" "Play.answer" s_Play_answer ["self", "deed"] []
  i_Play : InitT K mg cl 1 "Play" "Play.__init__" s_Play_init ["self", "book", "start", "script"] []
  i_Book : InitT K mg cl 0 "Book" "Book.__init__" s_Book_init ["self", "kernel", "layers"] []
  d_law : DefT K mg "law" "law" s_law ["script"] []
  c_Book : Cls K (cl 0)
  c_Play : Cls K (cl 1)
  a_book : ClsA K cl [1] "book"
  a_deeds : ClsA K cl [1] "deeds"
  a_kernel : ClsA K cl [0] "kernel"
  a_layers : ClsA K cl [0] "layers"
  a_script : ClsA K cl [1] "script"
  a_size : ClsA K cl [0] "size"
  a_state : ClsA K cl [1] "state"
  a_taken : ClsA K cl [1] "taken"
  a_trail : ClsA K cl [1] "trail"
  b_abs : mg "abs" = none
  b_all : mg "all" = none
  b_bool : mg "bool" = none
  b_enumerate : mg "enumerate" = none
  b_int : mg "int" = none
  b_isinstance : mg "isinstance" = none
  b_len : mg "len" = none
  b_list : mg "list" = none
  b_range : mg "range" = none
  b_tuple : mg "tuple" = none
  g_KEPT : GlobT K mg "KEPT" c_KEPT
  g_LETTERS : GlobT K mg "LETTERS" c_LETTERS
  g_MOST_LAYERS : GlobT K mg "MOST_LAYERS" c_MOST_LAYERS
  g_MOST_STARTS : GlobT K mg "MOST_STARTS" c_MOST_STARTS
  g_VARIED : GlobT K mg "VARIED" c_VARIED
  k_CHOICES : KeysT K w mg "CHOICES" k_CHOICES
section
variable {P : Program} {w : World} {K : PySem.W.Frag} {mg : Str → Option Value} {base : Heap} {cl : Nat → Addr}
theorem sc_is_name : FnScope ["token", "sign"] ["token"] (defScope s_is_name) := ⟨rfl, rfl, rfl, by decide +kernel, rfl, by decide +kernel, by decide +kernel⟩
theorem t_is_name (T : Txt K w mg cl) : DefG P w K mg base cl 1 "is_name" ["token"] [] m_is_name :=
  DefG.of (k := 0) T.d_is_name (N := ["token", "sign"]) sc_is_name (fun f cdv A outer s H E hr => have nd : List.Nodup (["token", "sign"] : List Str) := sc_is_name.nd; (sss_cons (ss_for po_cx rfl (si_of (se_var 0)) (sg_name (i := 1) nd rfl (by first | exact Or.inl rfl | exact Or.inr rfl)) (sss_one (ss_if (st_cmp og_notIn (se_var 1) (se_globD T.g_LETTERS (by rfl)) (by rfl)) (sss_one (ss_ret se_bl)) sss_nil)))
    (sss_one (ss_ret (se_chain og_le og_le se_int (se_callB cg_len (by rfl) T.b_len (by decide +kernel) (sa_cons (se_var 0) sa_nil)) se_int)))))
theorem sc_is_monoid : FnScope ["table", "size", "row", "a", "b", "c", "member"] ["table"] (defScope s_is_monoid) := ⟨rfl, rfl, rfl, by decide +kernel, rfl, by decide +kernel, by decide +kernel⟩
theorem t_is_monoid (T : Txt K w mg cl) : DefG P w K mg base cl 1 "is_monoid" ["table"] [] m_is_monoid :=
  DefG.of (k := 0) T.d_is_monoid (N := ["table", "size", "row", "a", "b", "c", "member"]) sc_is_monoid (fun f cdv A outer s H E hr => have nd : List.Nodup (["table", "size", "row", "a", "b", "c", "member"] : List Str) := sc_is_monoid.nd; (sss_cons (ss_set (i := 1) nd rfl (by first | exact Or.inl rfl | exact Or.inr rfl) (se_callB cg_len (by rfl) T.b_len (by decide +kernel) (sa_cons (se_var 0) sa_nil)))
    (sss_cons (ss_if (st_not (st_chain og_le og_le se_int (se_var 1) se_int)) (sss_one (ss_ret se_bl)) sss_nil)
    (sss_cons (ss_for po_cx rfl (si_of (se_var 0)) (sg_name (i := 2) nd rfl (by first | exact Or.inl rfl | exact Or.inr rfl)) (sss_one (ss_if (st_w (sw_or (st_cmp (og_ne hr.units) (se_callB cg_len (by rfl) T.b_len (by decide +kernel) (sa_cons (se_var 2) sa_nil)) (se_var 1) (nomark _)) (sw_or1 (st_not (st_truth (se_callB (cg_all rfl) (by rfl) T.b_all (by decide +kernel) (sa_cons (se_lc rfl nd (si_of (se_var 2)) (blkOk_by (own := [("member", 6)]) (N := ["table", "size", "row", "a", "b", "c", "member"]) (sc := defScope s_is_monoid) (by decide +kernel)) rfl (by decide) (fun _ _ _ _ _ => pg_name (i := 6) nd rfl (by first | exact Or.inl rfl | exact Or.inr rfl)) (fun _ _ _ _ _ => sts_nil) (fun _ _ _ _ _ => (se_chain og_le og_lt se_int (se_var 6) (se_var 1)))) sa_nil))))))) (sss_one (ss_ret se_bl)) sss_nil)))
    (sss_cons (ss_for po_cx rfl (si_range1 (by rfl) T.b_range (sa_cons (se_var 1) sa_nil)) (sg_name (i := 3) nd rfl (by first | exact Or.inl rfl | exact Or.inr rfl)) (sss_cons (ss_if (st_w (sw_or (st_cmp (og_ne hr.units) (se_ix (ha' := fun _ _ => rfl) (se_ix (ha' := fun _ _ => rfl) (se_var 0) se_int) (se_var 3)) (se_var 3) (nomark _)) (sw_or1 (st_cmp (og_ne hr.units) (se_ix (ha' := fun _ _ => rfl) (se_ix (ha' := fun _ _ => rfl) (se_var 0) (se_var 3)) se_int) (se_var 3) (nomark _))))) (sss_one (ss_ret se_bl)) sss_nil)
    (sss_one (ss_for po_cx rfl (si_range1 (by rfl) T.b_range (sa_cons (se_var 1) sa_nil)) (sg_name (i := 4) nd rfl (by first | exact Or.inl rfl | exact Or.inr rfl)) (sss_one (ss_for po_cx rfl (si_range1 (by rfl) T.b_range (sa_cons (se_var 1) sa_nil)) (sg_name (i := 5) nd rfl (by first | exact Or.inl rfl | exact Or.inr rfl)) (sss_one (ss_if (st_cmp (og_ne hr.units) (se_ix (ha' := fun _ _ => rfl) (se_ix (ha' := fun _ _ => rfl) (se_var 0) (se_ix (ha' := fun _ _ => rfl) (se_ix (ha' := fun _ _ => rfl) (se_var 0) (se_var 3)) (se_var 4))) (se_var 5)) (se_ix (ha' := fun _ _ => rfl) (se_ix (ha' := fun _ _ => rfl) (se_var 0) (se_var 3)) (se_ix (ha' := fun _ _ => rfl) (se_ix (ha' := fun _ _ => rfl) (se_var 0) (se_var 4)) (se_var 5))) (nomark _)) (sss_one (ss_ret se_bl)) sss_nil))))))))
    (sss_one (ss_ret se_bl)))))))
theorem sc_is_layer : FnScope ["layer", "ways"] ["layer"] (defScope s_is_layer) := ⟨rfl, rfl, rfl, by decide +kernel, rfl, by decide +kernel, by decide +kernel⟩
theorem t_is_layer (T : Txt K w mg cl) : DefG P w K mg base cl 2 "is_layer" ["layer"] [] m_is_layer :=
  DefG.of (k := 1) T.d_is_layer (N := ["layer", "ways"]) sc_is_layer (fun f cdv A outer s H E hr => have nd : List.Nodup (["layer", "ways"] : List Str) := sc_is_layer.nd; (sss_cons (ss_if (st_not (st_truth (se_callD (t_is_name T) (hr.mono (by decide)) (by rfl) tk_cx (sa_cons (se_ix (ha' := fun _ _ => rfl) (se_var 0) se_int) sa_nil)))) (sss_one (ss_ret se_bl)) sss_nil)
    (sss_cons (ss_if (st_cmp og_in (se_ix (ha' := fun _ _ => rfl) (se_var 0) se_int) (se_globD T.g_VARIED (by rfl)) (by rfl)) (sss_one (ss_ret (se_chain og_le og_le se_int (se_ix (ha' := fun _ _ => rfl) (se_var 0) se_int) se_int))) sss_nil)
    (sss_cons (ss_if (st_cmp (og_eq hr.units) (se_ix (ha' := fun _ _ => rfl) (se_var 0) se_int) se_str (nomark _)) (sss_one (ss_ret (se_chain og_le og_le se_int (se_ix (ha' := fun _ _ => rfl) (se_var 0) se_int) se_int))) sss_nil)
    (sss_cons (ss_if (st_cmp (og_eq hr.units) (se_ix (ha' := fun _ _ => rfl) (se_var 0) se_int) se_str (nomark _)) (sss_one (ss_ret (se_callD (t_is_monoid T) (hr.mono (by decide)) (by rfl) tk_cx (sa_cons (se_ix (ha' := fun _ _ => rfl) (se_var 0) se_int) sa_nil)))) sss_nil)
    (sss_cons (ss_if (st_cmp (og_eq hr.units) (se_ix (ha' := fun _ _ => rfl) (se_var 0) se_int) se_str (nomark _)) (sss_one (ss_ret (se_and (se_chain og_le og_le se_int (se_callB cg_len (by rfl) T.b_len (by decide +kernel) (sa_cons (se_ix (ha' := fun _ _ => rfl) (se_var 0) se_int) sa_nil)) se_int) (se_one (se_callB (cg_all rfl) (by rfl) T.b_all (by decide +kernel) (sa_cons (se_lc rfl nd (si_of (se_ix (ha' := fun _ _ => rfl) (se_var 0) se_int)) (blkOk_by (own := [("ways", 1)]) (N := ["layer", "ways"]) (sc := defScope s_is_layer) (by decide +kernel)) rfl (by decide) (fun _ _ _ _ _ => pg_name (i := 1) nd rfl (by first | exact Or.inl rfl | exact Or.inr rfl)) (fun _ _ _ _ _ => sts_nil) (fun _ _ _ _ _ => (se_chain og_le og_le se_int (se_var 1) se_int))) sa_nil)))))) sss_nil)
    (sss_one (ss_ret se_bl))))))))
theorem sc_Book_word_at : FnScope ["self", "layer"] ["self", "layer"] (defScope s_Book_word_at) := ⟨rfl, rfl, rfl, by decide +kernel, rfl, by decide +kernel, by decide +kernel⟩
theorem t_Book_word_at (T : Txt K w mg cl) : MethG P w K mg base cl 1 0 "word_at" ["self", "layer"] [] m_Book_word_at :=
  MethG.of (k := 0) T.q_Book_word_at (N := ["self", "layer"]) sc_Book_word_at (fun f cdv A outer s H E hr => have nd : List.Nodup (["self", "layer"] : List Str) := sc_Book_word_at.nd; (sss_one (ss_ret (se_ix (ha' := fun _ _ => rfl) (se_ix (ha' := fun _ _ => rfl) (se_fld T.a_layers (se_var 0)) (se_op og_sub (se_var 1) se_int)) se_int))))
theorem sc_Book_count_at : FnScope ["self", "layer", "found"] ["self", "layer"] (defScope s_Book_count_at) := ⟨rfl, rfl, rfl, by decide +kernel, rfl, by decide +kernel, by decide +kernel⟩
theorem t_Book_count_at (T : Txt K w mg cl) : MethG P w K mg base cl 1 0 "count_at" ["self", "layer"] [] m_Book_count_at :=
  MethG.of (k := 0) T.q_Book_count_at (N := ["self", "layer", "found"]) sc_Book_count_at (fun f cdv A outer s H E hr => have nd : List.Nodup (["self", "layer", "found"] : List Str) := sc_Book_count_at.nd; (sss_cons (ss_set (i := 2) nd rfl (by first | exact Or.inl rfl | exact Or.inr rfl) (se_ix (ha' := fun _ _ => rfl) (se_fld T.a_layers (se_var 0)) (se_op og_sub (se_var 1) se_int)))
    (sss_cons (ss_if (st_cmp og_in (se_ix (ha' := fun _ _ => rfl) (se_var 2) se_int) (se_tup (sa_cons se_str (sa_cons se_str sa_nil))) (by rfl)) (sss_one (ss_ret (se_callB cg_len (by rfl) T.b_len (by decide +kernel) (sa_cons (se_ix (ha' := fun _ _ => rfl) (se_var 2) se_int) sa_nil)))) sss_nil)
    (sss_one (ss_ret (se_ix (ha' := fun _ _ => rfl) (se_var 2) se_int))))))
theorem sc_starts_below : FnScope ["book", "layer", "state", "found", "at", "options", "first", "entry"] ["book", "layer", "state"] (defScope s_starts_below) := ⟨rfl, rfl, rfl, by decide +kernel, rfl, by decide +kernel, by decide +kernel⟩
theorem t_starts_below (T : Txt K w mg cl) : DefG P w K mg base cl 2 "starts_below" ["book", "layer", "state"] [] m_starts_below :=
  DefG.of (k := 1) T.d_starts_below (N := ["book", "layer", "state", "found", "at", "options", "first", "entry"]) sc_starts_below (fun f cdv A outer s H E hr => have nd : List.Nodup (["book", "layer", "state", "found", "at", "options", "first", "entry"] : List Str) := sc_starts_below.nd; (sss_cons (ss_set (i := 3) nd rfl (by first | exact Or.inl rfl | exact Or.inr rfl) (se_lst (sa_cons (se_tup sa_nil) sa_nil)))
    (sss_cons (ss_for po_cx rfl (si_range1 (by rfl) T.b_range (sa_cons (se_fld T.a_size (se_var 0)) sa_nil)) (sg_name (i := 4) nd rfl (by first | exact Or.inl rfl | exact Or.inr rfl)) (sss_cons (ss_if (st_cmp og_ge (se_op og_add (se_var 4) se_int) (se_var 1) (nomark _)) (sss_one (ss_set (i := 5) nd rfl (by first | exact Or.inl rfl | exact Or.inr rfl) (se_lst (sa_cons (se_ix (ha' := fun _ _ => rfl) (se_var 2) (se_var 4)) sa_nil)))) (sss_one (ss_if (st_cmp og_in (se_methD _ (t_Book_word_at T) T.c_Book (hr.mono (by decide)) tk_cx (se_var 0) (sa_cons (se_op og_add (se_var 4) se_int) sa_nil)) (se_globD T.g_VARIED (by rfl)) (by rfl)) (sss_one (ss_set (i := 5) nd rfl (by first | exact Or.inl rfl | exact Or.inr rfl) (se_listRg1 rfl (by rfl) T.b_list (by rfl) T.b_range (se_methD _ (t_Book_count_at T) T.c_Book (hr.mono (by decide)) tk_cx (se_var 0) (sa_cons (se_op og_add (se_var 4) se_int) sa_nil))))) (sss_one (ss_set (i := 5) nd rfl (by first | exact Or.inl rfl | exact Or.inr rfl) (se_lst (sa_cons se_int sa_nil)))))))
    (sss_one (ss_setLc2 (i := 3) rfl nd rfl rfl (sw_true rfl rfl rfl (by decide +kernel)) (si_of (se_var 3)) (blkOk_by (own := [("first", 6), ("entry", 7)]) (N := ["book", "layer", "state", "found", "at", "options", "first", "entry"]) (sc := defScope s_starts_below) (by decide +kernel)) rfl (by decide) (by decide) (by decide) (fun _ _ _ _ _ => pg_name (i := 6) nd rfl (by first | exact Or.inl rfl | exact Or.inr rfl)) (fun _ _ _ _ _ => sts_nil) (fun _ _ _ _ _ => (si_of (se_var 5))) (fun _ _ _ _ _ => pg_name (i := 7) nd rfl (by first | exact Or.inl rfl | exact Or.inr rfl)) (fun _ _ _ _ _ => sts_nil) (fun _ _ _ _ _ => (se_op og_add (se_var 6) (se_tup (sa_cons (se_var 7) sa_nil))))))))
    (sss_one (ss_ret (se_var 3))))))
theorem sc_starts : FnScope ["book"] ["book"] (defScope s_starts) := ⟨rfl, rfl, rfl, by decide +kernel, rfl, by decide +kernel, by decide +kernel⟩
theorem t_starts (T : Txt K w mg cl) : DefG P w K mg base cl 3 "starts" ["book"] [] m_starts :=
  DefG.of (k := 2) T.d_starts (N := ["book"]) sc_starts (fun f cdv A outer s H E hr => have nd : List.Nodup (["book"] : List Str) := sc_starts.nd; (sss_one (ss_ret (se_callD (t_starts_below T) (hr.mono (by decide)) (by rfl) tk_cx (sa_cons (se_var 0) (sa_cons (se_op og_add (se_fld T.a_size (se_var 0)) se_int) (sa_cons (se_op og_mul (se_tup (sa_cons se_int sa_nil)) (se_fld T.a_size (se_var 0))) sa_nil)))))))
theorem sc_place_below : FnScope ["book", "layer", "state", "place", "at"] ["book", "layer", "state"] (defScope s_place_below) := ⟨rfl, rfl, rfl, by decide +kernel, rfl, by decide +kernel, by decide +kernel⟩
theorem t_place_below (T : Txt K w mg cl) : DefG P w K mg base cl 2 "place_below" ["book", "layer", "state"] [] m_place_below :=
  DefG.of (k := 1) T.d_place_below (N := ["book", "layer", "state", "place", "at"]) sc_place_below (fun f cdv A outer s H E hr => have nd : List.Nodup (["book", "layer", "state", "place", "at"] : List Str) := sc_place_below.nd; (sss_cons (ss_set (i := 3) nd rfl (by first | exact Or.inl rfl | exact Or.inr rfl) se_int)
    (sss_cons (ss_for po_cx rfl (si_range1 (by rfl) T.b_range (sa_cons (se_op og_sub (se_var 1) se_int) sa_nil)) (sg_name (i := 4) nd rfl (by first | exact Or.inl rfl | exact Or.inr rfl)) (sss_one (ss_if (st_cmp og_in (se_methD _ (t_Book_word_at T) T.c_Book (hr.mono (by decide)) tk_cx (se_var 0) (sa_cons (se_op og_add (se_var 4) se_int) sa_nil)) (se_globD T.g_VARIED (by rfl)) (by rfl)) (sss_one (ss_set (i := 3) nd rfl (by first | exact Or.inl rfl | exact Or.inr rfl) (se_op og_add (se_op og_mul (se_var 3) (se_methD _ (t_Book_count_at T) T.c_Book (hr.mono (by decide)) tk_cx (se_var 0) (sa_cons (se_op og_add (se_var 4) se_int) sa_nil))) (se_ix (ha' := fun _ _ => rfl) (se_var 2) (se_var 4))))) sss_nil)))
    (sss_one (ss_ret (se_var 3))))))
theorem sc_kept : FnScope ["book", "state", "layer", "found", "at"] ["book", "state", "layer"] (defScope s_kept) := ⟨rfl, rfl, rfl, by decide +kernel, rfl, by decide +kernel, by decide +kernel⟩
theorem t_kept (T : Txt K w mg cl) : DefG P w K mg base cl 2 "kept" ["book", "state", "layer"] [] m_kept :=
  DefG.of (k := 1) T.d_kept (N := ["book", "state", "layer", "found", "at"]) sc_kept (fun f cdv A outer s H E hr => have nd : List.Nodup (["book", "state", "layer", "found", "at"] : List Str) := sc_kept.nd; (sss_cons (ss_set (i := 3) nd rfl (by first | exact Or.inl rfl | exact Or.inr rfl) (se_lst sa_nil))
    (sss_cons (ss_for po_cx rfl (si_range1 (by rfl) T.b_range (sa_cons (se_op og_sub (se_var 2) se_int) sa_nil)) (sg_name (i := 4) nd rfl (by first | exact Or.inl rfl | exact Or.inr rfl)) (sss_one (ss_expr (se_bm PySem.F.plainAttrs_list PySem.F.slot_list_append PySem.F.type_list_append mg_append (se_var 3) (sa_cons (se_ifExp (st_cmp (og_eq hr.units) (se_methD _ (t_Book_word_at T) T.c_Book (hr.mono (by decide)) tk_cx (se_var 0) (sa_cons (se_op og_add (se_var 4) se_int) sa_nil)) se_str (nomark _)) se_int (se_ix (ha' := fun _ _ => rfl) (se_var 1) (se_var 4))) sa_nil)))))
    (sss_one (ss_ret (se_callTy cg_tuple (by rfl) T.b_tuple (by decide +kernel) (sa_cons (se_var 3) sa_nil)))))))
theorem sc_changed : FnScope ["state", "layer", "entry"] ["state", "layer", "entry"] (defScope s_changed) := ⟨rfl, rfl, rfl, by decide +kernel, rfl, by decide +kernel, by decide +kernel⟩
theorem t_changed (T : Txt K w mg cl) : DefG P w K mg base cl 1 "changed" ["state", "layer", "entry"] [] m_changed :=
  DefG.of (k := 0) T.d_changed (N := ["state", "layer", "entry"]) sc_changed (fun f cdv A outer s H E hr => have nd : List.Nodup (["state", "layer", "entry"] : List Str) := sc_changed.nd; (sss_one (ss_ret (se_op og_add (se_op og_add (se_sl (se_var 0) sp_none (sp_some (se_op og_sub (se_var 1) se_int))) (se_tup (sa_cons (se_var 2) sa_nil))) (se_sl (se_var 0) (sp_some (se_var 1)) sp_none)))))
theorem sc_Book_product : FnScope ["self", "layer", "first", "second"] ["self", "layer", "first", "second"] (defScope s_Book_product) := ⟨rfl, rfl, rfl, by decide +kernel, rfl, by decide +kernel, by decide +kernel⟩
theorem t_Book_product (T : Txt K w mg cl) : MethG P w K mg base cl 1 0 "product" ["self", "layer", "first", "second"] [] m_Book_product :=
  MethG.of (k := 0) T.q_Book_product (N := ["self", "layer", "first", "second"]) sc_Book_product (fun f cdv A outer s H E hr => have nd : List.Nodup (["self", "layer", "first", "second"] : List Str) := sc_Book_product.nd; (sss_one (ss_ret (se_ix (ha' := fun _ _ => rfl) (se_ix (ha' := fun _ _ => rfl) (se_ix (ha' := fun _ _ => rfl) (se_ix (ha' := fun _ _ => rfl) (se_fld T.a_layers (se_var 0)) (se_op og_sub (se_var 1) se_int)) se_int) (se_var 2)) (se_var 3)))))
theorem sc_noted : FnScope ["book", "state", "layer", "member"] ["book", "state", "layer", "member"] (defScope s_noted) := ⟨rfl, rfl, rfl, by decide +kernel, rfl, by decide +kernel, by decide +kernel⟩
theorem t_noted (T : Txt K w mg cl) : DefG P w K mg base cl 2 "noted" ["book", "state", "layer", "member"] [] m_noted :=
  DefG.of (k := 1) T.d_noted (N := ["book", "state", "layer", "member"]) sc_noted (fun f cdv A outer s H E hr => have nd : List.Nodup (["book", "state", "layer", "member"] : List Str) := sc_noted.nd; (sss_one (ss_ret (se_callD (t_changed T) (hr.mono (by decide)) (by rfl) tk_cx (sa_cons (se_var 1) (sa_cons (se_var 2) (sa_cons (se_methD _ (t_Book_product T) T.c_Book (hr.mono (by decide)) tk_cx (se_var 0) (sa_cons (se_var 2) (sa_cons (se_ix (ha' := fun _ _ => rfl) (se_var 1) (se_op og_sub (se_var 2) se_int)) (sa_cons (se_var 3) sa_nil)))) sa_nil)))))))
theorem sc_law_row : FnScope ["script", "k", "count", "cell", "row", "at", "seed"] ["script", "k", "count"] (defScope s_law_row) := ⟨rfl, rfl, rfl, by decide +kernel, rfl, by decide +kernel, by decide +kernel⟩
theorem t_law_row (T : Txt K w mg cl) : DefG P w K mg base cl 1 "_law_row" ["script", "k", "count"] [] m_law_row :=
  DefG.of (k := 0) T.d_law_row (N := ["script", "k", "count", "cell", "row", "at", "seed"]) sc_law_row (fun f cdv A outer s H E hr => have nd : List.Nodup (["script", "k", "count", "cell", "row", "at", "seed"] : List Str) := sc_law_row.nd; (sss_cons (ss_set (i := 3) nd rfl (by first | exact Or.inl rfl | exact Or.inr rfl) se_int)
    (sss_cons (ss_if (st_cmp og_lt (se_var 1) (se_callB cg_len (by rfl) T.b_len (by decide +kernel) (sa_cons (se_var 0) sa_nil)) (nomark _)) (sss_one (ss_set (i := 3) nd rfl (by first | exact Or.inl rfl | exact Or.inr rfl) (se_callTy cg_int (by rfl) T.b_int (by decide +kernel) (sa_cons (se_ix (ha' := fun _ _ => rfl) (se_var 0) (se_var 1)) sa_nil)))) sss_nil)
    (sss_cons (ss_set (i := 4) nd rfl (by first | exact Or.inl rfl | exact Or.inr rfl) (se_lst sa_nil))
    (sss_cons (ss_if (st_cmp og_ge (se_var 3) (se_op og_pow se_int se_int) (nomark _)) (sss_cons (ss_for po_cx rfl (si_range1 (by rfl) T.b_range (sa_cons (se_var 2) sa_nil)) (sg_name (i := 5) nd rfl (by first | exact Or.inl rfl | exact Or.inr rfl)) (sss_cons (ss_expr (se_bm PySem.F.plainAttrs_list PySem.F.slot_list_append PySem.F.type_list_append mg_append (se_var 4) (sa_cons (se_op og_mod (se_callTy cg_int (by rfl) T.b_int (by decide +kernel) (sa_cons (se_var 3) sa_nil)) se_int) sa_nil)))
    (sss_one (ss_set (i := 3) nd rfl (by first | exact Or.inl rfl | exact Or.inr rfl) (se_op og_div (se_var 3) se_int)))))
    (sss_one (ss_ret (se_var 4)))) sss_nil)
    (sss_cons (ss_set (i := 6) nd rfl (by first | exact Or.inl rfl | exact Or.inr rfl) (se_op og_mod (se_callTy cg_int (by rfl) T.b_int (by decide +kernel) (sa_cons (se_op og_add (se_op og_add (se_op og_mul (se_var 3) se_int) (se_op og_mul (se_var 1) se_int)) se_int) sa_nil)) se_int))
    (sss_cons (ss_for po_cx rfl (si_range1 (by rfl) T.b_range (sa_cons (se_var 2) sa_nil)) (sg_name (i := 5) nd rfl (by first | exact Or.inl rfl | exact Or.inr rfl)) (sss_cons (ss_set (i := 6) nd rfl (by first | exact Or.inl rfl | exact Or.inr rfl) (se_op og_mod (se_callTy cg_int (by rfl) T.b_int (by decide +kernel) (sa_cons (se_op og_add (se_op og_add (se_op og_mul (se_var 6) se_int) (se_op og_mul (se_var 5) se_int)) se_int) sa_nil)) se_int))
    (sss_one (ss_expr (se_bm PySem.F.plainAttrs_list PySem.F.slot_list_append PySem.F.type_list_append mg_append (se_var 4) (sa_cons (se_op og_mod (se_op og_div (se_var 6) se_int) se_int) sa_nil))))))
    (sss_one (ss_ret (se_var 4))))))))))
theorem sc_law_book : FnScope ["k", "three", "two", "first", "second", "third", "fourth", "fifth"] ["k"] (defScope s_law_book) := ⟨rfl, rfl, rfl, by decide +kernel, rfl, by decide +kernel, by decide +kernel⟩
theorem t_law_book (T : Txt K w mg cl) : DefG P w K mg base cl 1 "_law_book" ["k"] [] m_law_book :=
  DefG.of (k := 0) T.d_law_book (N := ["k", "three", "two", "first", "second", "third", "fourth", "fifth"]) sc_law_book (fun f cdv A outer s H E hr => have nd : List.Nodup (["k", "three", "two", "first", "second", "third", "fourth", "fifth"] : List Str) := sc_law_book.nd; (sss_cons (ss_set (i := 1) nd rfl (by first | exact Or.inl rfl | exact Or.inr rfl) (se_tup (sa_cons se_str (sa_cons se_str (sa_cons (se_tup (sa_cons (se_tup (sa_cons se_int (sa_cons se_int (sa_cons se_int sa_nil)))) (sa_cons (se_tup (sa_cons se_int (sa_cons se_int (sa_cons se_int sa_nil)))) (sa_cons (se_tup (sa_cons se_int (sa_cons se_int (sa_cons se_int sa_nil)))) sa_nil)))) sa_nil)))))
    (sss_cons (ss_set (i := 2) nd rfl (by first | exact Or.inl rfl | exact Or.inr rfl) (se_tup (sa_cons se_str (sa_cons se_str (sa_cons (se_tup (sa_cons (se_tup (sa_cons se_int (sa_cons se_int sa_nil))) (sa_cons (se_tup (sa_cons se_int (sa_cons se_int sa_nil))) sa_nil))) sa_nil)))))
    (sss_cons (ss_set (i := 3) nd rfl (by first | exact Or.inl rfl | exact Or.inr rfl) (se_tup (sa_cons se_str (sa_cons (se_tup (sa_cons (se_tup (sa_cons se_str (sa_cons se_str (sa_cons se_int sa_nil)))) (sa_cons (se_var 1) (sa_cons (se_tup (sa_cons se_str (sa_cons se_str (sa_cons (se_tup (sa_cons se_int (sa_cons se_int sa_nil))) sa_nil)))) (sa_cons (se_tup (sa_cons se_str (sa_cons se_str (sa_cons se_int sa_nil)))) (sa_cons (se_tup (sa_cons se_str (sa_cons se_str (sa_cons se_int sa_nil)))) sa_nil)))))) sa_nil))))
    (sss_cons (ss_set (i := 4) nd rfl (by first | exact Or.inl rfl | exact Or.inr rfl) (se_tup (sa_cons se_str (sa_cons (se_tup (sa_cons (se_tup (sa_cons se_str (sa_cons se_str (sa_cons se_int sa_nil)))) (sa_cons (se_tup (sa_cons se_str (sa_cons se_str (sa_cons se_int sa_nil)))) (sa_cons (se_tup (sa_cons se_str (sa_cons se_str (sa_cons se_int sa_nil)))) (sa_cons (se_tup (sa_cons se_str (sa_cons se_str (sa_cons (se_tup (sa_cons se_int sa_nil)) sa_nil)))) (sa_cons (se_var 2) sa_nil)))))) sa_nil))))
    (sss_cons (ss_set (i := 5) nd rfl (by first | exact Or.inl rfl | exact Or.inr rfl) (se_tup (sa_cons se_str (sa_cons (se_tup (sa_cons (se_var 2) (sa_cons (se_tup (sa_cons se_str (sa_cons se_str (sa_cons (se_tup (sa_cons se_int (sa_cons se_int sa_nil))) sa_nil)))) (sa_cons (se_tup (sa_cons se_str (sa_cons se_str (sa_cons se_int sa_nil)))) (sa_cons (se_var 1) (sa_cons (se_tup (sa_cons se_str (sa_cons se_str (sa_cons (se_tup (sa_cons se_int sa_nil)) sa_nil)))) sa_nil)))))) sa_nil))))
    (sss_cons (ss_set (i := 6) nd rfl (by first | exact Or.inl rfl | exact Or.inr rfl) (se_tup (sa_cons se_str (sa_cons (se_tup (sa_cons (se_tup (sa_cons se_str (sa_cons se_str (sa_cons se_int sa_nil)))) (sa_cons (se_tup (sa_cons se_str (sa_cons se_str (sa_cons se_int sa_nil)))) (sa_cons (se_tup (sa_cons se_str (sa_cons se_str (sa_cons se_int sa_nil)))) (sa_cons (se_tup (sa_cons se_str (sa_cons se_str (sa_cons (se_tup (sa_cons se_int (sa_cons se_int sa_nil))) sa_nil)))) (sa_cons (se_var 1) sa_nil)))))) sa_nil))))
    (sss_cons (ss_set (i := 7) nd rfl (by first | exact Or.inl rfl | exact Or.inr rfl) (se_tup (sa_cons se_str (sa_cons (se_tup (sa_cons (se_tup (sa_cons se_str (sa_cons se_str (sa_cons se_int sa_nil)))) (sa_cons (se_tup (sa_cons se_str (sa_cons se_str (sa_cons se_int sa_nil)))) (sa_cons (se_tup (sa_cons se_str (sa_cons se_str (sa_cons (se_tup (sa_cons se_int (sa_cons se_int sa_nil))) sa_nil)))) (sa_cons (se_var 2) (sa_cons (se_tup (sa_cons se_str (sa_cons se_str (sa_cons se_int sa_nil)))) sa_nil)))))) sa_nil))))
    (sss_one (ss_ret (se_ix (ha' := fun _ _ => rfl) (se_lst (sa_cons (se_var 3) (sa_cons (se_var 4) (sa_cons (se_var 5) (sa_cons (se_var 6) (sa_cons (se_var 7) (sa_cons (se_tup (sa_cons se_str (sa_cons (se_tup sa_nil) sa_nil))) (sa_cons (se_tup (sa_cons se_str (sa_cons (se_tup (sa_cons (se_tup (sa_cons se_str (sa_cons se_str (sa_cons se_int sa_nil)))) sa_nil)) sa_nil))) sa_nil)))))))) (se_op og_mod (se_callTy cg_int (by rfl) T.b_int (by decide +kernel) (sa_cons (se_var 0) sa_nil)) se_int))))))))))))
theorem sc_law_deeds : FnScope ["kernel", "layers", "deeds", "at", "layer", "i", "m", "d"] ["kernel", "layers"] (defScope s_law_deeds) := ⟨rfl, rfl, rfl, by decide +kernel, rfl, by decide +kernel, by decide +kernel⟩
theorem t_law_deeds (T : Txt K w mg cl) : DefG P w K mg base cl 1 "_law_deeds" ["kernel", "layers"] [] m_law_deeds :=
  DefG.of (k := 0) T.d_law_deeds (N := ["kernel", "layers", "deeds", "at", "layer", "i", "m", "d"]) sc_law_deeds (fun f cdv A outer s H E hr => have nd : List.Nodup (["kernel", "layers", "deeds", "at", "layer", "i", "m", "d"] : List Str) := sc_law_deeds.nd; (sss_cons (ss_set (i := 2) nd rfl (by first | exact Or.inl rfl | exact Or.inr rfl) (se_lst sa_nil))
    (sss_cons (ss_if (st_cmp og_in (se_var 0) (se_tup (sa_cons se_str (sa_cons se_str (sa_cons se_str (sa_cons se_str sa_nil))))) (by rfl)) (sss_one (ss_expr (se_bm PySem.F.plainAttrs_list PySem.F.slot_list_append PySem.F.type_list_append mg_append (se_var 2) (sa_cons (se_tup (sa_cons se_str (sa_cons se_int sa_nil))) sa_nil)))) sss_nil)
    (sss_cons (ss_if (st_cmp (og_eq hr.units) (se_var 0) se_str (nomark _)) (sss_one (ss_expr (se_bm PySem.F.plainAttrs_list PySem.F.slot_list_append PySem.F.type_list_append mg_append (se_var 2) (sa_cons (se_tup (sa_cons se_str (sa_cons se_int sa_nil))) sa_nil)))) sss_nil)
    (sss_cons (ss_if (st_cmp og_in (se_var 0) (se_tup (sa_cons se_str (sa_cons se_str (sa_cons se_str sa_nil)))) (by rfl)) (sss_one (ss_set (i := 2) nd rfl (by first | exact Or.inl rfl | exact Or.inr rfl) (se_op og_add (se_var 2) (se_lst (sa_cons (se_tup (sa_cons se_str (sa_cons se_int (sa_cons se_int (sa_cons se_int sa_nil))))) (sa_cons (se_tup (sa_cons se_str (sa_cons se_int (sa_cons se_int (sa_cons se_int sa_nil))))) (sa_cons (se_tup (sa_cons se_str (sa_cons se_int (sa_cons se_int (sa_cons se_int sa_nil))))) sa_nil))))))) sss_nil)
    (sss_cons (ss_if (st_cmp (og_eq hr.units) (se_var 0) se_str (nomark _)) (sss_one (ss_expr (se_bm PySem.F.plainAttrs_list PySem.F.slot_list_append PySem.F.type_list_append mg_append (se_var 2) (sa_cons (se_tup (sa_cons se_str (sa_cons se_int (sa_cons se_int (sa_cons se_int sa_nil))))) sa_nil)))) sss_nil)
    (sss_cons (ss_for po_cx rfl (si_range1 (by rfl) T.b_range (sa_cons (se_callB cg_len (by rfl) T.b_len (by decide +kernel) (sa_cons (se_var 1) sa_nil)) sa_nil)) (sg_name (i := 3) nd rfl (by first | exact Or.inl rfl | exact Or.inr rfl)) (sss_cons (ss_set (i := 4) nd rfl (by first | exact Or.inl rfl | exact Or.inr rfl) (se_ix (ha' := fun _ _ => rfl) (se_var 1) (se_var 3)))
    (sss_cons (ss_if (st_cmp (og_eq hr.units) (se_ix (ha' := fun _ _ => rfl) (se_var 4) se_int) se_str (nomark _)) (sss_one (ss_set (i := 2) nd rfl (by first | exact Or.inl rfl | exact Or.inr rfl) (se_op og_add (se_op og_add (se_var 2) (se_lst (sa_cons (se_tup (sa_cons se_str (sa_cons (se_op og_add (se_var 3) se_int) sa_nil))) sa_nil))) (se_lc rfl nd (si_range1 (by rfl) T.b_range (sa_cons (se_ix (ha' := fun _ _ => rfl) (se_var 4) se_int) sa_nil)) (blkOk_by (own := [("i", 5)]) (N := ["kernel", "layers", "deeds", "at", "layer", "i", "m", "d"]) (sc := defScope s_law_deeds) (by decide +kernel)) rfl (by decide) (fun _ _ _ _ _ => pg_name (i := 5) nd rfl (by first | exact Or.inl rfl | exact Or.inr rfl)) (fun _ _ _ _ _ => sts_nil) (fun _ _ _ _ _ => (se_tup (sa_cons se_str (sa_cons (se_op og_add (se_var 3) se_int) (sa_cons (se_var 5) sa_nil))))))))) sss_nil)
    (sss_cons (ss_if (st_cmp (og_eq hr.units) (se_ix (ha' := fun _ _ => rfl) (se_var 4) se_int) se_str (nomark _)) (sss_one (ss_expr (se_bm PySem.F.plainAttrs_list PySem.F.slot_list_append PySem.F.type_list_append mg_append (se_var 2) (sa_cons (se_tup (sa_cons se_str (sa_cons (se_op og_add (se_var 3) se_int) sa_nil))) sa_nil)))) sss_nil)
    (sss_cons (ss_if (st_cmp (og_eq hr.units) (se_ix (ha' := fun _ _ => rfl) (se_var 4) se_int) se_str (nomark _)) (sss_one (ss_set (i := 2) nd rfl (by first | exact Or.inl rfl | exact Or.inr rfl) (se_op og_add (se_var 2) (se_lc rfl nd (si_range1 (by rfl) T.b_range (sa_cons (se_callB cg_len (by rfl) T.b_len (by decide +kernel) (sa_cons (se_ix (ha' := fun _ _ => rfl) (se_var 4) se_int) sa_nil)) sa_nil)) (blkOk_by (own := [("m", 6)]) (N := ["kernel", "layers", "deeds", "at", "layer", "i", "m", "d"]) (sc := defScope s_law_deeds) (by decide +kernel)) rfl (by decide) (fun _ _ _ _ _ => pg_name (i := 6) nd rfl (by first | exact Or.inl rfl | exact Or.inr rfl)) (fun _ _ _ _ _ => sts_nil) (fun _ _ _ _ _ => (se_tup (sa_cons se_str (sa_cons (se_op og_add (se_var 3) se_int) (sa_cons (se_var 6) sa_nil))))))))) sss_nil)
    (sss_one (ss_if (st_cmp (og_eq hr.units) (se_ix (ha' := fun _ _ => rfl) (se_var 4) se_int) se_str (nomark _)) (sss_one (ss_set (i := 2) nd rfl (by first | exact Or.inl rfl | exact Or.inr rfl) (se_op og_add (se_var 2) (se_lc rfl nd (si_range1 (by rfl) T.b_range (sa_cons (se_callB cg_len (by rfl) T.b_len (by decide +kernel) (sa_cons (se_ix (ha' := fun _ _ => rfl) (se_var 4) se_int) sa_nil)) sa_nil)) (blkOk_by (own := [("d", 7)]) (N := ["kernel", "layers", "deeds", "at", "layer", "i", "m", "d"]) (sc := defScope s_law_deeds) (by decide +kernel)) rfl (by decide) (fun _ _ _ _ _ => pg_name (i := 7) nd rfl (by first | exact Or.inl rfl | exact Or.inr rfl)) (fun _ _ _ _ _ => sts_nil) (fun _ _ _ _ _ => (se_tup (sa_cons se_str (sa_cons (se_op og_add (se_var 3) se_int) (sa_cons (se_var 7) sa_nil))))))))) sss_nil)))))))
    (sss_one (ss_ret (se_var 2))))))))))
theorem sc_law_starts : FnScope ["layers", "layer", "state", "found", "at", "options", "longer", "first", "entry"] ["layers", "layer", "state"] (defScope s_law_starts) := ⟨rfl, rfl, rfl, by decide +kernel, rfl, by decide +kernel, by decide +kernel⟩
theorem t_law_starts (T : Txt K w mg cl) : DefG P w K mg base cl 1 "_law_starts" ["layers", "layer", "state"] [] m_law_starts :=
  DefG.of (k := 0) T.d_law_starts (N := ["layers", "layer", "state", "found", "at", "options", "longer", "first", "entry"]) sc_law_starts (fun f cdv A outer s H E hr => have nd : List.Nodup (["layers", "layer", "state", "found", "at", "options", "longer", "first", "entry"] : List Str) := sc_law_starts.nd; (sss_cons (ss_set (i := 3) nd rfl (by first | exact Or.inl rfl | exact Or.inr rfl) (se_lst (sa_cons (se_tup sa_nil) sa_nil)))
    (sss_cons (ss_for po_cx rfl (si_range1 (by rfl) T.b_range (sa_cons (se_callB cg_len (by rfl) T.b_len (by decide +kernel) (sa_cons (se_var 0) sa_nil)) sa_nil)) (sg_name (i := 4) nd rfl (by first | exact Or.inl rfl | exact Or.inr rfl)) (sss_cons (ss_set (i := 5) nd rfl (by first | exact Or.inl rfl | exact Or.inr rfl) (se_lst (sa_cons se_int sa_nil)))
    (sss_cons (ss_if (st_cmp og_ge (se_op og_add (se_var 4) se_int) (se_var 1) (nomark _)) (sss_one (ss_set (i := 5) nd rfl (by first | exact Or.inl rfl | exact Or.inr rfl) (se_lst (sa_cons (se_ix (ha' := fun _ _ => rfl) (se_var 2) (se_var 4)) sa_nil)))) (sss_one (ss_if (st_w (sw_or (st_cmp (og_eq hr.units) (se_ix (ha' := fun _ _ => rfl) (se_ix (ha' := fun _ _ => rfl) (se_var 0) (se_var 4)) se_int) se_str (nomark _)) (sw_or1 (st_cmp (og_eq hr.units) (se_ix (ha' := fun _ _ => rfl) (se_ix (ha' := fun _ _ => rfl) (se_var 0) (se_var 4)) se_int) se_str (nomark _))))) (sss_one (ss_set (i := 5) nd rfl (by first | exact Or.inl rfl | exact Or.inr rfl) (se_listRg1 rfl (by rfl) T.b_list (by rfl) T.b_range (se_ix (ha' := fun _ _ => rfl) (se_ix (ha' := fun _ _ => rfl) (se_var 0) (se_var 4)) se_int)))) sss_nil)))
    (sss_cons (ss_set (i := 6) nd rfl (by first | exact Or.inl rfl | exact Or.inr rfl) (se_lst sa_nil))
    (sss_cons (ss_for po_cx rfl (si_of (se_var 3)) (sg_name (i := 7) nd rfl (by first | exact Or.inl rfl | exact Or.inr rfl)) (sss_one (ss_for po_cx rfl (si_of (se_var 5)) (sg_name (i := 8) nd rfl (by first | exact Or.inl rfl | exact Or.inr rfl)) (sss_one (ss_expr (se_bm PySem.F.plainAttrs_list PySem.F.slot_list_append PySem.F.type_list_append mg_append (se_var 6) (sa_cons (se_op og_add (se_var 7) (se_tup (sa_cons (se_var 8) sa_nil))) sa_nil)))))))
    (sss_one (ss_set (i := 3) nd rfl (by first | exact Or.inl rfl | exact Or.inr rfl) (se_callTy cg_list (by rfl) T.b_list (by decide +kernel) (sa_cons (se_var 6) sa_nil)))))))))
    (sss_one (ss_ret (se_var 3))))))
theorem sc_law_kept : FnScope ["layers", "state", "layer", "found", "at"] ["layers", "state", "layer"] (defScope s_law_kept) := ⟨rfl, rfl, rfl, by decide +kernel, rfl, by decide +kernel, by decide +kernel⟩
theorem t_law_kept (T : Txt K w mg cl) : DefG P w K mg base cl 1 "_law_kept" ["layers", "state", "layer"] [] m_law_kept :=
  DefG.of (k := 0) T.d_law_kept (N := ["layers", "state", "layer", "found", "at"]) sc_law_kept (fun f cdv A outer s H E hr => have nd : List.Nodup (["layers", "state", "layer", "found", "at"] : List Str) := sc_law_kept.nd; (sss_cons (ss_set (i := 3) nd rfl (by first | exact Or.inl rfl | exact Or.inr rfl) (se_lst sa_nil))
    (sss_cons (ss_for po_cx rfl (si_range1 (by rfl) T.b_range (sa_cons (se_op og_sub (se_var 2) se_int) sa_nil)) (sg_name (i := 4) nd rfl (by first | exact Or.inl rfl | exact Or.inr rfl)) (sss_one (ss_if (st_cmp (og_eq hr.units) (se_ix (ha' := fun _ _ => rfl) (se_ix (ha' := fun _ _ => rfl) (se_var 0) (se_var 4)) se_int) se_str (nomark _)) (sss_one (ss_expr (se_bm PySem.F.plainAttrs_list PySem.F.slot_list_append PySem.F.type_list_append mg_append (se_var 3) (sa_cons se_int sa_nil)))) (sss_one (ss_expr (se_bm PySem.F.plainAttrs_list PySem.F.slot_list_append PySem.F.type_list_append mg_append (se_var 3) (sa_cons (se_ix (ha' := fun _ _ => rfl) (se_var 1) (se_var 4)) sa_nil)))))))
    (sss_one (ss_ret (se_callTy cg_tuple (by rfl) T.b_tuple (by decide +kernel) (sa_cons (se_var 3) sa_nil)))))))
theorem sc_law_asked : FnScope ["layers", "state", "deed", "number", "trail", "before", "many", "rest", "after", "at"] ["layers", "state", "deed", "number", "trail"] (defScope s_law_asked) := ⟨rfl, rfl, rfl, by decide +kernel, rfl, by decide +kernel, by decide +kernel⟩
theorem t_law_asked (T : Txt K w mg cl) : DefG P w K mg base cl 2 "_law_asked" ["layers", "state", "deed", "number", "trail"] [] m_law_asked :=
  DefG.of (k := 1) T.d_law_asked (N := ["layers", "state", "deed", "number", "trail", "before", "many", "rest", "after", "at"]) sc_law_asked (fun f cdv A outer s H E hr => have nd : List.Nodup (["layers", "state", "deed", "number", "trail", "before", "many", "rest", "after", "at"] : List Str) := sc_law_asked.nd; (sss_cons (ss_set (i := 5) nd rfl (by first | exact Or.inl rfl | exact Or.inr rfl) (se_callD (t_law_kept T) (hr.mono (by decide)) (by rfl) tk_cx (sa_cons (se_var 0) (sa_cons (se_var 1) (sa_cons (se_ix (ha' := fun _ _ => rfl) (se_var 2) se_int) sa_nil)))))
    (sss_cons (ss_set (i := 6) nd rfl (by first | exact Or.inl rfl | exact Or.inr rfl) (se_ix (ha' := fun _ _ => rfl) (se_ix (ha' := fun _ _ => rfl) (se_ix (ha' := fun _ _ => rfl) (se_var 0) (se_op og_sub (se_ix (ha' := fun _ _ => rfl) (se_var 2) se_int) se_int)) se_int) (se_ix (ha' := fun _ _ => rfl) (se_var 2) se_int)))
    (sss_cons (ss_set (i := 7) nd rfl (by first | exact Or.inl rfl | exact Or.inr rfl) (se_op og_div (se_var 3) (se_var 6)))
    (sss_cons (ss_set (i := 8) nd rfl (by first | exact Or.inl rfl | exact Or.inr rfl) (se_callTy cg_list (by rfl) T.b_list (by decide +kernel) (sa_cons (se_var 1) sa_nil)))
    (sss_cons (ss_for po_cx rfl (si_range1 (by rfl) T.b_range (sa_cons (se_op og_sub (se_ix (ha' := fun _ _ => rfl) (se_var 2) se_int) se_int) sa_nil)) (sg_name (i := 9) nd rfl (by first | exact Or.inl rfl | exact Or.inr rfl)) (sss_cons (ss_asg se_int (sg_sub (W' := W0) (se_var 8) (se_var 9)))
    (sss_one (ss_if (st_w (sw_or (st_cmp (og_eq hr.units) (se_ix (ha' := fun _ _ => rfl) (se_ix (ha' := fun _ _ => rfl) (se_var 0) (se_var 9)) se_int) se_str (nomark _)) (sw_or1 (st_cmp (og_eq hr.units) (se_ix (ha' := fun _ _ => rfl) (se_ix (ha' := fun _ _ => rfl) (se_var 0) (se_var 9)) se_int) se_str (nomark _))))) (sss_cons (ss_asg (se_op og_mod (se_callTy cg_int (by rfl) T.b_int (by decide +kernel) (sa_cons (se_var 7) sa_nil)) (se_ix (ha' := fun _ _ => rfl) (se_ix (ha' := fun _ _ => rfl) (se_var 0) (se_var 9)) se_int)) (sg_sub (W' := W0) (se_var 8) (se_var 9)))
    (sss_one (ss_set (i := 7) nd rfl (by first | exact Or.inl rfl | exact Or.inr rfl) (se_op og_div (se_var 7) (se_ix (ha' := fun _ _ => rfl) (se_ix (ha' := fun _ _ => rfl) (se_var 0) (se_var 9)) se_int))))) sss_nil))))
    (sss_cons (ss_expr (se_bm PySem.F.plainAttrs_list PySem.F.slot_list_append PySem.F.type_list_append mg_append (se_var 4) (sa_cons (se_tup (sa_cons (se_ix (ha' := fun _ _ => rfl) (se_var 2) se_int) (sa_cons (se_ix (ha' := fun _ _ => rfl) (se_var 2) se_int) (sa_cons (se_var 5) (sa_cons (se_op og_mod (se_callTy cg_int (by rfl) T.b_int (by decide +kernel) (sa_cons (se_var 3) sa_nil)) (se_var 6)) (sa_cons (se_callTy cg_tuple (by rfl) T.b_tuple (by decide +kernel) (sa_cons (se_sl (se_var 8) sp_none (sp_some (se_op og_sub (se_ix (ha' := fun _ _ => rfl) (se_var 2) se_int) se_int))) sa_nil)) sa_nil)))))) sa_nil)))
    (sss_one (ss_ret (se_tup (sa_cons (se_op og_mod (se_callTy cg_int (by rfl) T.b_int (by decide +kernel) (sa_cons (se_var 3) sa_nil)) (se_var 6)) (sa_cons (se_var 8) sa_nil))))))))))))
theorem sc_law_step : FnScope ["layers", "state", "deed", "number", "trail", "after", "at"] ["layers", "state", "deed", "number", "trail"] (defScope s_law_step) := ⟨rfl, rfl, rfl, by decide +kernel, rfl, by decide +kernel, by decide +kernel⟩
theorem t_law_step (T : Txt K w mg cl) : DefG P w K mg base cl 3 "_law_step" ["layers", "state", "deed", "number", "trail"] [] m_law_step :=
  DefG.of (k := 2) T.d_law_step (N := ["layers", "state", "deed", "number", "trail", "after", "at"]) sc_law_step (fun f cdv A outer s H E hr => have nd : List.Nodup (["layers", "state", "deed", "number", "trail", "after", "at"] : List Str) := sc_law_step.nd; (sss_cons (ss_if (st_cmp (og_eq hr.units) (se_ix (ha' := fun _ _ => rfl) (se_var 2) se_int) se_str (nomark _)) (sss_one (ss_ret (se_tup (sa_cons (se_op og_mod (se_callTy cg_int (by rfl) T.b_int (by decide +kernel) (sa_cons (se_var 3) sa_nil)) se_int) (sa_cons (se_callTy cg_list (by rfl) T.b_list (by decide +kernel) (sa_cons (se_var 1) sa_nil)) sa_nil))))) sss_nil)
    (sss_cons (ss_if (st_cmp (og_eq hr.units) (se_ix (ha' := fun _ _ => rfl) (se_var 2) se_int) se_str (nomark _)) (sss_one (ss_ret (se_tup (sa_cons (se_callTy cg_int (by rfl) T.b_int (by decide +kernel) (sa_cons (se_cmp og_ge (se_op og_mod (se_callTy cg_int (by rfl) T.b_int (by decide +kernel) (sa_cons (se_var 3) sa_nil)) (se_ix (ha' := fun _ _ => rfl) (se_var 2) se_int)) (se_ix (ha' := fun _ _ => rfl) (se_var 2) se_int) (nomark _)) sa_nil)) (sa_cons (se_callTy cg_list (by rfl) T.b_list (by decide +kernel) (sa_cons (se_var 1) sa_nil)) sa_nil))))) sss_nil)
    (sss_cons (ss_if (st_cmp (og_eq hr.units) (se_ix (ha' := fun _ _ => rfl) (se_var 2) se_int) se_str (nomark _)) (sss_one (ss_ret (se_callD (t_law_asked T) (hr.mono (by decide)) (by rfl) tk_cx (sa_cons (se_var 0) (sa_cons (se_var 1) (sa_cons (se_var 2) (sa_cons (se_var 3) (sa_cons (se_var 4) sa_nil)))))))) sss_nil)
    (sss_cons (ss_set (i := 5) nd rfl (by first | exact Or.inl rfl | exact Or.inr rfl) (se_callTy cg_list (by rfl) T.b_list (by decide +kernel) (sa_cons (se_var 1) sa_nil)))
    (sss_cons (ss_set (i := 6) nd rfl (by first | exact Or.inl rfl | exact Or.inr rfl) (se_op og_sub (se_ix (ha' := fun _ _ => rfl) (se_var 2) se_int) se_int))
    (sss_cons (ss_if (st_w (sw_or (st_cmp (og_eq hr.units) (se_ix (ha' := fun _ _ => rfl) (se_var 2) se_int) se_str (nomark _)) (sw_or1 (st_cmp (og_eq hr.units) (se_ix (ha' := fun _ _ => rfl) (se_var 2) se_int) se_str (nomark _))))) (sss_one (ss_ret (se_tup (sa_cons (se_ix (ha' := fun _ _ => rfl) (se_var 1) (se_var 6)) (sa_cons (se_var 5) sa_nil))))) sss_nil)
    (sss_cons (ss_if (st_cmp (og_eq hr.units) (se_ix (ha' := fun _ _ => rfl) (se_var 2) se_int) se_str (nomark _)) (sss_one (ss_asg (se_ix (ha' := fun _ _ => rfl) (se_var 2) se_int) (sg_sub (W' := W0) (se_var 5) (se_var 6)))) (sss_one (ss_asg (se_ix (ha' := fun _ _ => rfl) (se_ix (ha' := fun _ _ => rfl) (se_ix (ha' := fun _ _ => rfl) (se_ix (ha' := fun _ _ => rfl) (se_var 0) (se_var 6)) se_int) (se_ix (ha' := fun _ _ => rfl) (se_var 1) (se_var 6))) (se_ix (ha' := fun _ _ => rfl) (se_var 2) se_int)) (sg_sub (W' := W0) (se_var 5) (se_var 6)))))
    (sss_one (ss_ret (se_tup (sa_cons se_int (sa_cons (se_var 5) sa_nil)))))))))))))
theorem sc_law_back : FnScope ["layers", "state", "layer", "old", "after", "at"] ["layers", "state", "layer", "old"] (defScope s_law_back) := ⟨rfl, rfl, rfl, by decide +kernel, rfl, by decide +kernel, by decide +kernel⟩
theorem t_law_back (T : Txt K w mg cl) : DefG P w K mg base cl 1 "_law_back" ["layers", "state", "layer", "old"] [] m_law_back :=
  DefG.of (k := 0) T.d_law_back (N := ["layers", "state", "layer", "old", "after", "at"]) sc_law_back (fun f cdv A outer s H E hr => have nd : List.Nodup (["layers", "state", "layer", "old", "after", "at"] : List Str) := sc_law_back.nd; (sss_cons (ss_set (i := 4) nd rfl (by first | exact Or.inl rfl | exact Or.inr rfl) (se_callTy cg_list (by rfl) T.b_list (by decide +kernel) (sa_cons (se_var 1) sa_nil)))
    (sss_cons (ss_for po_cx rfl (si_range2 (by rfl) T.b_range (sa_cons (se_var 2) (sa_cons (se_callB cg_len (by rfl) T.b_len (by decide +kernel) (sa_cons (se_var 0) sa_nil)) sa_nil))) (sg_name (i := 5) nd rfl (by first | exact Or.inl rfl | exact Or.inr rfl)) (sss_one (ss_if (st_w (sw_or (st_cmp (og_eq hr.units) (se_ix (ha' := fun _ _ => rfl) (se_ix (ha' := fun _ _ => rfl) (se_var 0) (se_var 5)) se_int) se_str (nomark _)) (sw_or1 (st_cmp (og_eq hr.units) (se_ix (ha' := fun _ _ => rfl) (se_ix (ha' := fun _ _ => rfl) (se_var 0) (se_var 5)) se_int) se_str (nomark _))))) (sss_one (ss_asg (se_ix (ha' := fun _ _ => rfl) (se_var 3) (se_var 5)) (sg_sub (W' := W0) (se_var 4) (se_var 5)))) sss_nil)))
    (sss_one (ss_ret (se_var 4))))))
theorem sc_law_states : FnScope ["book", "layers", "row", "zero", "due", "told", "state", "at", "layer", "beneath", "marked", "many", "entry", "member", "k"] ["book", "layers", "row"] (defScope s_law_states) := ⟨rfl, rfl, rfl, by decide +kernel, rfl, by decide +kernel, by decide +kernel⟩
theorem t_law_states (T : Txt K w mg cl) : DefG P w K mg base cl 4 "_law_states" ["book", "layers", "row"] [] m_law_states :=
  DefG.of (k := 3) T.d_law_states (N := ["book", "layers", "row", "zero", "due", "told", "state", "at", "layer", "beneath", "marked", "many", "entry", "member", "k"]) sc_law_states (fun f cdv A outer s H E hr => have nd : List.Nodup (["book", "layers", "row", "zero", "due", "told", "state", "at", "layer", "beneath", "marked", "many", "entry", "member", "k"] : List Str) := sc_law_states.nd; (sss_cons (ss_set (i := 3) nd rfl (by first | exact Or.inl rfl | exact Or.inr rfl) (se_op og_mul (se_tup (sa_cons se_int sa_nil)) (se_callB cg_len (by rfl) T.b_len (by decide +kernel) (sa_cons (se_var 1) sa_nil))))
    (sss_cons (ss_set (i := 4) nd rfl (by first | exact Or.inl rfl | exact Or.inr rfl) (se_callD (t_law_starts T) (hr.mono (by decide)) (by rfl) tk_cx (sa_cons (se_var 1) (sa_cons (se_op og_add (se_callB cg_len (by rfl) T.b_len (by decide +kernel) (sa_cons (se_var 1) sa_nil)) se_int) (sa_cons (se_var 3) sa_nil)))))
    (sss_cons (ss_set (i := 5) nd rfl (by first | exact Or.inl rfl | exact Or.inr rfl) (se_callD (t_starts T) (hr.mono (by decide)) (by rfl) tk_cx (sa_cons (se_var 0) sa_nil)))
    (sss_cons (ss_if (st_cmp (og_ne hr.units) (se_var 5) (se_var 4) (nomark _)) (sss_one (ss_ret se_bl)) sss_nil)
    (sss_cons (ss_expr (se_bm PySem.F.plainAttrs_list PySem.F.slot_list_append PySem.F.type_list_append mg_append (se_var 5) (sa_cons (se_var 3) sa_nil)))
    (sss_cons (ss_if (st_cmp (og_ne hr.units) (se_callD (t_starts T) (hr.mono (by decide)) (by rfl) tk_cx (sa_cons (se_var 0) sa_nil)) (se_var 4) (nomark _)) (sss_one (ss_ret se_bl)) sss_nil)
    (sss_cons (ss_set (i := 6) nd rfl (by first | exact Or.inl rfl | exact Or.inr rfl) (se_callTy cg_list (by rfl) T.b_list (by decide +kernel) (sa_cons (se_ix (ha' := fun _ _ => rfl) (se_var 4) (se_op og_mod (se_callTy cg_int (by rfl) T.b_int (by decide +kernel) (sa_cons (se_ix (ha' := fun _ _ => rfl) (se_var 2) se_int) sa_nil)) (se_callB cg_len (by rfl) T.b_len (by decide +kernel) (sa_cons (se_var 4) sa_nil)))) sa_nil)))
    (sss_cons (ss_for po_cx rfl (si_range1 (by rfl) T.b_range (sa_cons (se_callB cg_len (by rfl) T.b_len (by decide +kernel) (sa_cons (se_var 1) sa_nil)) sa_nil)) (sg_name (i := 7) nd rfl (by first | exact Or.inl rfl | exact Or.inr rfl)) (sss_one (ss_if (st_cmp (og_eq hr.units) (se_ix (ha' := fun _ _ => rfl) (se_ix (ha' := fun _ _ => rfl) (se_var 1) (se_var 7)) se_int) se_str (nomark _)) (sss_one (ss_asg (se_op og_mod (se_callTy cg_int (by rfl) T.b_int (by decide +kernel) (sa_cons (se_ix (ha' := fun _ _ => rfl) (se_var 2) (se_op og_add se_int (se_var 7))) sa_nil)) (se_callB cg_len (by rfl) T.b_len (by decide +kernel) (sa_cons (se_ix (ha' := fun _ _ => rfl) (se_ix (ha' := fun _ _ => rfl) (se_var 1) (se_var 7)) se_int) sa_nil))) (sg_sub (W' := W0) (se_var 6) (se_var 7)))) sss_nil)))
    (sss_cons (ss_set (i := 6) nd rfl (by first | exact Or.inl rfl | exact Or.inr rfl) (se_callTy cg_tuple (by rfl) T.b_tuple (by decide +kernel) (sa_cons (se_var 6) sa_nil)))
    (sss_cons (ss_set (i := 8) nd rfl (by first | exact Or.inl rfl | exact Or.inr rfl) (se_op og_add se_int (se_op og_mod (se_ix (ha' := fun _ _ => rfl) (se_var 2) se_int) (se_op og_add (se_callB cg_len (by rfl) T.b_len (by decide +kernel) (sa_cons (se_var 1) sa_nil)) se_int))))
    (sss_cons (ss_set (i := 9) nd rfl (by first | exact Or.inl rfl | exact Or.inr rfl) (se_callD (t_law_starts T) (hr.mono (by decide)) (by rfl) tk_cx (sa_cons (se_var 1) (sa_cons (se_var 8) (sa_cons (se_var 6) sa_nil)))))
    (sss_cons (ss_set (i := 5) nd rfl (by first | exact Or.inl rfl | exact Or.inr rfl) (se_callD (t_starts_below T) (hr.mono (by decide)) (by rfl) tk_cx (sa_cons (se_var 0) (sa_cons (se_var 8) (sa_cons (se_var 6) sa_nil)))))
    (sss_cons (ss_if (st_cmp (og_ne hr.units) (se_var 5) (se_var 9) (nomark _)) (sss_one (ss_ret se_bl)) sss_nil)
    (sss_cons (ss_asg (se_tup sa_nil) (sg_sub (W' := W0) (se_var 5) se_int))
    (sss_cons (ss_if (st_cmp (og_ne hr.units) (se_callD (t_starts_below T) (hr.mono (by decide)) (by rfl) tk_cx (sa_cons (se_var 0) (sa_cons (se_var 8) (sa_cons (se_var 6) sa_nil)))) (se_var 9) (nomark _)) (sss_one (ss_ret se_bl)) sss_nil)
    (sss_cons (ss_for po_cx rfl (si_range1 (by rfl) T.b_range (sa_cons (se_callB cg_len (by rfl) T.b_len (by decide +kernel) (sa_cons (se_var 9) sa_nil)) sa_nil)) (sg_name (i := 7) nd rfl (by first | exact Or.inl rfl | exact Or.inr rfl)) (sss_cons (ss_setLc (i := 10) rfl nd rfl rfl (sw_true rfl rfl rfl (by decide +kernel)) (si_range1 (by rfl) T.b_range (sa_cons (se_callB cg_len (by rfl) T.b_len (by decide +kernel) (sa_cons (se_var 1) sa_nil)) sa_nil)) (blkOk_by (own := [("k", 14)]) (N := ["book", "layers", "row", "zero", "due", "told", "state", "at", "layer", "beneath", "marked", "many", "entry", "member", "k"]) (sc := defScope s_law_states) (by decide +kernel)) rfl (by decide) (fun _ _ _ _ _ => pg_name (i := 14) nd rfl (by first | exact Or.inl rfl | exact Or.inr rfl)) (fun _ _ _ _ _ => sts_nil) (fun _ _ _ _ _ => (se_ifExp (st_cmp (og_eq hr.units) (se_ix (ha' := fun _ _ => rfl) (se_ix (ha' := fun _ _ => rfl) (se_var 1) (se_var 14)) se_int) se_str (nomark _)) (se_ix (ha' := fun _ _ => rfl) (se_var 6) (se_var 14)) (se_ix (ha' := fun _ _ => rfl) (se_ix (ha' := fun _ _ => rfl) (se_var 9) (se_var 7)) (se_var 14)))))
    (sss_one (ss_if (st_w (sw_or (st_cmp (og_ne hr.units) (se_callD (t_place_below T) (hr.mono (by decide)) (by rfl) tk_cx (sa_cons (se_var 0) (sa_cons (se_var 8) (sa_cons (se_ix (ha' := fun _ _ => rfl) (se_var 9) (se_var 7)) sa_nil)))) (se_var 7) (nomark _)) (sw_or1 (st_cmp (og_ne hr.units) (se_callD (t_place_below T) (hr.mono (by decide)) (by rfl) tk_cx (sa_cons (se_var 0) (sa_cons (se_var 8) (sa_cons (se_callTy cg_tuple (by rfl) T.b_tuple (by decide +kernel) (sa_cons (se_var 10) sa_nil)) sa_nil)))) (se_var 7) (nomark _))))) (sss_one (ss_ret se_bl)) sss_nil))))
    (sss_cons (ss_if (st_cmp (og_ne hr.units) (se_callD (t_kept T) (hr.mono (by decide)) (by rfl) tk_cx (sa_cons (se_var 0) (sa_cons (se_var 6) (sa_cons (se_var 8) sa_nil)))) (se_callD (t_law_kept T) (hr.mono (by decide)) (by rfl) tk_cx (sa_cons (se_var 1) (sa_cons (se_var 6) (sa_cons (se_var 8) sa_nil)))) (nomark _)) (sss_one (ss_ret se_bl)) sss_nil)
    (sss_cons (ss_for po_cx rfl (si_range1 (by rfl) T.b_range (sa_cons (se_callB cg_len (by rfl) T.b_len (by decide +kernel) (sa_cons (se_var 1) sa_nil)) sa_nil)) (sg_name (i := 7) nd rfl (by first | exact Or.inl rfl | exact Or.inr rfl)) (sss_cons (ss_set (i := 11) nd rfl (by first | exact Or.inl rfl | exact Or.inr rfl) (se_ifExp (st_w (sw_or (st_cmp (og_eq hr.units) (se_ix (ha' := fun _ _ => rfl) (se_ix (ha' := fun _ _ => rfl) (se_var 1) (se_var 7)) se_int) se_str (nomark _)) (sw_or1 (st_cmp (og_eq hr.units) (se_ix (ha' := fun _ _ => rfl) (se_ix (ha' := fun _ _ => rfl) (se_var 1) (se_var 7)) se_int) se_str (nomark _))))) (se_ix (ha' := fun _ _ => rfl) (se_ix (ha' := fun _ _ => rfl) (se_var 1) (se_var 7)) se_int) se_int))
    (sss_cons (ss_if (st_cmp (og_eq hr.units) (se_ix (ha' := fun _ _ => rfl) (se_ix (ha' := fun _ _ => rfl) (se_var 1) (se_var 7)) se_int) se_str (nomark _)) (sss_one (ss_set (i := 11) nd rfl (by first | exact Or.inl rfl | exact Or.inr rfl) (se_callB cg_len (by rfl) T.b_len (by decide +kernel) (sa_cons (se_ix (ha' := fun _ _ => rfl) (se_ix (ha' := fun _ _ => rfl) (se_var 1) (se_var 7)) se_int) sa_nil)))) sss_nil)
    (sss_cons (ss_set (i := 12) nd rfl (by first | exact Or.inl rfl | exact Or.inr rfl) (se_op og_mod (se_callTy cg_int (by rfl) T.b_int (by decide +kernel) (sa_cons (se_op og_add (se_ix (ha' := fun _ _ => rfl) (se_var 2) se_int) (se_var 7)) sa_nil)) (se_var 11)))
    (sss_cons (ss_if (st_cmp (og_ne hr.units) (se_callD (t_changed T) (hr.mono (by decide)) (by rfl) tk_cx (sa_cons (se_var 6) (sa_cons (se_op og_add (se_var 7) se_int) (sa_cons (se_var 12) sa_nil)))) (se_op og_add (se_op og_add (se_sl (se_var 6) sp_none (sp_some (se_var 7))) (se_tup (sa_cons (se_var 12) sa_nil))) (se_sl (se_var 6) (sp_some (se_op og_add (se_var 7) se_int)) sp_none)) (nomark _)) (sss_one (ss_ret se_bl)) sss_nil)
    (sss_one (ss_if (st_cmp (og_eq hr.units) (se_ix (ha' := fun _ _ => rfl) (se_ix (ha' := fun _ _ => rfl) (se_var 1) (se_var 7)) se_int) se_str (nomark _)) (sss_cons (ss_set (i := 13) nd rfl (by first | exact Or.inl rfl | exact Or.inr rfl) (se_op og_mod (se_callTy cg_int (by rfl) T.b_int (by decide +kernel) (sa_cons (se_ix (ha' := fun _ _ => rfl) (se_var 2) se_int) sa_nil)) (se_callB cg_len (by rfl) T.b_len (by decide +kernel) (sa_cons (se_ix (ha' := fun _ _ => rfl) (se_ix (ha' := fun _ _ => rfl) (se_var 1) (se_var 7)) se_int) sa_nil))))
    (sss_cons (ss_set (i := 4) nd rfl (by first | exact Or.inl rfl | exact Or.inr rfl) (se_op og_add (se_op og_add (se_sl (se_var 6) sp_none (sp_some (se_var 7))) (se_tup (sa_cons (se_ix (ha' := fun _ _ => rfl) (se_ix (ha' := fun _ _ => rfl) (se_ix (ha' := fun _ _ => rfl) (se_ix (ha' := fun _ _ => rfl) (se_var 1) (se_var 7)) se_int) (se_ix (ha' := fun _ _ => rfl) (se_var 6) (se_var 7))) (se_var 13)) sa_nil))) (se_sl (se_var 6) (sp_some (se_op og_add (se_var 7) se_int)) sp_none)))
    (sss_one (ss_if (st_cmp (og_ne hr.units) (se_callD (t_noted T) (hr.mono (by decide)) (by rfl) tk_cx (sa_cons (se_var 0) (sa_cons (se_var 6) (sa_cons (se_op og_add (se_var 7) se_int) (sa_cons (se_var 13) sa_nil))))) (se_var 4) (nomark _)) (sss_one (ss_ret se_bl)) sss_nil)))) sss_nil)))))))
    (sss_one (ss_ret se_bl)))))))))))))))))))))
theorem sc_law_end : FnScope ["layers", "state", "row", "kinds", "layer", "kind", "text", "at"] ["layers", "state", "row"] (defScope s_law_end) := ⟨rfl, rfl, rfl, by decide +kernel, rfl, by decide +kernel, by decide +kernel⟩
theorem t_law_end (T : Txt K w mg cl) : DefG P w K mg base cl 2 "_law_end" ["layers", "state", "row"] [] m_law_end :=
  DefG.of (k := 1) T.d_law_end (N := ["layers", "state", "row", "kinds", "layer", "kind", "text", "at"]) sc_law_end (fun f cdv A outer s H E hr => have nd : List.Nodup (["layers", "state", "row", "kinds", "layer", "kind", "text", "at"] : List Str) := sc_law_end.nd; (sss_cons (ss_setLc (i := 3) rfl nd rfl rfl (sw_true rfl rfl rfl (by decide +kernel)) (si_range1 (by rfl) T.b_range (sa_cons (se_callB cg_len (by rfl) T.b_len (by decide +kernel) (sa_cons (se_var 0) sa_nil)) sa_nil)) (blkOk_by (own := [("at", 7)]) (N := ["layers", "state", "row", "kinds", "layer", "kind", "text", "at"]) (sc := defScope s_law_end) (by decide +kernel)) rfl (by decide) (fun _ _ _ _ _ => pg_name (i := 7) nd rfl (by first | exact Or.inl rfl | exact Or.inr rfl)) (fun _ _ _ _ _ => sts_one (st_cmp (og_eq hr.units) (se_ix (ha' := fun _ _ => rfl) (se_ix (ha' := fun _ _ => rfl) (se_var 0) (se_var 7)) se_int) se_str (nomark _))) (fun _ _ _ _ _ => (se_op og_add (se_var 7) se_int)))
    (sss_cons (ss_if (st_w (sw_and (st_cmp (og_eq hr.units) (se_op og_mod (se_ix (ha' := fun _ _ => rfl) (se_var 2) se_int) se_int) se_int (nomark _)) (sw_and1 (st_cmp (og_ne hr.units) (se_var 3) (se_lst sa_nil) (nomark _))))) (sss_cons (ss_set (i := 4) nd rfl (by first | exact Or.inl rfl | exact Or.inr rfl) (se_ix (ha' := fun _ _ => rfl) (se_var 3) (se_op og_mod (se_callTy cg_int (by rfl) T.b_int (by decide +kernel) (sa_cons (se_ix (ha' := fun _ _ => rfl) (se_var 2) se_int) sa_nil)) (se_callB cg_len (by rfl) T.b_len (by decide +kernel) (sa_cons (se_var 3) sa_nil)))))
    (sss_cons (ss_set (i := 5) nd rfl (by first | exact Or.inl rfl | exact Or.inr rfl) (se_op og_mod (se_callTy cg_int (by rfl) T.b_int (by decide +kernel) (sa_cons (se_ix (ha' := fun _ _ => rfl) (se_var 2) se_int) sa_nil)) (se_ix (ha' := fun _ _ => rfl) (se_ix (ha' := fun _ _ => rfl) (se_var 0) (se_op og_sub (se_var 4) se_int)) se_int)))
    (sss_one (ss_ret (se_tup (sa_cons (se_tup (sa_cons se_str (sa_cons (se_var 4) (sa_cons (se_var 5) sa_nil)))) (sa_cons (se_tup (sa_cons se_str (sa_cons (se_var 4) (sa_cons (se_var 5) (sa_cons (se_callD (t_law_kept T) (hr.mono (by decide)) (by rfl) tk_cx (sa_cons (se_var 0) (sa_cons (se_var 1) (sa_cons (se_var 4) sa_nil)))) sa_nil))))) sa_nil))))))) sss_nil)
    (sss_cons (ss_set (i := 6) nd rfl (by first | exact Or.inl rfl | exact Or.inr rfl) (se_ix (ha' := fun _ _ => rfl) (se_lst (sa_cons se_str (sa_cons se_str (sa_cons se_str sa_nil)))) (se_op og_mod (se_ix (ha' := fun _ _ => rfl) (se_var 2) se_int) se_int)))
    (sss_one (ss_ret (se_tup (sa_cons (se_tup (sa_cons se_str (sa_cons (se_var 6) sa_nil))) (sa_cons (se_tup (sa_cons se_str (sa_cons (se_var 6) (sa_cons (se_callD (t_law_kept T) (hr.mono (by decide)) (by rfl) tk_cx (sa_cons (se_var 0) (sa_cons (se_var 1) (sa_cons (se_op og_add (se_callB cg_len (by rfl) T.b_len (by decide +kernel) (sa_cons (se_var 0) sa_nil)) se_int) sa_nil)))) sa_nil)))) sa_nil)))))))))
theorem sc_Play_outcome : FnScope ["self", "deed", "end"] ["self", "deed"] (defScope s_Play_outcome) := ⟨rfl, rfl, rfl, by decide +kernel, rfl, by decide +kernel, by decide +kernel⟩
theorem t_Play_outcome (T : Txt K w mg cl) : MethG P w K mg base cl 3 1 "outcome" ["self", "deed"] [] m_Play_outcome :=
  MethG.of (k := 2) T.q_Play_outcome (N := ["self", "deed", "end"]) sc_Play_outcome (fun f cdv A outer s H E hr => have nd : List.Nodup (["self", "deed", "end"] : List Str) := sc_Play_outcome.nd; (sss_cons (ss_if (st_cmp (og_eq hr.units) (se_ix (ha' := fun _ _ => rfl) (se_var 1) se_int) se_str (nomark _)) (sss_one (ss_set (i := 2) nd rfl (by first | exact Or.inl rfl | exact Or.inr rfl) (se_tup (sa_cons se_str (sa_cons (se_ix (ha' := fun _ _ => rfl) (se_var 1) se_int) (sa_cons (se_callD (t_kept T) (hr.mono (by decide)) (by rfl) tk_cx (sa_cons (se_fld T.a_book (se_var 0)) (sa_cons (se_fld T.a_state (se_var 0)) (sa_cons (se_op og_add (se_fld T.a_size (se_fld T.a_book (se_var 0))) se_int) sa_nil)))) sa_nil)))))) (sss_one (ss_set (i := 2) nd rfl (by first | exact Or.inl rfl | exact Or.inr rfl) (se_tup (sa_cons se_str (sa_cons (se_ix (ha' := fun _ _ => rfl) (se_var 1) se_int) (sa_cons (se_ix (ha' := fun _ _ => rfl) (se_var 1) se_int) (sa_cons (se_callD (t_kept T) (hr.mono (by decide)) (by rfl) tk_cx (sa_cons (se_fld T.a_book (se_var 0)) (sa_cons (se_fld T.a_state (se_var 0)) (sa_cons (se_ix (ha' := fun _ _ => rfl) (se_var 1) se_int) sa_nil)))) sa_nil))))))))
    (sss_one (ss_ret (se_tup (sa_cons (se_callTy cg_tuple (by rfl) T.b_tuple (by decide +kernel) (sa_cons (se_fld T.a_trail (se_var 0)) sa_nil)) (sa_cons (se_var 2) sa_nil)))))))
theorem sc_Play_restore : FnScope ["self", "layer", "state", "at"] ["self", "layer", "state"] (defScope s_Play_restore) := ⟨rfl, rfl, rfl, by decide +kernel, rfl, by decide +kernel, by decide +kernel⟩
theorem t_Play_restore (T : Txt K w mg cl) : MethG P w K mg base cl 2 1 "restore" ["self", "layer", "state"] [] m_Play_restore :=
  MethG.of (k := 1) T.q_Play_restore (N := ["self", "layer", "state", "at"]) sc_Play_restore (fun f cdv A outer s H E hr => have nd : List.Nodup (["self", "layer", "state", "at"] : List Str) := sc_Play_restore.nd; (sss_one (ss_for po_cx rfl (si_range2 (by rfl) T.b_range (sa_cons (se_op og_add (se_var 1) se_int) (sa_cons (se_op og_add (se_fld T.a_size (se_fld T.a_book (se_var 0))) se_int) sa_nil))) (sg_name (i := 3) nd rfl (by first | exact Or.inl rfl | exact Or.inr rfl)) (sss_one (ss_if (st_cmp og_in (se_methD _ (t_Book_word_at T) T.c_Book (hr.mono (by decide)) tk_cx (se_fld T.a_book (se_var 0)) (sa_cons (se_var 3) sa_nil)) (se_globD T.g_KEPT (by rfl)) (by rfl)) (sss_one (ss_fld T.a_state (se_var 0) (se_callD (t_changed T) (hr.mono (by decide)) (by rfl) tk_cx (sa_cons (se_fld T.a_state (se_var 0)) (sa_cons (se_var 3) (sa_cons (se_ix (ha' := fun _ _ => rfl) (se_var 2) (se_op og_sub (se_var 3) se_int)) sa_nil)))))) sss_nil)))))
theorem sc_Book_ways_at : FnScope ["self", "layer", "deed"] ["self", "layer", "deed"] (defScope s_Book_ways_at) := ⟨rfl, rfl, rfl, by decide +kernel, rfl, by decide +kernel, by decide +kernel⟩
theorem t_Book_ways_at (T : Txt K w mg cl) : MethG P w K mg base cl 1 0 "ways_at" ["self", "layer", "deed"] [] m_Book_ways_at :=
  MethG.of (k := 0) T.q_Book_ways_at (N := ["self", "layer", "deed"]) sc_Book_ways_at (fun f cdv A outer s H E hr => have nd : List.Nodup (["self", "layer", "deed"] : List Str) := sc_Book_ways_at.nd; (sss_one (ss_ret (se_ix (ha' := fun _ _ => rfl) (se_ix (ha' := fun _ _ => rfl) (se_ix (ha' := fun _ _ => rfl) (se_fld T.a_layers (se_var 0)) (se_op og_sub (se_var 1) se_int)) se_int) (se_var 2)))))
theorem sc_Play_next_number : FnScope ["self"] ["self"] (defScope s_Play_next_number) := ⟨rfl, rfl, rfl, by decide +kernel, rfl, by decide +kernel, by decide +kernel⟩
theorem t_Play_next_number (T : Txt K w mg cl) : MethG P w K mg base cl 1 1 "next_number" ["self"] [] m_Play_next_number :=
  MethG.of (k := 0) T.q_Play_next_number (N := ["self"]) sc_Play_next_number (fun f cdv A outer s H E hr => have nd : List.Nodup (["self"] : List Str) := sc_Play_next_number.nd; (sss_cons (ss_fldaug (T.a_taken.only (by decide)) (se_var 0) se_int og_iadd)
    (sss_cons (ss_if (st_cmp og_gt (se_fld T.a_taken (se_var 0)) (se_callB cg_len (by rfl) T.b_len (by decide +kernel) (sa_cons (se_fld T.a_script (se_var 0)) sa_nil)) (nomark _)) (sss_one (ss_ret se_int)) sss_nil)
    (sss_one (ss_ret (se_ix (ha' := fun _ _ => rfl) (se_fld T.a_script (se_var 0)) (se_op og_sub (se_fld T.a_taken (se_var 0)) se_int)))))))
theorem sc_Play_ask : FnScope ["self", "layer", "deed", "before", "rest", "many", "answer", "at"] ["self", "layer", "deed"] (defScope s_Play_ask) := ⟨rfl, rfl, rfl, by decide +kernel, rfl, by decide +kernel, by decide +kernel⟩
theorem t_Play_ask (T : Txt K w mg cl) : MethG P w K mg base cl 3 1 "ask" ["self", "layer", "deed"] [] m_Play_ask :=
  MethG.of (k := 2) T.q_Play_ask (N := ["self", "layer", "deed", "before", "rest", "many", "answer", "at"]) sc_Play_ask (fun f cdv A outer s H E hr => have nd : List.Nodup (["self", "layer", "deed", "before", "rest", "many", "answer", "at"] : List Str) := sc_Play_ask.nd; (sss_cons (ss_set (i := 3) nd rfl (by first | exact Or.inl rfl | exact Or.inr rfl) (se_callD (t_kept T) (hr.mono (by decide)) (by rfl) tk_cx (sa_cons (se_fld T.a_book (se_var 0)) (sa_cons (se_fld T.a_state (se_var 0)) (sa_cons (se_var 1) sa_nil)))))
    (sss_cons (ss_set (i := 4) nd rfl (by first | exact Or.inl rfl | exact Or.inr rfl) (se_methD0 _ (t_Play_next_number T) T.c_Play (hr.mono (by decide)) tk_cx (se_var 0)))
    (sss_cons (ss_set (i := 5) nd rfl (by first | exact Or.inl rfl | exact Or.inr rfl) (se_methD _ (t_Book_ways_at T) T.c_Book (hr.mono (by decide)) tk_cx (se_fld T.a_book (se_var 0)) (sa_cons (se_var 1) (sa_cons (se_var 2) sa_nil))))
    (sss_cons (ss_set (i := 6) nd rfl (by first | exact Or.inl rfl | exact Or.inr rfl) (se_op og_mod (se_var 4) (se_var 5)))
    (sss_cons (ss_set (i := 4) nd rfl (by first | exact Or.inl rfl | exact Or.inr rfl) (se_op og_div (se_var 4) (se_var 5)))
    (sss_cons (ss_for po_cx rfl (si_range2 (by rfl) T.b_range (sa_cons se_int (sa_cons (se_var 1) sa_nil))) (sg_name (i := 7) nd rfl (by first | exact Or.inl rfl | exact Or.inr rfl)) (sss_one (ss_if (st_cmp og_in (se_methD _ (t_Book_word_at T) T.c_Book (hr.mono (by decide)) tk_cx (se_fld T.a_book (se_var 0)) (sa_cons (se_var 7) sa_nil)) (se_globD T.g_VARIED (by rfl)) (by rfl)) (sss_cons (ss_fld T.a_state (se_var 0) (se_callD (t_changed T) (hr.mono (by decide)) (by rfl) tk_cx (sa_cons (se_fld T.a_state (se_var 0)) (sa_cons (se_var 7) (sa_cons (se_op og_mod (se_var 4) (se_methD _ (t_Book_count_at T) T.c_Book (hr.mono (by decide)) tk_cx (se_fld T.a_book (se_var 0)) (sa_cons (se_var 7) sa_nil))) sa_nil)))))
    (sss_one (ss_set (i := 4) nd rfl (by first | exact Or.inl rfl | exact Or.inr rfl) (se_op og_div (se_var 4) (se_methD _ (t_Book_count_at T) T.c_Book (hr.mono (by decide)) tk_cx (se_fld T.a_book (se_var 0)) (sa_cons (se_var 7) sa_nil)))))) (sss_one (ss_fld T.a_state (se_var 0) (se_callD (t_changed T) (hr.mono (by decide)) (by rfl) tk_cx (sa_cons (se_fld T.a_state (se_var 0)) (sa_cons (se_var 7) (sa_cons se_int sa_nil)))))))))
    (sss_cons (ss_expr (se_bm PySem.F.plainAttrs_list PySem.F.slot_list_append PySem.F.type_list_append mg_append (se_fld T.a_trail (se_var 0)) (sa_cons (se_tup (sa_cons (se_var 1) (sa_cons (se_var 2) (sa_cons (se_var 3) (sa_cons (se_var 6) (sa_cons (se_sl (se_fld T.a_state (se_var 0)) sp_none (sp_some (se_op og_sub (se_var 1) se_int))) sa_nil)))))) sa_nil)))
    (sss_one (ss_ret (se_var 6)))))))))))
theorem sc_Play_answer : FnScope ["self", "deed"] ["self", "deed"] (defScope s_Play_answer) := ⟨rfl, rfl, rfl, by decide +kernel, rfl, by decide +kernel, by decide +kernel⟩
theorem t_Play_answer (T : Txt K w mg cl) : MethG P w K mg base cl 4 1 "answer" ["self", "deed"] [] m_Play_answer :=
  MethG.of (k := 3) T.q_Play_answer (N := ["self", "deed"]) sc_Play_answer (fun f cdv A outer s H E hr => have nd : List.Nodup (["self", "deed"] : List Str) := sc_Play_answer.nd; (sss_cons (ss_fldaug (T.a_deeds.only (by decide)) (se_var 0) se_int og_iadd)
    (sss_cons (ss_if (st_cmp (og_eq hr.units) (se_ix (ha' := fun _ _ => rfl) (se_var 1) se_int) se_str (nomark _)) (sss_one (ss_ret (se_op og_mod (se_methD0 _ (t_Play_next_number T) T.c_Play (hr.mono (by decide)) tk_cx (se_var 0)) se_int))) sss_nil)
    (sss_cons (ss_if (st_cmp (og_eq hr.units) (se_ix (ha' := fun _ _ => rfl) (se_var 1) se_int) se_str (nomark _)) (sss_one (ss_ret (se_ifExp (st_cmp og_lt (se_op og_mod (se_methD0 _ (t_Play_next_number T) T.c_Play (hr.mono (by decide)) tk_cx (se_var 0)) (se_ix (ha' := fun _ _ => rfl) (se_var 1) se_int)) (se_ix (ha' := fun _ _ => rfl) (se_var 1) se_int) (nomark _)) se_int se_int))) sss_nil)
    (sss_cons (ss_if (st_cmp og_in (se_ix (ha' := fun _ _ => rfl) (se_var 1) se_int) (se_tup (sa_cons se_str (sa_cons se_str sa_nil))) (by rfl)) (sss_one (ss_ret (se_ix (ha' := fun _ _ => rfl) (se_fld T.a_state (se_var 0)) (se_op og_sub (se_ix (ha' := fun _ _ => rfl) (se_var 1) se_int) se_int)))) sss_nil)
    (sss_cons (ss_if (st_cmp (og_eq hr.units) (se_ix (ha' := fun _ _ => rfl) (se_var 1) se_int) se_str (nomark _)) (sss_one (ss_ret (se_methD _ (t_Play_ask T) T.c_Play (hr.mono (by decide)) tk_cx (se_var 0) (sa_cons (se_ix (ha' := fun _ _ => rfl) (se_var 1) se_int) (sa_cons (se_ix (ha' := fun _ _ => rfl) (se_var 1) se_int) sa_nil))))) sss_nil)
    (sss_cons (ss_if (st_cmp (og_eq hr.units) (se_ix (ha' := fun _ _ => rfl) (se_var 1) se_int) se_str (nomark _)) (sss_one (ss_fld T.a_state (se_var 0) (se_callD (t_changed T) (hr.mono (by decide)) (by rfl) tk_cx (sa_cons (se_fld T.a_state (se_var 0)) (sa_cons (se_ix (ha' := fun _ _ => rfl) (se_var 1) se_int) (sa_cons (se_ix (ha' := fun _ _ => rfl) (se_var 1) se_int) sa_nil)))))) (sss_one (ss_fld T.a_state (se_var 0) (se_callD (t_noted T) (hr.mono (by decide)) (by rfl) tk_cx (sa_cons (se_fld T.a_book (se_var 0)) (sa_cons (se_fld T.a_state (se_var 0)) (sa_cons (se_ix (ha' := fun _ _ => rfl) (se_var 1) se_int) (sa_cons (se_ix (ha' := fun _ _ => rfl) (se_var 1) se_int) sa_nil))))))))
    (sss_one (ss_ret se_int)))))))))
theorem sc_Play_init : FnScope ["self", "book", "start", "script"] ["self", "book", "start", "script"] (defScope s_Play_init) := ⟨rfl, rfl, rfl, by decide +kernel, rfl, by decide +kernel, by decide +kernel⟩
theorem t_Play_init (T : Txt K w mg cl) : InitG P w K mg base cl 1 1 "Play" ["self", "book", "start", "script"] [] m_Play_init :=
  InitG.of (k := 0) T.i_Play (N := ["self", "book", "start", "script"]) sc_Play_init (fun f cdv A outer s H E hr => have nd : List.Nodup (["self", "book", "start", "script"] : List Str) := sc_Play_init.nd; (sss_cons (ss_fld T.a_book (se_var 0) (se_var 1))
    (sss_cons (ss_fld T.a_state (se_var 0) (se_callTy cg_tuple (by rfl) T.b_tuple (by decide +kernel) (sa_cons (se_var 2) sa_nil)))
    (sss_cons (ss_fld T.a_script (se_var 0) (se_callTy cg_tuple (by rfl) T.b_tuple (by decide +kernel) (sa_cons (se_var 3) sa_nil)))
    (sss_cons (ss_fld T.a_taken (se_var 0) se_int)
    (sss_cons (ss_fld T.a_deeds (se_var 0) se_int)
    (sss_one (ss_fld T.a_trail (se_var 0) (se_lst sa_nil)))))))))
theorem sc_Book_init : FnScope ["self", "kernel", "layers", "names", "many", "at", "layer"] ["self", "kernel", "layers"] (defScope s_Book_init) := ⟨rfl, rfl, rfl, by decide +kernel, rfl, by decide +kernel, by decide +kernel⟩
theorem t_Book_init (T : Txt K w mg cl) : InitG P w K mg base cl 3 0 "Book" ["self", "kernel", "layers"] [] m_Book_init :=
  InitG.of (k := 2) T.i_Book (N := ["self", "kernel", "layers", "names", "many", "at", "layer"]) sc_Book_init (fun f cdv A outer s H E hr => have nd : List.Nodup (["self", "kernel", "layers", "names", "many", "at", "layer"] : List Str) := sc_Book_init.nd; (sss_cons (ss_if (st_w (sw_or (st_notInKD T.k_CHOICES (by rfl) (se_var 1)) (sw_or1 (st_cmp og_gt (se_callB cg_len (by rfl) T.b_len (by decide +kernel) (sa_cons (se_var 2) sa_nil)) (se_globD T.g_MOST_LAYERS (by rfl)) (nomark _))))) (sss_one ss_any) sss_nil)
    (sss_cons (ss_set (i := 3) nd rfl (by first | exact Or.inl rfl | exact Or.inr rfl) (se_lst sa_nil))
    (sss_cons (ss_set (i := 4) nd rfl (by first | exact Or.inl rfl | exact Or.inr rfl) se_int)
    (sss_cons (ss_for po_cx rfl (si_enum (by rfl) T.b_enumerate (se_var 2)) (sg_tup rfl (sgs_cons (sg_name (i := 5) nd rfl (by first | exact Or.inl rfl | exact Or.inr rfl)) (sgs_cons (sg_name (i := 6) nd rfl (by first | exact Or.inl rfl | exact Or.inr rfl)) sgs_nil))) (sss_cons (ss_if (st_w (sw_or (st_not (st_truth (se_callD (t_is_layer T) (hr.mono (by decide)) (by rfl) tk_cx (sa_cons (se_var 6) sa_nil)))) (sw_or1 (st_cmp og_in (se_ix (ha' := fun _ _ => rfl) (se_var 6) se_int) (se_var 3) (by rfl))))) (sss_one ss_any) sss_nil)
    (sss_cons (ss_expr (se_bm PySem.F.plainAttrs_list PySem.F.slot_list_append PySem.F.type_list_append mg_append (se_var 3) (sa_cons (se_ix (ha' := fun _ _ => rfl) (se_var 6) se_int) sa_nil)))
    (sss_one (ss_if (st_cmp og_in (se_ix (ha' := fun _ _ => rfl) (se_var 6) se_int) (se_globD T.g_VARIED (by rfl)) (by rfl)) (sss_one (ss_set (i := 4) nd rfl (by first | exact Or.inl rfl | exact Or.inr rfl) (se_op og_mul (se_var 4) (se_ix (ha' := fun _ _ => rfl) (se_var 6) se_int)))) sss_nil)))))
    (sss_cons (ss_if (st_cmp og_gt (se_var 4) (se_globD T.g_MOST_STARTS (by rfl)) (nomark _)) (sss_one ss_any) sss_nil)
    (sss_cons (ss_fld T.a_kernel (se_var 0) (se_var 1))
    (sss_cons (ss_fld T.a_layers (se_var 0) (se_callTy cg_tuple (by rfl) T.b_tuple (by decide +kernel) (sa_cons (se_var 2) sa_nil)))
    (sss_one (ss_fld T.a_size (se_var 0) (se_callB cg_len (by rfl) T.b_len (by decide +kernel) (sa_cons (se_var 2) sa_nil))))))))))))
theorem sc_law : FnScope ["script", "row", "kernel", "layers", "book", "start", "numbers", "handed", "play", "at", "deeds", "state", "seen", "trail", "taken", "drawn", "deed", "number", "answer", "told", "layer", "old", "end", "outcome"] ["script"] (defScope s_law) := ⟨rfl, rfl, rfl, by decide +kernel, rfl, by decide +kernel, by decide +kernel⟩
theorem bd_law (T : Txt K w mg cl) : BodyOk P w K mg base cl 4 ["script", "row", "kernel", "layers", "book", "start", "numbers", "handed", "play", "at", "deeds", "state", "seen", "trail", "taken", "drawn", "deed", "number", "answer", "told", "layer", "old", "end", "outcome"] "law" s_law b_law := fun f cdv A outer s H E hr => have nd : List.Nodup (["script", "row", "kernel", "layers", "book", "start", "numbers", "handed", "play", "at", "deeds", "state", "seen", "trail", "taken", "drawn", "deed", "number", "answer", "told", "layer", "old", "end", "outcome"] : List Str) := sc_law.nd; (sss_cons (ss_set (i := 1) nd rfl (by first | exact Or.inl rfl | exact Or.inr rfl) (se_callD (t_law_row T) (hr.mono (by decide)) (by rfl) tk_cx (sa_cons (se_var 0) (sa_cons se_int (sa_cons se_int sa_nil)))))
    (sss_cons (ss_asg (se_callD (t_law_book T) (hr.mono (by decide)) (by rfl) tk_cx (sa_cons (se_ix (ha' := fun _ _ => rfl) (se_var 1) se_int) sa_nil)) (sg_tup rfl (sgs_cons (sg_name (i := 2) nd rfl (by first | exact Or.inl rfl | exact Or.inr rfl)) (sgs_cons (sg_name (i := 3) nd rfl (by first | exact Or.inl rfl | exact Or.inr rfl)) sgs_nil))))
    (sss_cons (ss_set (i := 4) nd rfl (by first | exact Or.inl rfl | exact Or.inr rfl) (se_makeD (t_Book_init T) (hr.mono (by decide)) (by rfl) tk_cx (sa_cons (se_var 2) (sa_cons (se_var 3) sa_nil))))
    (sss_cons (ss_if (st_not (st_truth (se_callD (t_law_states T) (hr.mono (by decide)) (by rfl) tk_cx (sa_cons (se_var 4) (sa_cons (se_var 3) (sa_cons (se_callD (t_law_row T) (hr.mono (by decide)) (by rfl) tk_cx (sa_cons (se_var 0) (sa_cons se_int (sa_cons se_int sa_nil)))) sa_nil)))))) (sss_one (ss_ret se_bl)) sss_nil)
    (sss_cons (ss_set (i := 5) nd rfl (by first | exact Or.inl rfl | exact Or.inr rfl) (se_callD (t_law_starts T) (hr.mono (by decide)) (by rfl) tk_cx (sa_cons (se_var 3) (sa_cons (se_op og_add (se_callB cg_len (by rfl) T.b_len (by decide +kernel) (sa_cons (se_var 3) sa_nil)) se_int) (sa_cons (se_op og_mul (se_tup (sa_cons se_int sa_nil)) (se_callB cg_len (by rfl) T.b_len (by decide +kernel) (sa_cons (se_var 3) sa_nil))) sa_nil)))))
    (sss_cons (ss_set (i := 5) nd rfl (by first | exact Or.inl rfl | exact Or.inr rfl) (se_ix (ha' := fun _ _ => rfl) (se_var 5) (se_op og_mod (se_callTy cg_int (by rfl) T.b_int (by decide +kernel) (sa_cons (se_ix (ha' := fun _ _ => rfl) (se_var 1) se_int) sa_nil)) (se_callB cg_len (by rfl) T.b_len (by decide +kernel) (sa_cons (se_var 5) sa_nil)))))
    (sss_cons (ss_setLc (i := 6) rfl nd rfl rfl (sw_true rfl rfl rfl (by decide +kernel)) (si_of (se_sl (se_var 0) (sp_some se_int) (sp_some (se_op og_add se_int (se_op og_mod (se_ix (ha' := fun _ _ => rfl) (se_var 1) se_int) se_int))))) (blkOk_by (own := [("number", 17)]) (N := ["script", "row", "kernel", "layers", "book", "start", "numbers", "handed", "play", "at", "deeds", "state", "seen", "trail", "taken", "drawn", "deed", "number", "answer", "told", "layer", "old", "end", "outcome"]) (sc := defScope s_law) (by decide +kernel)) rfl (by decide) (fun _ _ _ _ _ => pg_name (i := 17) nd rfl (by first | exact Or.inl rfl | exact Or.inr rfl)) (fun _ _ _ _ _ => sts_nil) (fun _ _ _ _ _ => (se_callB cg_abs (by rfl) T.b_abs (by decide +kernel) (sa_cons (se_callTy cg_int (by rfl) T.b_int (by decide +kernel) (sa_cons (se_var 17) sa_nil)) sa_nil))))
    (sss_cons (ss_set (i := 7) nd rfl (by first | exact Or.inl rfl | exact Or.inr rfl) (se_callTy cg_list (by rfl) T.b_list (by decide +kernel) (sa_cons (se_var 6) sa_nil)))
    (sss_cons (ss_set (i := 8) nd rfl (by first | exact Or.inl rfl | exact Or.inr rfl) (se_makeD (t_Play_init T) (hr.mono (by decide)) (by rfl) tk_cx (sa_cons (se_var 4) (sa_cons (se_var 5) (sa_cons (se_var 7) sa_nil)))))
    (sss_cons (ss_if (st_w (sw_or (st_cmp (og_ne hr.units) (se_var 7) (se_var 6) (nomark _)) (sw_or (st_cmp (og_ne hr.units) (se_fld T.a_kernel (se_fld T.a_book (se_var 8))) (se_var 2) (nomark _)) (sw_or1 (st_cmp (og_ne hr.units) (se_fld T.a_layers (se_fld T.a_book (se_var 8))) (se_callTy cg_tuple (by rfl) T.b_tuple (by decide +kernel) (sa_cons (se_var 3) sa_nil)) (nomark _)))))) (sss_one (ss_ret se_bl)) sss_nil)
    (sss_cons (ss_for po_cx rfl (si_range1 (by rfl) T.b_range (sa_cons (se_callB cg_len (by rfl) T.b_len (by decide +kernel) (sa_cons (se_var 7) sa_nil)) sa_nil)) (sg_name (i := 9) nd rfl (by first | exact Or.inl rfl | exact Or.inr rfl)) (sss_one (ss_asg (se_op og_add (se_ix (ha' := fun _ _ => rfl) (se_var 7) (se_var 9)) se_int) (sg_sub (W' := W0) (se_var 7) (se_var 9)))))
    (sss_cons (ss_expr (se_bm PySem.F.plainAttrs_list PySem.F.slot_list_append PySem.F.type_list_append mg_append (se_var 7) (sa_cons se_int sa_nil)))
    (sss_cons (ss_set (i := 10) nd rfl (by first | exact Or.inl rfl | exact Or.inr rfl) (se_callD (t_law_deeds T) (hr.mono (by decide)) (by rfl) tk_cx (sa_cons (se_var 2) (sa_cons (se_var 3) sa_nil))))
    (sss_cons (ss_set (i := 11) nd rfl (by first | exact Or.inl rfl | exact Or.inr rfl) (se_callTy cg_list (by rfl) T.b_list (by decide +kernel) (sa_cons (se_var 5) sa_nil)))
    (sss_cons (ss_set (i := 12) nd rfl (by first | exact Or.inl rfl | exact Or.inr rfl) (se_lst (sa_cons (se_var 11) sa_nil)))
    (sss_cons (ss_set (i := 13) nd rfl (by first | exact Or.inl rfl | exact Or.inr rfl) (se_lst sa_nil))
    (sss_cons (ss_set (i := 14) nd rfl (by first | exact Or.inl rfl | exact Or.inr rfl) se_int)
    (sss_cons (ss_for po_cx rfl (si_range1 (by rfl) T.b_range (sa_cons (se_op og_mod (se_ix (ha' := fun _ _ => rfl) (se_var 1) se_int) se_int) sa_nil)) (sg_name (i := 9) nd rfl (by first | exact Or.inl rfl | exact Or.inr rfl)) (sss_cons (ss_set (i := 15) nd rfl (by first | exact Or.inl rfl | exact Or.inr rfl) (se_callD (t_law_row T) (hr.mono (by decide)) (by rfl) tk_cx (sa_cons (se_var 0) (sa_cons (se_op og_add se_int (se_var 9)) (sa_cons se_int sa_nil)))))
    (sss_cons (ss_set (i := 16) nd rfl (by first | exact Or.inl rfl | exact Or.inr rfl) (se_ix (ha' := fun _ _ => rfl) (se_var 10) (se_op og_mod (se_callTy cg_int (by rfl) T.b_int (by decide +kernel) (sa_cons (se_ix (ha' := fun _ _ => rfl) (se_var 15) se_int) sa_nil)) (se_callB cg_len (by rfl) T.b_len (by decide +kernel) (sa_cons (se_var 10) sa_nil)))))
    (sss_cons (ss_set (i := 17) nd rfl (by first | exact Or.inl rfl | exact Or.inr rfl) se_int)
    (sss_cons (ss_if (st_cmp og_in (se_ix (ha' := fun _ _ => rfl) (se_var 16) se_int) (se_tup (sa_cons se_str (sa_cons se_str (sa_cons se_str sa_nil)))) (by rfl)) (sss_cons (ss_if (st_cmp og_lt (se_var 14) (se_callB cg_len (by rfl) T.b_len (by decide +kernel) (sa_cons (se_var 6) sa_nil)) (nomark _)) (sss_one (ss_set (i := 17) nd rfl (by first | exact Or.inl rfl | exact Or.inr rfl) (se_ix (ha' := fun _ _ => rfl) (se_var 6) (se_var 14)))) sss_nil)
    (sss_one (ss_set (i := 14) nd rfl (by first | exact Or.inl rfl | exact Or.inr rfl) (se_op og_add (se_var 14) se_int)))) sss_nil)
    (sss_cons (ss_asg (se_callD (t_law_step T) (hr.mono (by decide)) (by rfl) tk_cx (sa_cons (se_var 3) (sa_cons (se_var 11) (sa_cons (se_var 16) (sa_cons (se_var 17) (sa_cons (se_var 13) sa_nil)))))) (sg_tup rfl (sgs_cons (sg_name (i := 18) nd rfl (by first | exact Or.inl rfl | exact Or.inr rfl)) (sgs_cons (sg_name (i := 11) nd rfl (by first | exact Or.inl rfl | exact Or.inr rfl)) sgs_nil))))
    (sss_cons (ss_set (i := 19) nd rfl (by first | exact Or.inl rfl | exact Or.inr rfl) (se_methD _ (t_Play_answer T) T.c_Play (hr.mono (by decide)) tk_cx (se_var 8) (sa_cons (se_var 16) sa_nil)))
    (sss_cons (ss_if (st_w (sw_or (st_not (st_truth (se_callB cg_isi (by rfl) T.b_isinstance (by decide +kernel) (sa_cons (se_var 19) (sa_cons (se_bltn (by rfl) T.b_int (by decide +kernel)) sa_nil))))) (sw_or (st_truth (se_callB cg_isi (by rfl) T.b_isinstance (by decide +kernel) (sa_cons (se_var 19) (sa_cons (se_bltn (by rfl) T.b_bool (by decide +kernel)) sa_nil)))) (sw_or1 (st_cmp (og_ne hr.units) (se_var 19) (se_var 18) (nomark _)))))) (sss_one (ss_ret se_bl)) sss_nil)
    (sss_cons (ss_if (st_w (sw_and (st_cmp (og_eq hr.units) (se_op og_mod (se_ix (ha' := fun _ _ => rfl) (se_var 15) se_int) se_int) se_int (nomark _)) (sw_and1 (st_cmp (og_ne hr.units) (se_var 3) (se_tup sa_nil) (nomark _))))) (sss_cons (ss_set (i := 20) nd rfl (by first | exact Or.inl rfl | exact Or.inr rfl) (se_op og_add se_int (se_op og_mod (se_callTy cg_int (by rfl) T.b_int (by decide +kernel) (sa_cons (se_ix (ha' := fun _ _ => rfl) (se_var 15) se_int) sa_nil)) (se_callB cg_len (by rfl) T.b_len (by decide +kernel) (sa_cons (se_var 3) sa_nil)))))
    (sss_cons (ss_set (i := 21) nd rfl (by first | exact Or.inl rfl | exact Or.inr rfl) (se_ix (ha' := fun _ _ => rfl) (se_var 12) (se_op og_mod (se_callTy cg_int (by rfl) T.b_int (by decide +kernel) (sa_cons (se_ix (ha' := fun _ _ => rfl) (se_var 15) se_int) sa_nil)) (se_callB cg_len (by rfl) T.b_len (by decide +kernel) (sa_cons (se_var 12) sa_nil)))))
    (sss_cons (ss_set (i := 11) nd rfl (by first | exact Or.inl rfl | exact Or.inr rfl) (se_callD (t_law_back T) (hr.mono (by decide)) (by rfl) tk_cx (sa_cons (se_var 3) (sa_cons (se_var 11) (sa_cons (se_var 20) (sa_cons (se_var 21) sa_nil))))))
    (sss_one (ss_expr (se_methD _ (t_Play_restore T) T.c_Play (hr.mono (by decide)) tk_cx (se_var 8) (sa_cons (se_var 20) (sa_cons (se_callTy cg_tuple (by rfl) T.b_tuple (by decide +kernel) (sa_cons (se_var 21) sa_nil)) sa_nil)))))))) sss_nil)
    (sss_cons (ss_expr (se_bm PySem.F.plainAttrs_list PySem.F.slot_list_append PySem.F.type_list_append mg_append (se_var 12) (sa_cons (se_var 11) sa_nil)))
    (sss_one (ss_if (st_w (sw_or (st_cmp (og_ne hr.units) (se_fld T.a_state (se_var 8)) (se_callTy cg_tuple (by rfl) T.b_tuple (by decide +kernel) (sa_cons (se_var 11) sa_nil)) (nomark _)) (sw_or (st_cmp (og_ne hr.units) (se_fld T.a_taken (se_var 8)) (se_var 14) (nomark _)) (sw_or (st_cmp (og_ne hr.units) (se_fld T.a_deeds (se_var 8)) (se_op og_add (se_var 9) se_int) (nomark _)) (sw_or1 (st_cmp (og_ne hr.units) (se_fld T.a_trail (se_var 8)) (se_var 13) (nomark _))))))) (sss_one (ss_ret se_bl)) sss_nil))))))))))))
    (sss_cons (ss_asg (se_callD (t_law_end T) (hr.mono (by decide)) (by rfl) tk_cx (sa_cons (se_var 3) (sa_cons (se_var 11) (sa_cons (se_callD (t_law_row T) (hr.mono (by decide)) (by rfl) tk_cx (sa_cons (se_var 0) (sa_cons se_int (sa_cons se_int sa_nil)))) sa_nil)))) (sg_tup rfl (sgs_cons (sg_name (i := 16) nd rfl (by first | exact Or.inl rfl | exact Or.inr rfl)) (sgs_cons (sg_name (i := 22) nd rfl (by first | exact Or.inl rfl | exact Or.inr rfl)) sgs_nil))))
    (sss_cons (ss_set (i := 23) nd rfl (by first | exact Or.inl rfl | exact Or.inr rfl) (se_methD _ (t_Play_outcome T) T.c_Play (hr.mono (by decide)) tk_cx (se_var 8) (sa_cons (se_var 16) sa_nil)))
    (sss_cons (ss_if (st_cmp (og_ne hr.units) (se_var 7) (se_op og_add (se_lc rfl nd (si_of (se_var 6)) (blkOk_by (own := [("number", 17)]) (N := ["script", "row", "kernel", "layers", "book", "start", "numbers", "handed", "play", "at", "deeds", "state", "seen", "trail", "taken", "drawn", "deed", "number", "answer", "told", "layer", "old", "end", "outcome"]) (sc := defScope s_law) (by decide +kernel)) rfl (by decide) (fun _ _ _ _ _ => pg_name (i := 17) nd rfl (by first | exact Or.inl rfl | exact Or.inr rfl)) (fun _ _ _ _ _ => sts_nil) (fun _ _ _ _ _ => (se_op og_add (se_var 17) se_int))) (se_lst (sa_cons se_int sa_nil))) (nomark _)) (sss_one (ss_ret se_bl)) sss_nil)
    (sss_one (ss_ret (se_and (se_cmp (og_eq hr.units) (se_var 23) (se_tup (sa_cons (se_callTy cg_tuple (by rfl) T.b_tuple (by decide +kernel) (sa_cons (se_var 13) sa_nil)) (sa_cons (se_var 22) sa_nil))) (nomark _)) (se_one (se_callB cg_isi (by rfl) T.b_isinstance (by decide +kernel) (sa_cons (se_ix (ha' := fun _ _ => rfl) (se_var 23) se_int) (sa_cons (se_bltn (by rfl) T.b_tuple (by decide +kernel)) sa_nil))))))))))))))))))))))))))))
theorem fn_law (T : Txt K w mg cl) {fa : Addr} {fd : FuncData} (F : L2.Fun K "law" "law" s_law fa fd) : FnG P w K mg base cl 5 fa fd ["script"] m_law :=
  FnG.of (k := 4) F sc_law fun cdv A outer s H E hr => bd_law T fa cdv A outer s H E hr
end
theorem bi_is_name : BindsAll "is_name" "is_name" s_is_name ["token"] := fun _ _ _ _ _ _ us hl => match us, hl with | [_], _ => rfl
theorem bi_is_monoid : BindsAll "is_monoid" "is_monoid" s_is_monoid ["table"] := fun _ _ _ _ _ _ us hl => match us, hl with | [_], _ => rfl
theorem bi_is_layer : BindsAll "is_layer" "is_layer" s_is_layer ["layer"] := fun _ _ _ _ _ _ us hl => match us, hl with | [_], _ => rfl
theorem bi_Book_word_at : BindsAll "word_at" "Book.word_at" s_Book_word_at ["self", "layer"] := fun _ _ _ _ _ _ us hl => match us, hl with | [_, _], _ => rfl
theorem bi_Book_count_at : BindsAll "count_at" "Book.count_at" s_Book_count_at ["self", "layer"] := fun _ _ _ _ _ _ us hl => match us, hl with | [_, _], _ => rfl
theorem bi_starts_below : BindsAll "starts_below" "starts_below" s_starts_below ["book", "layer", "state"] := fun _ _ _ _ _ _ us hl => match us, hl with | [_, _, _], _ => rfl
theorem bi_starts : BindsAll "starts" "starts" s_starts ["book"] := fun _ _ _ _ _ _ us hl => match us, hl with | [_], _ => rfl
theorem bi_place_below : BindsAll "place_below" "place_below" s_place_below ["book", "layer", "state"] := fun _ _ _ _ _ _ us hl => match us, hl with | [_, _, _], _ => rfl
theorem bi_kept : BindsAll "kept" "kept" s_kept ["book", "state", "layer"] := fun _ _ _ _ _ _ us hl => match us, hl with | [_, _, _], _ => rfl
theorem bi_changed : BindsAll "changed" "changed" s_changed ["state", "layer", "entry"] := fun _ _ _ _ _ _ us hl => match us, hl with | [_, _, _], _ => rfl
theorem bi_Book_product : BindsAll "product" "Book.product" s_Book_product ["self", "layer", "first", "second"] := fun _ _ _ _ _ _ us hl => match us, hl with | [_, _, _, _], _ => rfl
theorem bi_noted : BindsAll "noted" "noted" s_noted ["book", "state", "layer", "member"] := fun _ _ _ _ _ _ us hl => match us, hl with | [_, _, _, _], _ => rfl
theorem bi_law_row : BindsAll "_law_row" "_law_row" s_law_row ["script", "k", "count"] := fun _ _ _ _ _ _ us hl => match us, hl with | [_, _, _], _ => rfl
theorem bi_law_book : BindsAll "_law_book" "_law_book" s_law_book ["k"] := fun _ _ _ _ _ _ us hl => match us, hl with | [_], _ => rfl
theorem bi_law_deeds : BindsAll "_law_deeds" "_law_deeds" s_law_deeds ["kernel", "layers"] := fun _ _ _ _ _ _ us hl => match us, hl with | [_, _], _ => rfl
theorem bi_law_starts : BindsAll "_law_starts" "_law_starts" s_law_starts ["layers", "layer", "state"] := fun _ _ _ _ _ _ us hl => match us, hl with | [_, _, _], _ => rfl
theorem bi_law_kept : BindsAll "_law_kept" "_law_kept" s_law_kept ["layers", "state", "layer"] := fun _ _ _ _ _ _ us hl => match us, hl with | [_, _, _], _ => rfl
theorem bi_law_asked : BindsAll "_law_asked" "_law_asked" s_law_asked ["layers", "state", "deed", "number", "trail"] := fun _ _ _ _ _ _ us hl => match us, hl with | [_, _, _, _, _], _ => rfl
theorem bi_law_step : BindsAll "_law_step" "_law_step" s_law_step ["layers", "state", "deed", "number", "trail"] := fun _ _ _ _ _ _ us hl => match us, hl with | [_, _, _, _, _], _ => rfl
theorem bi_law_back : BindsAll "_law_back" "_law_back" s_law_back ["layers", "state", "layer", "old"] := fun _ _ _ _ _ _ us hl => match us, hl with | [_, _, _, _], _ => rfl
theorem bi_law_states : BindsAll "_law_states" "_law_states" s_law_states ["book", "layers", "row"] := fun _ _ _ _ _ _ us hl => match us, hl with | [_, _, _], _ => rfl
theorem bi_law_end : BindsAll "_law_end" "_law_end" s_law_end ["layers", "state", "row"] := fun _ _ _ _ _ _ us hl => match us, hl with | [_, _, _], _ => rfl
theorem bi_Play_outcome : BindsAll "outcome" "Play.outcome" s_Play_outcome ["self", "deed"] := fun _ _ _ _ _ _ us hl => match us, hl with | [_, _], _ => rfl
theorem bi_Play_restore : BindsAll "restore" "Play.restore" s_Play_restore ["self", "layer", "state"] := fun _ _ _ _ _ _ us hl => match us, hl with | [_, _, _], _ => rfl
theorem bi_Book_ways_at : BindsAll "ways_at" "Book.ways_at" s_Book_ways_at ["self", "layer", "deed"] := fun _ _ _ _ _ _ us hl => match us, hl with | [_, _, _], _ => rfl
theorem bi_Play_next_number : BindsAll "next_number" "Play.next_number" s_Play_next_number ["self"] := fun _ _ _ _ _ _ us hl => match us, hl with | [_], _ => rfl
theorem bi_Play_ask : BindsAll "ask" "Play.ask" s_Play_ask ["self", "layer", "deed"] := fun _ _ _ _ _ _ us hl => match us, hl with | [_, _, _], _ => rfl
theorem bi_Play_answer : BindsAll "answer" "Play.answer" s_Play_answer ["self", "deed"] := fun _ _ _ _ _ _ us hl => match us, hl with | [_, _], _ => rfl
theorem bi_Play_init : BindsAll "__init__" "Play.__init__" s_Play_init ["self", "book", "start", "script"] := fun _ _ _ _ _ _ us hl => match us, hl with | [_, _, _, _], _ => rfl
theorem bi_Book_init : BindsAll "__init__" "Book.__init__" s_Book_init ["self", "kernel", "layers"] := fun _ _ _ _ _ _ us hl => match us, hl with | [_, _, _], _ => rfl
theorem bi_law : BindsAll "law" "law" s_law ["script"] := fun _ _ _ _ _ _ us hl => match us, hl with | [_], _ => rfl
def clOf (C0 : Addr) (C1 : Addr) : Nat → Addr
  | 0 => C0
  | 1 => C1
  | _ => 0
theorem all_mk {l : PySem.W.OpenLaw} {w : World} {K : PySem.W.Frag} {h : Heap} {mg : Str → Option Value} {fa : Addr} {C0 C1 : Addr} (X : K.In h) (G : h.Ns mainGlobals mg) (hfa : mg "law" = some (.ref fa))
    {f0 : Addr} {oc0 kV0 dc0 pm0 cd0 ct0 : Value} {od0 an0 : Option Addr} {sl0 : Array (Option Value)}
    {f1 : Addr} {oc1 kV1 dc1 pm1 cd1 ct1 : Value} {od1 an1 : Option Addr} {sl1 : Array (Option Value)}
    {f2 : Addr} {oc2 kV2 dc2 pm2 cd2 ct2 : Value} {od2 an2 : Option Addr} {sl2 : Array (Option Value)}
    {f3 : Addr} {oc3 kV3 dc3 pm3 cd3 ct3 : Value} {od3 an3 : Option Addr} {sl3 : Array (Option Value)}
    {f4 : Addr} {oc4 kV4 dc4 pm4 cd4 ct4 : Value} {od4 an4 : Option Addr} {sl4 : Array (Option Value)}
    {f5 : Addr} {oc5 kV5 dc5 pm5 cd5 ct5 : Value} {od5 an5 : Option Addr} {sl5 : Array (Option Value)}
    {f6 : Addr} {oc6 kV6 dc6 pm6 cd6 ct6 : Value} {od6 an6 : Option Addr} {sl6 : Array (Option Value)}
    {f7 : Addr} {oc7 kV7 dc7 pm7 cd7 ct7 : Value} {od7 an7 : Option Addr} {sl7 : Array (Option Value)}
    {f8 : Addr} {oc8 kV8 dc8 pm8 cd8 ct8 : Value} {od8 an8 : Option Addr} {sl8 : Array (Option Value)}
    {f9 : Addr} {oc9 kV9 dc9 pm9 cd9 ct9 : Value} {od9 an9 : Option Addr} {sl9 : Array (Option Value)}
    {f10 : Addr} {oc10 kV10 dc10 pm10 cd10 ct10 : Value} {od10 an10 : Option Addr} {sl10 : Array (Option Value)}
    {f11 : Addr} {oc11 kV11 dc11 pm11 cd11 ct11 : Value} {od11 an11 : Option Addr} {sl11 : Array (Option Value)}
    {f12 : Addr} {oc12 kV12 dc12 pm12 cd12 ct12 : Value} {od12 an12 : Option Addr} {sl12 : Array (Option Value)}
    {f13 : Addr} {oc13 kV13 dc13 pm13 cd13 ct13 : Value} {od13 an13 : Option Addr} {sl13 : Array (Option Value)}
    {f14 : Addr} {oc14 kV14 dc14 pm14 cd14 ct14 : Value} {od14 an14 : Option Addr} {sl14 : Array (Option Value)}
    {f15 : Addr} {oc15 kV15 dc15 pm15 cd15 ct15 : Value} {od15 an15 : Option Addr} {sl15 : Array (Option Value)}
    {f16 : Addr} {oc16 kV16 dc16 pm16 cd16 ct16 : Value} {od16 an16 : Option Addr} {sl16 : Array (Option Value)}
    {f17 : Addr} {oc17 kV17 dc17 pm17 cd17 ct17 : Value} {od17 an17 : Option Addr} {sl17 : Array (Option Value)}
    {f18 : Addr} {oc18 kV18 dc18 pm18 cd18 ct18 : Value} {od18 an18 : Option Addr} {sl18 : Array (Option Value)}
    {f19 : Addr} {oc19 kV19 dc19 pm19 cd19 ct19 : Value} {od19 an19 : Option Addr} {sl19 : Array (Option Value)}
    {f20 : Addr} {oc20 kV20 dc20 pm20 cd20 ct20 : Value} {od20 an20 : Option Addr} {sl20 : Array (Option Value)}
    {f21 : Addr} {oc21 kV21 dc21 pm21 cd21 ct21 : Value} {od21 an21 : Option Addr} {sl21 : Array (Option Value)}
    {f22 : Addr} {oc22 kV22 dc22 pm22 cd22 ct22 : Value} {od22 an22 : Option Addr} {sl22 : Array (Option Value)}
    {f23 : Addr} {oc23 kV23 dc23 pm23 cd23 ct23 : Value} {od23 an23 : Option Addr} {sl23 : Array (Option Value)}
    {f24 : Addr} {oc24 kV24 dc24 pm24 cd24 ct24 : Value} {od24 an24 : Option Addr} {sl24 : Array (Option Value)}
    {f25 : Addr} {oc25 kV25 dc25 pm25 cd25 ct25 : Value} {od25 an25 : Option Addr} {sl25 : Array (Option Value)}
    {f26 : Addr} {oc26 kV26 dc26 pm26 cd26 ct26 : Value} {od26 an26 : Option Addr} {sl26 : Array (Option Value)}
    {f27 : Addr} {oc27 kV27 dc27 pm27 cd27 ct27 : Value} {od27 an27 : Option Addr} {sl27 : Array (Option Value)}
    {f28 : Addr} {oc28 kV28 dc28 pm28 cd28 ct28 : Value} {od28 an28 : Option Addr} {sl28 : Array (Option Value)}
    {f29 : Addr} {oc29 kV29 dc29 pm29 cd29 ct29 : Value} {od29 an29 : Option Addr} {sl29 : Array (Option Value)}
    {f30 : Addr} {oc30 kV30 dc30 pm30 cd30 ct30 : Value} {od30 an30 : Option Addr} {sl30 : Array (Option Value)}
    {p_KEPT : Addr} {od_KEPT : Option Addr} {its_KEPT : Array Value} {n_KEPT : Nat} {sl_KEPT : Array (Option Value)} {xs_KEPT : List V}
    {tk_LETTERS : Tok}
    {tk_MOST_LAYERS : Tok}
    {tk_MOST_STARTS : Tok}
    {p_VARIED : Addr} {od_VARIED : Option Addr} {its_VARIED : Array Value} {n_VARIED : Nat} {sl_VARIED : Array (Option Value)} {xs_VARIED : List V}
    {d_CHOICES : Addr} {es_CHOICES : Array DictEntry} {n_CHOICES : Nat}
    (aC0 : PySem.W.nsIn K mainGlobals "Book" = some (some (.ref C0)))
    (aC1 : PySem.W.nsIn K mainGlobals "Play" = some (some (.ref C1)))
    (a0 : PySem.W.nsIn K mainGlobals "is_name" = some (some (.ref f0)))
    (l0 : K.lookup f0 = some ⟨oc0, od0, .func (PySem.W.fnOf "is_name" "is_name" (defArgs s_is_name) (defBody s_is_name) (defScope s_is_name) .none kV0 dc0 pm0 an0 cd0 ct0), sl0⟩)
    (c0 : PySem.W.codeIn K cd0 "is_name" = true)
    (k0 : PySem.W.keepIn K (.ref f0) = true)
    (a1 : PySem.W.nsIn K mainGlobals "is_monoid" = some (some (.ref f1)))
    (l1 : K.lookup f1 = some ⟨oc1, od1, .func (PySem.W.fnOf "is_monoid" "is_monoid" (defArgs s_is_monoid) (defBody s_is_monoid) (defScope s_is_monoid) .none kV1 dc1 pm1 an1 cd1 ct1), sl1⟩)
    (c1 : PySem.W.codeIn K cd1 "is_monoid" = true)
    (k1 : PySem.W.keepIn K (.ref f1) = true)
    (a2 : PySem.W.nsIn K mainGlobals "is_layer" = some (some (.ref f2)))
    (l2 : K.lookup f2 = some ⟨oc2, od2, .func (PySem.W.fnOf "is_layer" "is_layer" (defArgs s_is_layer) (defBody s_is_layer) (defScope s_is_layer) .none kV2 dc2 pm2 an2 cd2 ct2), sl2⟩)
    (c2 : PySem.W.codeIn K cd2 "is_layer" = true)
    (k2 : PySem.W.keepIn K (.ref f2) = true)
    (a3 : PySem.W.findIn K (.ref C0) "word_at" = some (some (.ref f3)))
    (i3 : PySem.W.isFn K (.ref f3) = true)
    (l3 : K.lookup f3 = some ⟨oc3, od3, .func (PySem.W.fnOf "word_at" "Book.word_at" (defArgs s_Book_word_at) (defBody s_Book_word_at) (defScope s_Book_word_at) .none kV3 dc3 pm3 an3 cd3 ct3), sl3⟩)
    (c3 : PySem.W.codeIn K cd3 "Book.word_at" = true)
    (k3 : PySem.W.keepIn K (.ref f3) = true)
    (a4 : PySem.W.findIn K (.ref C0) "count_at" = some (some (.ref f4)))
    (i4 : PySem.W.isFn K (.ref f4) = true)
    (l4 : K.lookup f4 = some ⟨oc4, od4, .func (PySem.W.fnOf "count_at" "Book.count_at" (defArgs s_Book_count_at) (defBody s_Book_count_at) (defScope s_Book_count_at) .none kV4 dc4 pm4 an4 cd4 ct4), sl4⟩)
    (c4 : PySem.W.codeIn K cd4 "Book.count_at" = true)
    (k4 : PySem.W.keepIn K (.ref f4) = true)
    (a5 : PySem.W.nsIn K mainGlobals "starts_below" = some (some (.ref f5)))
    (l5 : K.lookup f5 = some ⟨oc5, od5, .func (PySem.W.fnOf "starts_below" "starts_below" (defArgs s_starts_below) (defBody s_starts_below) (defScope s_starts_below) .none kV5 dc5 pm5 an5 cd5 ct5), sl5⟩)
    (c5 : PySem.W.codeIn K cd5 "starts_below" = true)
    (k5 : PySem.W.keepIn K (.ref f5) = true)
    (a6 : PySem.W.nsIn K mainGlobals "starts" = some (some (.ref f6)))
    (l6 : K.lookup f6 = some ⟨oc6, od6, .func (PySem.W.fnOf "starts" "starts" (defArgs s_starts) (defBody s_starts) (defScope s_starts) .none kV6 dc6 pm6 an6 cd6 ct6), sl6⟩)
    (c6 : PySem.W.codeIn K cd6 "starts" = true)
    (k6 : PySem.W.keepIn K (.ref f6) = true)
    (a7 : PySem.W.nsIn K mainGlobals "place_below" = some (some (.ref f7)))
    (l7 : K.lookup f7 = some ⟨oc7, od7, .func (PySem.W.fnOf "place_below" "place_below" (defArgs s_place_below) (defBody s_place_below) (defScope s_place_below) .none kV7 dc7 pm7 an7 cd7 ct7), sl7⟩)
    (c7 : PySem.W.codeIn K cd7 "place_below" = true)
    (k7 : PySem.W.keepIn K (.ref f7) = true)
    (a8 : PySem.W.nsIn K mainGlobals "kept" = some (some (.ref f8)))
    (l8 : K.lookup f8 = some ⟨oc8, od8, .func (PySem.W.fnOf "kept" "kept" (defArgs s_kept) (defBody s_kept) (defScope s_kept) .none kV8 dc8 pm8 an8 cd8 ct8), sl8⟩)
    (c8 : PySem.W.codeIn K cd8 "kept" = true)
    (k8 : PySem.W.keepIn K (.ref f8) = true)
    (a9 : PySem.W.nsIn K mainGlobals "changed" = some (some (.ref f9)))
    (l9 : K.lookup f9 = some ⟨oc9, od9, .func (PySem.W.fnOf "changed" "changed" (defArgs s_changed) (defBody s_changed) (defScope s_changed) .none kV9 dc9 pm9 an9 cd9 ct9), sl9⟩)
    (c9 : PySem.W.codeIn K cd9 "changed" = true)
    (k9 : PySem.W.keepIn K (.ref f9) = true)
    (a10 : PySem.W.findIn K (.ref C0) "product" = some (some (.ref f10)))
    (i10 : PySem.W.isFn K (.ref f10) = true)
    (l10 : K.lookup f10 = some ⟨oc10, od10, .func (PySem.W.fnOf "product" "Book.product" (defArgs s_Book_product) (defBody s_Book_product) (defScope s_Book_product) .none kV10 dc10 pm10 an10 cd10 ct10), sl10⟩)
    (c10 : PySem.W.codeIn K cd10 "Book.product" = true)
    (k10 : PySem.W.keepIn K (.ref f10) = true)
    (a11 : PySem.W.nsIn K mainGlobals "noted" = some (some (.ref f11)))
    (l11 : K.lookup f11 = some ⟨oc11, od11, .func (PySem.W.fnOf "noted" "noted" (defArgs s_noted) (defBody s_noted) (defScope s_noted) .none kV11 dc11 pm11 an11 cd11 ct11), sl11⟩)
    (c11 : PySem.W.codeIn K cd11 "noted" = true)
    (k11 : PySem.W.keepIn K (.ref f11) = true)
    (a12 : PySem.W.nsIn K mainGlobals "_law_row" = some (some (.ref f12)))
    (l12 : K.lookup f12 = some ⟨oc12, od12, .func (PySem.W.fnOf "_law_row" "_law_row" (defArgs s_law_row) (defBody s_law_row) (defScope s_law_row) .none kV12 dc12 pm12 an12 cd12 ct12), sl12⟩)
    (c12 : PySem.W.codeIn K cd12 "_law_row" = true)
    (k12 : PySem.W.keepIn K (.ref f12) = true)
    (a13 : PySem.W.nsIn K mainGlobals "_law_book" = some (some (.ref f13)))
    (l13 : K.lookup f13 = some ⟨oc13, od13, .func (PySem.W.fnOf "_law_book" "_law_book" (defArgs s_law_book) (defBody s_law_book) (defScope s_law_book) .none kV13 dc13 pm13 an13 cd13 ct13), sl13⟩)
    (c13 : PySem.W.codeIn K cd13 "_law_book" = true)
    (k13 : PySem.W.keepIn K (.ref f13) = true)
    (a14 : PySem.W.nsIn K mainGlobals "_law_deeds" = some (some (.ref f14)))
    (l14 : K.lookup f14 = some ⟨oc14, od14, .func (PySem.W.fnOf "_law_deeds" "_law_deeds" (defArgs s_law_deeds) (defBody s_law_deeds) (defScope s_law_deeds) .none kV14 dc14 pm14 an14 cd14 ct14), sl14⟩)
    (c14 : PySem.W.codeIn K cd14 "_law_deeds" = true)
    (k14 : PySem.W.keepIn K (.ref f14) = true)
    (a15 : PySem.W.nsIn K mainGlobals "_law_starts" = some (some (.ref f15)))
    (l15 : K.lookup f15 = some ⟨oc15, od15, .func (PySem.W.fnOf "_law_starts" "_law_starts" (defArgs s_law_starts) (defBody s_law_starts) (defScope s_law_starts) .none kV15 dc15 pm15 an15 cd15 ct15), sl15⟩)
    (c15 : PySem.W.codeIn K cd15 "_law_starts" = true)
    (k15 : PySem.W.keepIn K (.ref f15) = true)
    (a16 : PySem.W.nsIn K mainGlobals "_law_kept" = some (some (.ref f16)))
    (l16 : K.lookup f16 = some ⟨oc16, od16, .func (PySem.W.fnOf "_law_kept" "_law_kept" (defArgs s_law_kept) (defBody s_law_kept) (defScope s_law_kept) .none kV16 dc16 pm16 an16 cd16 ct16), sl16⟩)
    (c16 : PySem.W.codeIn K cd16 "_law_kept" = true)
    (k16 : PySem.W.keepIn K (.ref f16) = true)
    (a17 : PySem.W.nsIn K mainGlobals "_law_asked" = some (some (.ref f17)))
    (l17 : K.lookup f17 = some ⟨oc17, od17, .func (PySem.W.fnOf "_law_asked" "_law_asked" (defArgs s_law_asked) (defBody s_law_asked) (defScope s_law_asked) .none kV17 dc17 pm17 an17 cd17 ct17), sl17⟩)
    (c17 : PySem.W.codeIn K cd17 "_law_asked" = true)
    (k17 : PySem.W.keepIn K (.ref f17) = true)
    (a18 : PySem.W.nsIn K mainGlobals "_law_step" = some (some (.ref f18)))
    (l18 : K.lookup f18 = some ⟨oc18, od18, .func (PySem.W.fnOf "_law_step" "_law_step" (defArgs s_law_step) (defBody s_law_step) (defScope s_law_step) .none kV18 dc18 pm18 an18 cd18 ct18), sl18⟩)
    (c18 : PySem.W.codeIn K cd18 "_law_step" = true)
    (k18 : PySem.W.keepIn K (.ref f18) = true)
    (a19 : PySem.W.nsIn K mainGlobals "_law_back" = some (some (.ref f19)))
    (l19 : K.lookup f19 = some ⟨oc19, od19, .func (PySem.W.fnOf "_law_back" "_law_back" (defArgs s_law_back) (defBody s_law_back) (defScope s_law_back) .none kV19 dc19 pm19 an19 cd19 ct19), sl19⟩)
    (c19 : PySem.W.codeIn K cd19 "_law_back" = true)
    (k19 : PySem.W.keepIn K (.ref f19) = true)
    (a20 : PySem.W.nsIn K mainGlobals "_law_states" = some (some (.ref f20)))
    (l20 : K.lookup f20 = some ⟨oc20, od20, .func (PySem.W.fnOf "_law_states" "_law_states" (defArgs s_law_states) (defBody s_law_states) (defScope s_law_states) .none kV20 dc20 pm20 an20 cd20 ct20), sl20⟩)
    (c20 : PySem.W.codeIn K cd20 "_law_states" = true)
    (k20 : PySem.W.keepIn K (.ref f20) = true)
    (a21 : PySem.W.nsIn K mainGlobals "_law_end" = some (some (.ref f21)))
    (l21 : K.lookup f21 = some ⟨oc21, od21, .func (PySem.W.fnOf "_law_end" "_law_end" (defArgs s_law_end) (defBody s_law_end) (defScope s_law_end) .none kV21 dc21 pm21 an21 cd21 ct21), sl21⟩)
    (c21 : PySem.W.codeIn K cd21 "_law_end" = true)
    (k21 : PySem.W.keepIn K (.ref f21) = true)
    (a22 : PySem.W.findIn K (.ref C1) "outcome" = some (some (.ref f22)))
    (i22 : PySem.W.isFn K (.ref f22) = true)
    (l22 : K.lookup f22 = some ⟨oc22, od22, .func (PySem.W.fnOf "outcome" "Play.outcome" (defArgs s_Play_outcome) (defBody s_Play_outcome) (defScope s_Play_outcome) .none kV22 dc22 pm22 an22 cd22 ct22), sl22⟩)
    (c22 : PySem.W.codeIn K cd22 "Play.outcome" = true)
    (k22 : PySem.W.keepIn K (.ref f22) = true)
    (a23 : PySem.W.findIn K (.ref C1) "restore" = some (some (.ref f23)))
    (i23 : PySem.W.isFn K (.ref f23) = true)
    (l23 : K.lookup f23 = some ⟨oc23, od23, .func (PySem.W.fnOf "restore" "Play.restore" (defArgs s_Play_restore) (defBody s_Play_restore) (defScope s_Play_restore) .none kV23 dc23 pm23 an23 cd23 ct23), sl23⟩)
    (c23 : PySem.W.codeIn K cd23 "Play.restore" = true)
    (k23 : PySem.W.keepIn K (.ref f23) = true)
    (a24 : PySem.W.findIn K (.ref C0) "ways_at" = some (some (.ref f24)))
    (i24 : PySem.W.isFn K (.ref f24) = true)
    (l24 : K.lookup f24 = some ⟨oc24, od24, .func (PySem.W.fnOf "ways_at" "Book.ways_at" (defArgs s_Book_ways_at) (defBody s_Book_ways_at) (defScope s_Book_ways_at) .none kV24 dc24 pm24 an24 cd24 ct24), sl24⟩)
    (c24 : PySem.W.codeIn K cd24 "Book.ways_at" = true)
    (k24 : PySem.W.keepIn K (.ref f24) = true)
    (a25 : PySem.W.findIn K (.ref C1) "next_number" = some (some (.ref f25)))
    (i25 : PySem.W.isFn K (.ref f25) = true)
    (l25 : K.lookup f25 = some ⟨oc25, od25, .func (PySem.W.fnOf "next_number" "Play.next_number" (defArgs s_Play_next_number) (defBody s_Play_next_number) (defScope s_Play_next_number) .none kV25 dc25 pm25 an25 cd25 ct25), sl25⟩)
    (c25 : PySem.W.codeIn K cd25 "Play.next_number" = true)
    (k25 : PySem.W.keepIn K (.ref f25) = true)
    (a26 : PySem.W.findIn K (.ref C1) "ask" = some (some (.ref f26)))
    (i26 : PySem.W.isFn K (.ref f26) = true)
    (l26 : K.lookup f26 = some ⟨oc26, od26, .func (PySem.W.fnOf "ask" "Play.ask" (defArgs s_Play_ask) (defBody s_Play_ask) (defScope s_Play_ask) .none kV26 dc26 pm26 an26 cd26 ct26), sl26⟩)
    (c26 : PySem.W.codeIn K cd26 "Play.ask" = true)
    (k26 : PySem.W.keepIn K (.ref f26) = true)
    (a27 : PySem.W.findIn K (.ref C1) "answer" = some (some (.ref f27)))
    (i27 : PySem.W.isFn K (.ref f27) = true)
    (l27 : K.lookup f27 = some ⟨oc27, od27, .func (PySem.W.fnOf "answer" "Play.answer" (defArgs s_Play_answer) (defBody s_Play_answer) (defScope s_Play_answer) .none kV27 dc27 pm27 an27 cd27 ct27), sl27⟩)
    (c27 : PySem.W.codeIn K cd27 "Play.answer" = true)
    (k27 : PySem.W.keepIn K (.ref f27) = true)
    (a28 : PySem.W.findIn K (.ref C1) "__init__" = some (some (.ref f28)))
    (i28 : PySem.W.isFn K (.ref f28) = true)
    (l28 : K.lookup f28 = some ⟨oc28, od28, .func (PySem.W.fnOf "__init__" "Play.__init__" (defArgs s_Play_init) (defBody s_Play_init) (defScope s_Play_init) .none kV28 dc28 pm28 an28 cd28 ct28), sl28⟩)
    (c28 : PySem.W.codeIn K cd28 "Play.__init__" = true)
    (k28 : PySem.W.keepIn K (.ref f28) = true)
    (mk1 : PySem.W.makesIn K C1 = true)
    (kc1 : PySem.W.keepIn K (.ref C1) = true)
    (a29 : PySem.W.findIn K (.ref C0) "__init__" = some (some (.ref f29)))
    (i29 : PySem.W.isFn K (.ref f29) = true)
    (l29 : K.lookup f29 = some ⟨oc29, od29, .func (PySem.W.fnOf "__init__" "Book.__init__" (defArgs s_Book_init) (defBody s_Book_init) (defScope s_Book_init) .none kV29 dc29 pm29 an29 cd29 ct29), sl29⟩)
    (c29 : PySem.W.codeIn K cd29 "Book.__init__" = true)
    (k29 : PySem.W.keepIn K (.ref f29) = true)
    (mk0 : PySem.W.makesIn K C0 = true)
    (kc0 : PySem.W.keepIn K (.ref C0) = true)
    (a30 : PySem.W.nsIn K mainGlobals "law" = some (some (.ref f30)))
    (l30 : K.lookup f30 = some ⟨oc30, od30, .func (PySem.W.fnOf "law" "law" (defArgs s_law) (defBody s_law) (defScope s_law) .none kV30 dc30 pm30 an30 cd30 ct30), sl30⟩)
    (c30 : PySem.W.codeIn K cd30 "law" = true)
    (k30 : PySem.W.keepIn K (.ref f30) = true)
    (pg0 : PySem.W.plainGet K C0 Str.empty = true)
    (hd0 : PySem.W.hasDictIn K C0 = true)
    (po0 : PySem.W.plainOver K C0 = true)
    (sa0 : PySem.W.findIn K (.ref C0) "__setattr__" = some (some (.builtin "object.__setattr__")))
    (pg1 : PySem.W.plainGet K C1 Str.empty = true)
    (hd1 : PySem.W.hasDictIn K C1 = true)
    (po1 : PySem.W.plainOver K C1 = true)
    (sa1 : PySem.W.findIn K (.ref C1) "__setattr__" = some (some (.builtin "object.__setattr__")))
    (n1_book : PySem.W.findIn K (.ref C1) "book" = some none)
    (n1_deeds : PySem.W.findIn K (.ref C1) "deeds" = some none)
    (n0_kernel : PySem.W.findIn K (.ref C0) "kernel" = some none)
    (n0_layers : PySem.W.findIn K (.ref C0) "layers" = some none)
    (n1_script : PySem.W.findIn K (.ref C1) "script" = some none)
    (n0_size : PySem.W.findIn K (.ref C0) "size" = some none)
    (n1_state : PySem.W.findIn K (.ref C1) "state" = some none)
    (n1_taken : PySem.W.findIn K (.ref C1) "taken" = some none)
    (n1_trail : PySem.W.findIn K (.ref C1) "trail" = some none)
    (z_abs : PySem.W.nsIn K mainGlobals "abs" = some none)
    (z_all : PySem.W.nsIn K mainGlobals "all" = some none)
    (z_bool : PySem.W.nsIn K mainGlobals "bool" = some none)
    (z_enumerate : PySem.W.nsIn K mainGlobals "enumerate" = some none)
    (z_int : PySem.W.nsIn K mainGlobals "int" = some none)
    (z_isinstance : PySem.W.nsIn K mainGlobals "isinstance" = some none)
    (z_len : PySem.W.nsIn K mainGlobals "len" = some none)
    (z_list : PySem.W.nsIn K mainGlobals "list" = some none)
    (z_range : PySem.W.nsIn K mainGlobals "range" = some none)
    (z_tuple : PySem.W.nsIn K mainGlobals "tuple" = some none)
    (g_KEPT : PySem.W.nsIn K mainGlobals "KEPT" = some (some (.ref p_KEPT)))
    (gl_KEPT : K.lookup p_KEPT = some ⟨.type "tuple", od_KEPT, .seq its_KEPT n_KEPT, sl_KEPT⟩)
    (ge_KEPT : wrVs its_KEPT.toList = some ([(.str "cell"), (.str "note")], xs_KEPT))
    (gz_KEPT : its_KEPT.size ≤ 1000)
    (g_LETTERS : PySem.W.nsIn K mainGlobals "LETTERS" = some (some (.str "abcdefghijklmnopqrstuvwxyz" tk_LETTERS)))
    (g_MOST_LAYERS : PySem.W.nsIn K mainGlobals "MOST_LAYERS" = some (some (.int 5 tk_MOST_LAYERS)))
    (g_MOST_STARTS : PySem.W.nsIn K mainGlobals "MOST_STARTS" = some (some (.int 12 tk_MOST_STARTS)))
    (g_VARIED : PySem.W.nsIn K mainGlobals "VARIED" = some (some (.ref p_VARIED)))
    (gl_VARIED : K.lookup p_VARIED = some ⟨.type "tuple", od_VARIED, .seq its_VARIED n_VARIED, sl_VARIED⟩)
    (ge_VARIED : wrVs its_VARIED.toList = some ([(.str "cell"), (.str "setting")], xs_VARIED))
    (gz_VARIED : its_VARIED.size ≤ 1000)
    (h_CHOICES : PySem.W.nsIn K mainGlobals "CHOICES" = some (some (.ref d_CHOICES)))
    (hl_CHOICES : K.lookup d_CHOICES = some ⟨.type "dict", none, .dict es_CHOICES n_CHOICES, #[]⟩)
    (he_CHOICES : keysOf es_CHOICES.toList = some k_CHOICES)
    (hk_CHOICES : PySem.W.KeysLit w.params es_CHOICES.toList)
    (hs_CHOICES : (d_CHOICES == sysModules) = false)
    : ∃ (cl : Nat → Addr) (fd : FuncData), (∀ (s : Shared) (u : Value), BindsTo s fd ⟨[u], []⟩ [("script", u)]) ∧ ∀ base : Heap, FnG l.prog w K mg base cl 5 fa fd ["script"] m_law := by
  have e := hfa.symm.trans (PySem.W.mg_of X G a30)
  cases e
  have T : Txt K w mg (clOf C0 C1) := {
    d_is_name := DefT.mk' bi_is_name X G a0 l0 c0 k0,
    d_is_monoid := DefT.mk' bi_is_monoid X G a1 l1 c1 k1,
    d_is_layer := DefT.mk' bi_is_layer X G a2 l2 c2 k2,
    q_Book_word_at := MethT.mk' bi_Book_word_at a3 i3 l3 c3 k3,
    q_Book_count_at := MethT.mk' bi_Book_count_at a4 i4 l4 c4 k4,
    d_starts_below := DefT.mk' bi_starts_below X G a5 l5 c5 k5,
    d_starts := DefT.mk' bi_starts X G a6 l6 c6 k6,
    d_place_below := DefT.mk' bi_place_below X G a7 l7 c7 k7,
    d_kept := DefT.mk' bi_kept X G a8 l8 c8 k8,
    d_changed := DefT.mk' bi_changed X G a9 l9 c9 k9,
    q_Book_product := MethT.mk' bi_Book_product a10 i10 l10 c10 k10,
    d_noted := DefT.mk' bi_noted X G a11 l11 c11 k11,
    d_law_row := DefT.mk' bi_law_row X G a12 l12 c12 k12,
    d_law_book := DefT.mk' bi_law_book X G a13 l13 c13 k13,
    d_law_deeds := DefT.mk' bi_law_deeds X G a14 l14 c14 k14,
    d_law_starts := DefT.mk' bi_law_starts X G a15 l15 c15 k15,
    d_law_kept := DefT.mk' bi_law_kept X G a16 l16 c16 k16,
    d_law_asked := DefT.mk' bi_law_asked X G a17 l17 c17 k17,
    d_law_step := DefT.mk' bi_law_step X G a18 l18 c18 k18,
    d_law_back := DefT.mk' bi_law_back X G a19 l19 c19 k19,
    d_law_states := DefT.mk' bi_law_states X G a20 l20 c20 k20,
    d_law_end := DefT.mk' bi_law_end X G a21 l21 c21 k21,
    q_Play_outcome := MethT.mk' bi_Play_outcome a22 i22 l22 c22 k22,
    q_Play_restore := MethT.mk' bi_Play_restore a23 i23 l23 c23 k23,
    q_Book_ways_at := MethT.mk' bi_Book_ways_at a24 i24 l24 c24 k24,
    q_Play_next_number := MethT.mk' bi_Play_next_number a25 i25 l25 c25 k25,
    q_Play_ask := MethT.mk' bi_Play_ask a26 i26 l26 c26 k26,
    q_Play_answer := MethT.mk' bi_Play_answer a27 i27 l27 c27 k27,
    i_Play := InitT.mk' bi_Play_init X G aC1 mk1 a28 i28 kc1 l28 c28 k28,
    i_Book := InitT.mk' bi_Book_init X G aC0 mk0 a29 i29 kc0 l29 c29 k29,
    d_law := DefT.mk' bi_law X G a30 l30 c30 k30,
    c_Book := ⟨pg0, hd0, po0, sa0⟩,
    c_Play := ⟨pg1, hd1, po1, sa1⟩,
    a_book := (clsA_cons ⟨pg1, hd1, po1, sa1⟩ n1_book clsA_nil),
    a_deeds := (clsA_cons ⟨pg1, hd1, po1, sa1⟩ n1_deeds clsA_nil),
    a_kernel := (clsA_cons ⟨pg0, hd0, po0, sa0⟩ n0_kernel clsA_nil),
    a_layers := (clsA_cons ⟨pg0, hd0, po0, sa0⟩ n0_layers clsA_nil),
    a_script := (clsA_cons ⟨pg1, hd1, po1, sa1⟩ n1_script clsA_nil),
    a_size := (clsA_cons ⟨pg0, hd0, po0, sa0⟩ n0_size clsA_nil),
    a_state := (clsA_cons ⟨pg1, hd1, po1, sa1⟩ n1_state clsA_nil),
    a_taken := (clsA_cons ⟨pg1, hd1, po1, sa1⟩ n1_taken clsA_nil),
    a_trail := (clsA_cons ⟨pg1, hd1, po1, sa1⟩ n1_trail clsA_nil),
    b_abs := PySem.W.mg_none_of X G z_abs,
    b_all := PySem.W.mg_none_of X G z_all,
    b_bool := PySem.W.mg_none_of X G z_bool,
    b_enumerate := PySem.W.mg_none_of X G z_enumerate,
    b_int := PySem.W.mg_none_of X G z_int,
    b_isinstance := PySem.W.mg_none_of X G z_isinstance,
    b_len := PySem.W.mg_none_of X G z_len,
    b_list := PySem.W.mg_none_of X G z_list,
    b_range := PySem.W.mg_none_of X G z_range,
    b_tuple := PySem.W.mg_none_of X G z_tuple,
    g_KEPT := GlobT.tup X G g_KEPT gl_KEPT ge_KEPT gz_KEPT,
    g_LETTERS := GlobT.str X G g_LETTERS,
    g_MOST_LAYERS := GlobT.int X G g_MOST_LAYERS,
    g_MOST_STARTS := GlobT.int X G g_MOST_STARTS,
    g_VARIED := GlobT.tup X G g_VARIED gl_VARIED ge_VARIED gz_VARIED,
    k_CHOICES := KeysT.mk' X G h_CHOICES hl_CHOICES he_CHOICES hk_CHOICES hs_CHOICES
  }
  have F := fun_mk (st := s_law) l30 c30 k30
  exact ⟨_, _, fun s u => .of_eq rfl, fun base => fn_law T F⟩
end K02

set_option Elab.async false
set_option linter.all false
open PySem PySem.W PyProof.Rows in
set_option maxRecDepth 100000 in
set_option maxHeartbeats 0 in
theorem PySem.Challenge.cw_bookshandled_k02_plays_holds : PySem.Challenge.rw_bookshandled_k02_plays.Holds := by
  w_on; o_law; k_head; (case hw => w_witness2)
  k_fill
  refine BH.law_ends (l := PySem.Challenge.rw_bookshandled_k02_plays) (lm := K02.m_law) (k := 5) rfl rfl ⟨rfl, by decide, by decide⟩ (fun w h Y => PySem.W.kIn_of Y) ?F K02.law_true
  case F =>
    intro w mg fa h KX G hmg
    refine' K02.all_mk KX G hmg ?aC0 ?aC1 ?a0 ?l0 ?c0 ?k0 ?a1 ?l1 ?c1 ?k1 ?a2 ?l2 ?c2 ?k2 ?a3 ?i3 ?l3 ?c3 ?k3 ?a4 ?i4 ?l4 ?c4 ?k4 ?a5 ?l5 ?c5 ?k5 ?a6 ?l6 ?c6 ?k6 ?a7 ?l7 ?c7 ?k7 ?a8 ?l8 ?c8 ?k8 ?a9 ?l9 ?c9 ?k9 ?a10 ?i10 ?l10 ?c10 ?k10 ?a11 ?l11 ?c11 ?k11 ?a12 ?l12 ?c12 ?k12 ?a13 ?l13 ?c13 ?k13 ?a14 ?l14 ?c14 ?k14 ?a15 ?l15 ?c15 ?k15 ?a16 ?l16 ?c16 ?k16 ?a17 ?l17 ?c17 ?k17 ?a18 ?l18 ?c18 ?k18 ?a19 ?l19 ?c19 ?k19 ?a20 ?l20 ?c20 ?k20 ?a21 ?l21 ?c21 ?k21 ?a22 ?i22 ?l22 ?c22 ?k22 ?a23 ?i23 ?l23 ?c23 ?k23 ?a24 ?i24 ?l24 ?c24 ?k24 ?a25 ?i25 ?l25 ?c25 ?k25 ?a26 ?i26 ?l26 ?c26 ?k26 ?a27 ?i27 ?l27 ?c27 ?k27 ?a28 ?i28 ?l28 ?c28 ?k28 ?mk1 ?kc1 ?a29 ?i29 ?l29 ?c29 ?k29 ?mk0 ?kc0 ?a30 ?l30 ?c30 ?k30 ?pg0 ?hd0 ?po0 ?sa0 ?pg1 ?hd1 ?po1 ?sa1 ?n1_book ?n1_deeds ?n0_kernel ?n0_layers ?n1_script ?n0_size ?n1_state ?n1_taken ?n1_trail ?z_abs ?z_all ?z_bool ?z_enumerate ?z_int ?z_isinstance ?z_len ?z_list ?z_range ?z_tuple ?g_KEPT ?gl_KEPT ?ge_KEPT ?gz_KEPT ?g_LETTERS ?g_MOST_LAYERS ?g_MOST_STARTS ?g_VARIED ?gl_VARIED ?ge_VARIED ?gz_VARIED ?h_CHOICES ?hl_CHOICES ?he_CHOICES ?hk_CHOICES ?hs_CHOICES
    (case aC0 => k_is)
    (case aC1 => k_is)
    (case a0 => k_is)
    (case l0 => k_is)
    (case c0 => k_is)
    (case k0 => k_is)
    (case a1 => k_is)
    (case l1 => k_is)
    (case c1 => k_is)
    (case k1 => k_is)
    (case a2 => k_is)
    (case l2 => k_is)
    (case c2 => k_is)
    (case k2 => k_is)
    (case a3 => k_is)
    (case i3 => k_is)
    (case l3 => k_is)
    (case c3 => k_is)
    (case k3 => k_is)
    (case a4 => k_is)
    (case i4 => k_is)
    (case l4 => k_is)
    (case c4 => k_is)
    (case k4 => k_is)
    (case a5 => k_is)
    (case l5 => k_is)
    (case c5 => k_is)
    (case k5 => k_is)
    (case a6 => k_is)
    (case l6 => k_is)
    (case c6 => k_is)
    (case k6 => k_is)
    (case a7 => k_is)
    (case l7 => k_is)
    (case c7 => k_is)
    (case k7 => k_is)
    (case a8 => k_is)
    (case l8 => k_is)
    (case c8 => k_is)
    (case k8 => k_is)
    (case a9 => k_is)
    (case l9 => k_is)
    (case c9 => k_is)
    (case k9 => k_is)
    (case a10 => k_is)
    (case i10 => k_is)
    (case l10 => k_is)
    (case c10 => k_is)
    (case k10 => k_is)
    (case a11 => k_is)
    (case l11 => k_is)
    (case c11 => k_is)
    (case k11 => k_is)
    (case a12 => k_is)
    (case l12 => k_is)
    (case c12 => k_is)
    (case k12 => k_is)
    (case a13 => k_is)
    (case l13 => k_is)
    (case c13 => k_is)
    (case k13 => k_is)
    (case a14 => k_is)
    (case l14 => k_is)
    (case c14 => k_is)
    (case k14 => k_is)
    (case a15 => k_is)
    (case l15 => k_is)
    (case c15 => k_is)
    (case k15 => k_is)
    (case a16 => k_is)
    (case l16 => k_is)
    (case c16 => k_is)
    (case k16 => k_is)
    (case a17 => k_is)
    (case l17 => k_is)
    (case c17 => k_is)
    (case k17 => k_is)
    (case a18 => k_is)
    (case l18 => k_is)
    (case c18 => k_is)
    (case k18 => k_is)
    (case a19 => k_is)
    (case l19 => k_is)
    (case c19 => k_is)
    (case k19 => k_is)
    (case a20 => k_is)
    (case l20 => k_is)
    (case c20 => k_is)
    (case k20 => k_is)
    (case a21 => k_is)
    (case l21 => k_is)
    (case c21 => k_is)
    (case k21 => k_is)
    (case a22 => k_is)
    (case i22 => k_is)
    (case l22 => k_is)
    (case c22 => k_is)
    (case k22 => k_is)
    (case a23 => k_is)
    (case i23 => k_is)
    (case l23 => k_is)
    (case c23 => k_is)
    (case k23 => k_is)
    (case a24 => k_is)
    (case i24 => k_is)
    (case l24 => k_is)
    (case c24 => k_is)
    (case k24 => k_is)
    (case a25 => k_is)
    (case i25 => k_is)
    (case l25 => k_is)
    (case c25 => k_is)
    (case k25 => k_is)
    (case a26 => k_is)
    (case i26 => k_is)
    (case l26 => k_is)
    (case c26 => k_is)
    (case k26 => k_is)
    (case a27 => k_is)
    (case i27 => k_is)
    (case l27 => k_is)
    (case c27 => k_is)
    (case k27 => k_is)
    (case a28 => k_is)
    (case i28 => k_is)
    (case l28 => k_is)
    (case c28 => k_is)
    (case k28 => k_is)
    (case mk1 => k_is)
    (case kc1 => k_is)
    (case a29 => k_is)
    (case i29 => k_is)
    (case l29 => k_is)
    (case c29 => k_is)
    (case k29 => k_is)
    (case mk0 => k_is)
    (case kc0 => k_is)
    (case a30 => k_is)
    (case l30 => k_is)
    (case c30 => k_is)
    (case k30 => k_is)
    (case pg0 => k_is)
    (case hd0 => k_is)
    (case po0 => k_is)
    (case sa0 => k_is)
    (case pg1 => k_is)
    (case hd1 => k_is)
    (case po1 => k_is)
    (case sa1 => k_is)
    (case n1_book => k_is)
    (case n1_deeds => k_is)
    (case n0_kernel => k_is)
    (case n0_layers => k_is)
    (case n1_script => k_is)
    (case n0_size => k_is)
    (case n1_state => k_is)
    (case n1_taken => k_is)
    (case n1_trail => k_is)
    (case z_abs => k_is)
    (case z_all => k_is)
    (case z_bool => k_is)
    (case z_enumerate => k_is)
    (case z_int => k_is)
    (case z_isinstance => k_is)
    (case z_len => k_is)
    (case z_list => k_is)
    (case z_range => k_is)
    (case z_tuple => k_is)
    (case g_KEPT => k_is)
    (case gl_KEPT => k_is)
    (case ge_KEPT => rfl)
    (case gz_KEPT => decide)
    (case g_LETTERS => k_is)
    (case g_MOST_LAYERS => k_is)
    (case g_MOST_STARTS => k_is)
    (case g_VARIED => k_is)
    (case gl_VARIED => k_is)
    (case ge_VARIED => rfl)
    (case gz_VARIED => decide)
    (case h_CHOICES => k_is)
    (case hl_CHOICES => k_is)
    (case he_CHOICES => rfl)
    (case hk_CHOICES => (repeat (first | exact trivial | refine ⟨⟨_, _, rfl, rfl⟩, ?_⟩)))
    (case hs_CHOICES => decide)
