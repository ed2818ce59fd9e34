import PyProof.Rows.All
import Wide.All
import OpenK.AllK
import Wide.FinOn
import HandS.ForMost
import HandS.ForExc
import HandS.CallSlots
import HandS.TupAny
import HandS.TupMul
import HandS.Flow
import HandS.Wide
import HandS.IsInst
import PyProof.StrOps2
import HandS.Zip
import HandS.Rev
import KE.GoesEnum
import KE.GoesMore
import HandS.More
import HandS.Conv
import HandS.Flt
import KE.DatumOrd
import HandS.TryOnly
import HandS.ExcOwn
import PyProof.RulesMatch
import PyProof.Rows.MatchSeqLen
import PyProof.CollectIter
import PyProof.WalksMore
import PyProof.MakeMany
import HandS.Style
import HandS.Strs
import PySem.Challenge.RW_bookshandled_k17_codes
set_option Elab.async false
set_option linter.all false
set_option maxRecDepth 100000
set_option autoImplicit false
/-! The plain machine: values as trees, a store of mutable objects by number; how its state stands for the layer's abstract heap. -/
namespace BH
open PySem PySem.Spec PyProof.Rows L2

inductive MV where
  | non | bl (b : Bool) | int (i : Int) | str (x : Str) | tup (xs : List MV) | ref (a : Nat) | ty (n : String)

inductive MO where
  | lst (xs : List MV)
  | rol (xs : List MV)
  | ins (c : Nat) (fs : List (Str × MV))
  | dct (kvs : List (L2.Key × MV))

abbrev Mst := List MO
abbrev Mfs := List (Str × MV)
inductive Res (α : Type) where
  | ok (a : α) (st : Mst)
  | ex (c : Nat) (fs : Mfs) (st : Mst)
  | bad
abbrev M (α : Type) := Mst → Res α
def Res.bind {α β : Type} (r : Res α) (f : α → Mst → Res β) : Res β :=
  match r with
  | .ok a st => f a st
  | .ex c fs st => .ex c fs st
  | .bad => .bad
@[simp] theorem Res.bind_ok {α β : Type} (a : α) (st : Mst) (f : α → Mst → Res β) : (Res.ok a st).bind f = f a st := rfl
@[simp] theorem Res.bind_ex {α β : Type} (c : Nat) (fs : Mfs) (st : Mst) (f : α → Mst → Res β) : (Res.ex c fs st).bind f = .ex c fs st := rfl
@[simp] theorem Res.bind_bad {α β : Type} (f : α → Mst → Res β) : (Res.bad : Res α).bind f = .bad := rfl
abbrev Env := List (Option MV)
abbrev ME := Env → M MV

/-! ### how a value stands for the layer's -/
mutual
def RV (K : PySem.W.Frag) (β : List Addr) (H : Hp) : MV → V → Prop
  | .non, v => v = .non
  | .bl b, v => v = .bl b
  | .int i, v => v = .int i
  | .str x, v => v = .str x
  | .tup xs, v => ∃ p ys, v = .ref p ∧ SqT K H p ys ∧ RVs K β H xs ys
  | .ref a, v => ∃ p, β[a]? = some p ∧ v = .ref p
  | .ty n, v => v = .ty n
def RVs (K : PySem.W.Frag) (β : List Addr) (H : Hp) : List MV → List V → Prop
  | [], ys => ys = []
  | x :: xs, ys => ∃ y r, ys = y :: r ∧ RV K β H x y ∧ RVs K β H xs r
end

structure Ext (K : PySem.W.Frag) (β β' : List Addr) (H H' : Hp) : Prop where
  pre : ∀ (i : Nat) (p : Addr), β[i]? = some p → β'[i]? = some p
  tup : ∀ p xs, SqT K H p xs → SqT K H' p xs

section
variable {K : PySem.W.Frag} {β β' β2 : List Addr} {H H' H2 : Hp}
theorem Ext.refl : Ext K β β H H := ⟨fun _ _ h => h, fun _ _ h => h⟩
theorem Ext.trans (a : Ext K β β' H H') (b : Ext K β' β2 H' H2) : Ext K β β2 H H2 := ⟨fun i p h => b.pre i p (a.pre i p h), fun p xs h => b.tup p xs (a.tup p xs h)⟩
mutual
theorem RV.mono (e : Ext K β β' H H') : ∀ {x : MV} {v : V}, RV K β H x v → RV K β' H' x v
  | .non, _, h => h
  | .bl _, _, h => h
  | .int _, _, h => h
  | .str _, _, h => h
  | .tup _, _, ⟨p, ys, e1, h1, h2⟩ => ⟨p, ys, e1, e.tup p ys h1, RVs.mono e h2⟩
  | .ref _, _, ⟨p, h1, h2⟩ => ⟨p, e.pre _ _ h1, h2⟩
  | .ty _, _, h => h
theorem RVs.mono (e : Ext K β β' H H') : ∀ {xs : List MV} {ys : List V}, RVs K β H xs ys → RVs K β' H' xs ys
  | [], _, h => h
  | _ :: _, _, ⟨y, r, e1, h1, h2⟩ => ⟨y, r, e1, RV.mono e h1, RVs.mono e h2⟩
end
theorem RVs.length : ∀ {xs : List MV} {ys : List V}, RVs K β H xs ys → ys.length = xs.length
  | [], _, h => by cases (show _ = _ from h); rfl
  | _ :: _, _, ⟨y, r, e1, h1, h2⟩ => by subst e1; simp [RVs.length h2]
theorem RVs.get : ∀ {xs : List MV} {ys : List V} {i : Nat} {x : MV}, RVs K β H xs ys → xs[i]? = some x → ∃ y, ys[i]? = some y ∧ RV K β H x y
  | [], _, i, x, _, h => by simp at h
  | _ :: _, _, 0, x, ⟨y, r, e1, h1, _⟩, h => by
    subst e1
    simp at h
    subst h
    exact ⟨y, rfl, h1⟩
  | _ :: _, _, i + 1, x, ⟨y, r, e1, _, h2⟩, h => by
    subst e1
    simpa using RVs.get h2 (by simpa using h)
theorem RVs.get' : ∀ {xs : List MV} {ys : List V} {i : Nat} {y : V}, RVs K β H xs ys → ys[i]? = some y → ∃ x, xs[i]? = some x ∧ RV K β H x y
  | [], _, i, y, h, q => by cases (show _ = _ from h); simp at q
  | x :: _, _, 0, y, ⟨y', r, e1, h1, _⟩, q => by
    subst e1
    simp at q
    subst q
    exact ⟨x, rfl, h1⟩
  | _ :: _, _, i + 1, y, ⟨y', r, e1, _, h2⟩, q => by
    subst e1
    simpa using RVs.get' h2 (by simpa using q)
theorem RVs.append : ∀ {xs zs : List MV} {ys ws : List V}, RVs K β H xs ys → RVs K β H zs ws → RVs K β H (xs ++ zs) (ys ++ ws)
  | [], _, _, _, h, q => by cases (show _ = _ from h); exact q
  | _ :: _, _, _, _, ⟨y, r, e1, h1, h2⟩, q => by subst e1; exact ⟨y, _, rfl, h1, RVs.append h2 q⟩
theorem RVs.one {x : MV} {v : V} (h : RV K β H x v) : RVs K β H [x] [v] := ⟨v, [], rfl, h, rfl⟩
theorem RVs.take : ∀ {xs : List MV} {ys : List V} (n : Nat), RVs K β H xs ys → RVs K β H (xs.take n) (ys.take n)
  | [], _, n, h => by cases (show _ = _ from h); simp [RVs]
  | _ :: _, _, 0, _ => by simp [RVs]
  | _ :: _, _, n + 1, ⟨y, r, e1, h1, h2⟩ => by subst e1; exact ⟨y, _, rfl, h1, RVs.take n h2⟩
theorem RVs.drop : ∀ {xs : List MV} {ys : List V} (n : Nat), RVs K β H xs ys → RVs K β H (xs.drop n) (ys.drop n)
  | [], _, n, h => by cases (show _ = _ from h); simp [RVs]
  | _ :: _, _, 0, h => h
  | _ :: _, _, n + 1, ⟨y, r, e1, h1, h2⟩ => by subst e1; exact RVs.drop n h2
theorem RVs.set : ∀ {xs : List MV} {ys : List V} {x : MV} {v : V} (n : Nat), RVs K β H xs ys → RV K β H x v → RVs K β H (xs.set n x) (ys.set n v)
  | [], _, _, _, n, h, _ => by cases (show _ = _ from h); simp [RVs]
  | _ :: _, _, x, v, 0, ⟨y, r, e1, _, h2⟩, q => by subst e1; exact ⟨v, _, rfl, q, h2⟩
  | _ :: _, _, x, v, n + 1, ⟨y, r, e1, h1, h2⟩, q => by subst e1; exact ⟨y, _, rfl, h1, RVs.set n h2 q⟩
theorem RVs.reverse : ∀ {xs : List MV} {ys : List V}, RVs K β H xs ys → RVs K β H xs.reverse ys.reverse
  | [], _, h => by cases (show _ = _ from h); simp [RVs]
  | _ :: _, _, ⟨y, r, e1, h1, h2⟩ => by
    subst e1
    rw [List.reverse_cons, List.reverse_cons]
    exact RVs.append (RVs.reverse h2) (RVs.one h1)
theorem RVs.flat : ∀ {xs : List MV} {ys : List V} (n : Nat), RVs K β H xs ys → RVs K β H (List.replicate n xs).flatten (List.replicate n ys).flatten
  | _, _, 0, _ => by simp [RVs]
  | _, _, n + 1, h => by
    rw [List.replicate_succ, List.replicate_succ, List.flatten_cons, List.flatten_cons]
    exact RVs.append h (RVs.flat n h)
theorem RVs.nil_iff {ys : List V} : RVs K β H [] ys ↔ ys = [] := Iff.rfl
theorem RVs.cons_iff {x : MV} {xs : List MV} {ys : List V} : RVs K β H (x :: xs) ys ↔ ∃ y r, ys = y :: r ∧ RV K β H x y ∧ RVs K β H xs r := Iff.rfl

/-- attributes -/
def RFs (K : PySem.W.Frag) (β : List Addr) (H : Hp) : List (Str × MV) → List (Str × V) → Prop
  | [], ys => ys = []
  | x :: xs, ys => ∃ y r, ys = (x.1, y) :: r ∧ RV K β H x.2 y ∧ RFs K β H xs r
/-- what a dict holds -/
def RDs (K : PySem.W.Frag) (β : List Addr) (H : Hp) : List (L2.Key × MV) → List (L2.Key × V) → Prop
  | [], ys => ys = []
  | x :: xs, ys => ∃ y r, ys = (x.1, y) :: r ∧ RV K β H x.2 y ∧ RDs K β H xs r
theorem RDs.mono (e : Ext K β β' H H') : ∀ {xs : List (L2.Key × MV)} {ys : List (L2.Key × V)}, RDs K β H xs ys → RDs K β' H' xs ys
  | [], _, h => h
  | _ :: _, _, ⟨y, r, e1, h1, h2⟩ => ⟨y, r, e1, h1.mono e, RDs.mono e h2⟩
theorem RFs.mono (e : Ext K β β' H H') : ∀ {xs : Mfs} {ys : List (Str × V)}, RFs K β H xs ys → RFs K β' H' xs ys
  | [], _, h => h
  | _ :: _, _, ⟨y, r, e1, h1, h2⟩ => ⟨y, r, e1, h1.mono e, RFs.mono e h2⟩
theorem RFs.length : ∀ {xs : Mfs} {ys : List (Str × V)}, RFs K β H xs ys → ys.length = xs.length
  | [], _, h => by cases (show _ = _ from h); rfl
  | _ :: _, _, ⟨y, r, e1, h1, h2⟩ => by subst e1; simp [RFs.length h2]
theorem RFs.lookup : ∀ {xs : Mfs} {ys : List (Str × V)} {f : Str} {x : MV}, RFs K β H xs ys → xs.lookup f = some x → ∃ y, ys.lookup f = some y ∧ RV K β H x y
  | [], _, _, _, _, h => by simp at h
  | (g, z) :: xs, _, f, x, ⟨y, r, e1, h1, h2⟩, h => by
    subst e1
    rw [List.lookup_cons] at h ⊢
    split at h
    · rename_i q
      cases h
      rw [q]
      exact ⟨y, rfl, h1⟩
    · rename_i q
      rw [q]
      exact RFs.lookup h2 h
theorem RFs.lookup_none : ∀ {xs : Mfs} {ys : List (Str × V)} {f : Str}, RFs K β H xs ys → xs.lookup f = none → ys.lookup f = none
  | [], _, _, h, _ => by cases (show _ = _ from h); rfl
  | (g, z) :: xs, _, f, ⟨y, r, e1, h1, h2⟩, h => by
    subst e1
    rw [List.lookup_cons] at h ⊢
    split at h
    · cases h
    · rename_i q
      rw [q]
      exact RFs.lookup_none h2 h
def mputF (f : Str) (v : MV) : Mfs → Mfs
  | [] => [(f, v)]
  | (g, x) :: r => if g = f then (g, v) :: r else (g, x) :: mputF f v r
theorem RFs.put {f : Str} {x : MV} {v : V} (hv : RV K β H x v) : ∀ {xs : Mfs} {ys : List (Str × V)}, RFs K β H xs ys → RFs K β H (mputF f x xs) (putF f v ys)
  | [], _, h => by cases (show _ = _ from h); exact ⟨v, [], rfl, hv, rfl⟩
  | (g, z) :: xs, _, ⟨y, r, e1, h1, h2⟩ => by
    subst e1
    show RFs K β H (if g = f then (g, x) :: xs else (g, z) :: mputF f x xs) (if g = f then (g, v) :: r else (g, y) :: putF f v r)
    split
    · exact ⟨v, r, rfl, hv, h2⟩
    · exact ⟨y, _, rfl, h1, RFs.put hv h2⟩
end

/-! ### the store -/
/-- a list that is read, never written: known to the object, or the module's -/
def RoL (K : PySem.W.Frag) (H : Hp) (a : Addr) (ys : List V) : Prop :=
  (∃ o, H a = some (.frz o (.lst ys))) ∨
    ∃ (o : Obj) (its : Array Value) (n : Nat), K.lookup a = some o ∧ o.cls = .type "list" ∧ o.dict = none ∧ o.data = .seq its n ∧ its.size ≤ sizeLine ∧ Vals ys its.toList
theorem RoL.sq {K : PySem.W.Frag} {H : Hp} {a : Addr} {ys : List V} (h : RoL K H a ys) : SqL K H a ys := by
  rcases h with h | h
  · exact .inl (.inr h)
  · exact .inr h
def RO (K : PySem.W.Frag) (cl : Nat → Addr) (β : List Addr) (H : Hp) (p : Addr) : MO → Prop
  | .lst xs => ∃ ys, H p = some (.lst ys) ∧ RVs K β H xs ys
  | .rol xs => ∃ ys, RoL K H p ys ∧ RVs K β H xs ys
  | .ins c fs => ∃ dx gs, H p = some (.ins (cl c) dx gs) ∧ H dx = some (.own p) ∧ RFs K β H fs gs
  | .dct kvs => ∃ ks, H p = some (.dK ks) ∧ RDs K β H kvs ks
def MO.mut : MO → Bool
  | .rol _ => false
  | _ => true
structure RSt (K : PySem.W.Frag) (cl : Nat → Addr) (β : List Addr) (st : Mst) (H : Hp) : Prop where
  len : β.length = st.length
  at_ : ∀ (i : Nat) (o : MO), st[i]? = some o → ∃ p, β[i]? = some p ∧ RO K cl β H p o
  inj : ∀ (i j : Nat) (p : Addr) (o u : MO), β[i]? = some p → β[j]? = some p → st[i]? = some o → st[j]? = some u → o.mut = true → u.mut = true → i = j

section
variable {K : PySem.W.Frag} {cl : Nat → Addr} {β β' : List Addr} {H H' : Hp} {st : Mst}
/-- H' keeps of H what is not changed at q -/
theorem SqT.upd {q : Addr} {o : HO} (hq : H q = none ∨ Mut (H q)) {p : Addr} {xs : List V} (h : SqT K H p xs) : SqT K (upd H q o) p xs := by
  rcases h with (h | ⟨u, h⟩) | h
  · have : p ≠ q := by
      rintro rfl
      rcases hq with e | e
      · rw [e] at h; cases h
      · rw [h] at e; exact e
    exact .inl (.inl (by rw [upd_ne this]; exact h))
  · have : p ≠ q := by
      rintro rfl
      rcases hq with e | e
      · rw [e] at h; cases h
      · rw [h] at e; exact e
    exact .inl (.inr ⟨u, by rw [upd_ne this]; exact h⟩)
  · exact .inr h
theorem RoL.upd {q : Addr} {o : HO} (hq : H q = none ∨ Mut (H q)) {p : Addr} {xs : List V} (h : RoL K H p xs) : RoL K (upd H q o) p xs := by
  rcases h with ⟨u, h⟩ | h
  · have : p ≠ q := by
      rintro rfl
      rcases hq with e | e
      · rw [e] at h; cases h
      · rw [h] at e; exact e
    exact .inl ⟨u, by rw [upd_ne this]; exact h⟩
  · exact .inr h
theorem Ext.upd {q : Addr} {o : HO} (hq : H q = none ∨ Mut (H q)) : Ext K β β H (upd H q o) := ⟨fun _ _ h => h, fun _ _ h => SqT.upd hq h⟩
theorem RO.mut_at {p : Addr} {o : MO} (h : RO K cl β H p o) (m : o.mut = true) : Mut (H p) ∧ (∀ x, H p ≠ some (.own x)) := by
  cases o with
  | lst xs => obtain ⟨ys, e, _⟩ := h; rw [e]; exact ⟨trivial, fun x z => by cases z⟩
  | rol xs => cases m
  | ins c fs => obtain ⟨dx, gs, e, _⟩ := h; rw [e]; exact ⟨trivial, fun x z => by cases z⟩
  | dct kvs => obtain ⟨ys, e, _⟩ := h; rw [e]; exact ⟨trivial, fun x z => by cases z⟩
/-- an object stays where another address is changed -/
theorem RO.keep {q : Addr} {u : HO} (hq : H q = none ∨ Mut (H q)) (e : Ext K β β' H (L2.upd H q u)) {p : Addr} {o : MO} (ne : o.mut = true → p ≠ q) (h : RO K cl β H p o) : RO K cl β' (L2.upd H q u) p o := by
  cases o with
  | lst xs =>
    obtain ⟨ys, e1, e2⟩ := h
    exact ⟨ys, by rw [upd_ne (ne rfl)]; exact e1, e2.mono e⟩
  | rol xs =>
    obtain ⟨ys, e1, e2⟩ := h
    exact ⟨ys, e1.upd hq, e2.mono e⟩
  | ins c fs =>
    obtain ⟨dx, gs, e1, e2, e3⟩ := h
    refine ⟨dx, gs, by rw [upd_ne (ne rfl)]; exact e1, ?_, e3.mono e⟩
    have : dx ≠ q := by
      rintro rfl
      rcases hq with z | z
      · rw [z] at e2; cases e2
      · rw [e2] at z; exact z
    rw [upd_ne this]
    exact e2
  | dct kvs =>
    obtain ⟨ys, e1, e2⟩ := h
    exact ⟨ys, by rw [upd_ne (ne rfl)]; exact e1, e2.mono e⟩
/-- something new that is no object of the store (a tuple, an instance's dict) -/
theorem RSt.side {q : Addr} {u : HO} (R : RSt K cl β st H) (hq : H q = none) : RSt K cl β st (L2.upd H q u) := by
  refine ⟨R.len, fun i o h => ?_, R.inj⟩
  obtain ⟨p, h1, h2⟩ := R.at_ i o h
  refine ⟨p, h1, RO.keep (.inl hq) (.upd (.inl hq)) (fun m => ?_) h2⟩
  rintro rfl
  have := (h2.mut_at m).1
  rw [hq] at this
  exact this
theorem getElem?_snoc {α : Type} {l : List α} {a x : α} {i : Nat} (h : (l ++ [a])[i]? = some x) : l[i]? = some x ∨ (i = l.length ∧ x = a) := by
  by_cases hi : i < l.length
  · rw [List.getElem?_append_left hi] at h
    exact .inl h
  · have hi' : l.length ≤ i := by omega
    rw [List.getElem?_append_right hi'] at h
    have : i - l.length = 0 := by
      cases e : i - l.length with
      | zero => rfl
      | succ n => rw [e] at h; simp at h
    rw [this] at h
    simp at h
    exact .inr ⟨by omega, h.symm⟩
theorem Ext.snoc {q : Addr} {u : HO} (hq : H q = none) : Ext K β (β ++ [q]) H (L2.upd H q u) :=
  ⟨fun i p h => by rw [List.getElem?_append_left (List.getElem?_eq_some_iff.mp h).1]; exact h, fun _ _ h => SqT.upd (.inl hq) h⟩
/-- a new object of the store -/
theorem RSt.snoc {q : Addr} {u : HO} {o : MO} (R : RSt K cl β st H) (hq : H q = none) (h : RO K cl (β ++ [q]) (L2.upd H q u) q o) : RSt K cl (β ++ [q]) (st ++ [o]) (L2.upd H q u) := by
  have ne : ∀ (i : Nat) (p : Addr) (o : MO), β[i]? = some p → st[i]? = some o → o.mut = true → p ≠ q := fun i p o e1 e2 m => by
    obtain ⟨p', h1, h2⟩ := R.at_ i o e2
    rw [e1] at h1
    cases h1
    rintro rfl
    have := (h2.mut_at m).1
    rw [hq] at this
    exact this
  refine ⟨by simp [R.len], fun i v hv => ?_, fun i j p v w h1 h2 h3 h4 m1 m2 => ?_⟩
  · rcases getElem?_snoc hv with hv | ⟨rfl, rfl⟩
    · obtain ⟨p, h1, h2⟩ := R.at_ i v hv
      exact ⟨p, (Ext.snoc (K := K) (u := u) hq).pre _ _ h1, RO.keep (.inl hq) (.snoc hq) (ne i p v h1 hv) h2⟩
    · exact ⟨q, by rw [← R.len]; simp, h⟩
  · rcases getElem?_snoc h1 with h1' | ⟨e1, e1'⟩ <;> rcases getElem?_snoc h2 with h2' | ⟨e2, e2'⟩
    · have l1 := (List.getElem?_eq_some_iff.mp h1').1
      have l2 := (List.getElem?_eq_some_iff.mp h2').1
      rw [List.getElem?_append_left (by rw [← R.len]; exact l1)] at h3
      rw [List.getElem?_append_left (by rw [← R.len]; exact l2)] at h4
      exact R.inj i j p v w h1' h2' h3 h4 m1 m2
    · have l1 := (List.getElem?_eq_some_iff.mp h1').1
      rw [List.getElem?_append_left (by rw [← R.len]; exact l1)] at h3
      exact absurd e2' (ne i p v h1' h3 m1)
    · have l2 := (List.getElem?_eq_some_iff.mp h2').1
      rw [List.getElem?_append_left (by rw [← R.len]; exact l2)] at h4
      exact absurd e1' (ne j p w h2' h4 m2)
    · omega
/-- an object of the store is changed -/
theorem RSt.set {a : Nat} {q : Addr} {u : HO} {o o' : MO} (R : RSt K cl β st H) (ha : β[a]? = some q) (ho : st[a]? = some o) (m : o.mut = true) (m' : o'.mut = true) (h : RO K cl β (L2.upd H q u) q o') : RSt K cl β (st.set a o') (L2.upd H q u) := by
  obtain ⟨q', h1, h2⟩ := R.at_ a o ho
  rw [ha] at h1
  cases h1
  have hm := h2.mut_at m
  have al := (List.getElem?_eq_some_iff.mp ho).1
  refine ⟨by simp [R.len], fun i v hv => ?_, fun i j p v w h1 h2 h3 h4 m1 m2 => ?_⟩
  · by_cases hi : i = a
    · subst hi
      rw [List.getElem?_set_self al] at hv
      cases hv
      exact ⟨q, ha, h⟩
    · rw [List.getElem?_set_ne (fun z => hi z.symm)] at hv
      obtain ⟨p, e1, e2⟩ := R.at_ i v hv
      refine ⟨p, e1, RO.keep (.inr hm.1) (.upd (.inr hm.1)) (fun mv => ?_) e2⟩
      rintro rfl
      exact hi (R.inj i a p v o e1 ha hv ho mv m)
  · have old : ∀ (k : Nat) (z : MO), (st.set a o')[k]? = some z → z.mut = true → ∃ y, st[k]? = some y ∧ y.mut = true := fun k z hz mz => by
      by_cases hk : k = a
      · subst hk
        exact ⟨o, ho, m⟩
      · rw [List.getElem?_set_ne (fun z => hk z.symm)] at hz
        exact ⟨z, hz, mz⟩
    obtain ⟨v', x1, x2⟩ := old i v h3 m1
    obtain ⟨w', y1, y2⟩ := old j w h4 m2
    exact R.inj i j p v' w' h1 h2 x1 y1 x2 y2
theorem RSt.get {a : Nat} {q : Addr} {o : MO} (R : RSt K cl β st H) (ha : β[a]? = some q) (ho : st[a]? = some o) : RO K cl β H q o := by
  obtain ⟨p, h1, h2⟩ := R.at_ a o ho
  rw [ha] at h1
  cases h1
  exact h2
end

/-! ### the names -/
structure REnv (K : PySem.W.Frag) (β : List Addr) (H : Hp) (env : Env) (σ : L2.St) : Prop where
  len : env.length = σ.length
  at_ : ∀ (i : Nat) (v : MV), env[i]? = some (some v) → ∃ w, σ[i]? = some (some w) ∧ RV K β H v w
section
variable {K : PySem.W.Frag} {cl : Nat → Addr} {β β' : List Addr} {H H' : Hp} {env : Env} {σ : L2.St}
theorem REnv.mono (e : Ext K β β' H H') (r : REnv K β H env σ) : REnv K β' H' env σ := ⟨r.len, fun i v h => let ⟨w, h1, h2⟩ := r.at_ i v h; ⟨w, h1, h2.mono e⟩⟩
theorem REnv.set {i : Nat} {v : MV} {w : V} (r : REnv K β H env σ) (h : RV K β H v w) : REnv K β H (env.set i (some v)) (σ.set i (some w)) := by
  refine ⟨by simp [r.len], fun j x hx => ?_⟩
  by_cases hj : i = j
  · subst hj
    by_cases hi : i < env.length
    · rw [List.getElem?_set_self hi] at hx
      cases hx
      exact ⟨w, List.getElem?_set_self (by rw [← r.len]; exact hi), h⟩
    · rw [List.getElem?_eq_none (by rw [List.length_set]; omega)] at hx
      cases hx
  · rw [List.getElem?_set_ne hj] at hx
    rw [List.getElem?_set_ne hj]
    exact r.at_ j x hx
end

/-! ### an end, on both sides -/
section
variable {α γ : Type}
def Fin (K : PySem.W.Frag) (cl : Nat → Addr) (β : List Addr) (H : Hp) (r : Res α) (k : α → Mst → List Addr → Hp → Prop) (ke : Nat → Mfs → Mst → List Addr → Hp → Prop) : Prop :=
  match r with
  | .ok a st => ∀ β' H', Ext K β β' H H' → RSt K cl β' st H' → k a st β' H'
  | .ex c fs st => ∀ β' H', Ext K β β' H H' → RSt K cl β' st H' → ke c fs st β' H'
  | .bad => False
variable {K : PySem.W.Frag} {cl : Nat → Addr} {β β' : List Addr} {H H' : Hp} {r : Res α} {k k' : α → Mst → List Addr → Hp → Prop} {ke ke' : Nat → Mfs → Mst → List Addr → Hp → Prop}
theorem Fin.weak (e : Ext K β β' H H') (h : Fin K cl β H r k ke) : Fin K cl β' H' r k ke := by
  cases r with
  | ok a st => exact fun β2 H2 e2 => h β2 H2 (e.trans e2)
  | ex c fs st => exact fun β2 H2 e2 => h β2 H2 (e.trans e2)
  | bad => exact h
theorem Fin.imp (h : Fin K cl β H r k ke) (hk : ∀ a st β' H', Ext K β β' H H' → RSt K cl β' st H' → k a st β' H' → k' a st β' H') (he : ∀ c fs st β' H', Ext K β β' H H' → RSt K cl β' st H' → ke c fs st β' H' → ke' c fs st β' H') : Fin K cl β H r k' ke' := by
  cases r with
  | ok a st => exact fun β2 H2 e2 r2 => hk _ _ _ _ e2 r2 (h β2 H2 e2 r2)
  | ex c fs st => exact fun β2 H2 e2 r2 => he _ _ _ _ _ e2 r2 (h β2 H2 e2 r2)
  | bad => exact h
theorem Fin.bind {r : Res α} {f : α → Mst → Res γ} {k : γ → Mst → List Addr → Hp → Prop} (h : Fin K cl β H (r.bind f) k ke) : Fin K cl β H r (fun a st β' H' => Fin K cl β' H' (f a st) k ke) ke := by
  cases r with
  | ok a st => exact fun β2 H2 e2 _ => Fin.weak e2 h
  | ex c fs st => exact h
  | bad => exact h
theorem Fin.here {a : α} {st : Mst} (h : Fin K cl β H (.ok a st) k ke) (R : RSt K cl β st H) : k a st β H := h β H .refl R
theorem Fin.at {a : α} {st : Mst} (h : Fin K cl β H (.ok a st) k ke) (e : Ext K β β' H H') (R : RSt K cl β' st H') : k a st β' H' := h β' H' e R
end
end BH

set_option Elab.async false
set_option linter.all false
set_option maxRecDepth 100000
set_option autoImplicit false
set_option maxHeartbeats 1000000
namespace BH
open PySem PySem.Spec PyProof.Rows L2

theorem PE.weaken {X : Cx} {e : Expr} {t t' : TE} (h : PE X e t) (i : ∀ σ H Q, t' σ H Q → t σ H Q) : PE X e t' := ⟨fun pins s σ H Q I hw => h.run pins s σ H Q I (i _ _ _ hw)⟩
theorem PT.weaken {X : Cx} {e : Expr} {t t' : TT} (h : PT X e t) (i : ∀ σ H Q, t' σ H Q → t σ H Q) : PT X e t' := ⟨fun pins s σ H Q I hw => h.run pins s σ H Q I (i _ _ _ hw)⟩
theorem OpR.weaken {X : Cx} {f : Value → Value → Sem Value} {r r' : R2} (h : OpR X f r) (i : ∀ x y H Q, r' x y H Q → r x y H Q) : OpR X f r' := fun pins s σ H x y v u Q I rx ry hw => h pins s σ H x y v u Q I rx ry (i _ _ _ _ hw)

/-! ### readings -/
section
variable (K : PySem.W.Frag) (cl : Nat → Addr)
/-- what is known of an exception: its own dict -/
def RX (β : List Addr) (H : Hp) (fs : Mfs) : Option Addr → Prop
  | none => fs = []
  | some p => ∃ gs, H p = some (.xd gs) ∧ RFs K β H fs gs
def kV (Q : VK) : MV → Mst → List Addr → Hp → Prop := fun v _ β' H' => ∀ w, RV K β' H' v w → Q w H'
def kX (W : WX) (σ : L2.St) : Nat → Mfs → Mst → List Addr → Hp → Prop := fun c fs _ β' H' => ∀ d, RX K β' H' fs d → W (.ref (cl c)) d σ H'
def kNo : Nat → Mfs → Mst → List Addr → Hp → Prop := fun _ _ _ _ _ => False
def tM (W : WX) (m : ME) : TE := fun σ H Q => ∃ β env st, REnv K β H env σ ∧ RSt K cl β st H ∧ Fin K cl β H (m env st) (kV K Q) (kX K cl W σ)
def rG2 (g : MV → MV → M MV) : R2 := fun x y H Q => ∃ β u v st, RV K β H u x ∧ RV K β H v y ∧ RSt K cl β st H ∧ Fin K cl β H (g u v st) (kV K Q) kNo
def rG1 (g : MV → M MV) : V → Hp → VK → Prop := fun x H Q => ∃ β u st, RV K β H u x ∧ RSt K cl β st H ∧ Fin K cl β H (g u st) (kV K Q) kNo
def rGs (g : List MV → M MV) : List V → Hp → VK → Prop := fun xs H Q => ∃ β us st, RVs K β H us xs ∧ RSt K cl β st H ∧ Fin K cl β H (g us st) (kV K Q) kNo
/-- a test -/
abbrev MT := Env → M Bool
def tMT (W : WX) (m : MT) : TT := fun σ H Q => ∃ β env st, REnv K β H env σ ∧ RSt K cl β st H ∧ Fin K cl β H (m env st) (fun b _ _ H' => Q b H') (kX K cl W σ)
abbrev MA := Env → M (List MV)
def tMA (W : WX) (m : MA) : TA := fun σ H Q => ∃ β env st, REnv K β H env σ ∧ RSt K cl β st H ∧ Fin K cl β H (m env st) (fun vs _ β' H' => ∀ ws, RVs K β' H' vs ws → Q ws H') (kX K cl W σ)
end
def SE (X : Cx) (cl : Nat → Addr) (W : WX) (e : Expr) (m : ME) : Prop := PE X e (tM X.K cl W m)
def ST (X : Cx) (cl : Nat → Addr) (W : WX) (e : Expr) (m : MT) : Prop := PT X e (tMT X.K cl W m)
def SA (X : Cx) (cl : Nat → Addr) (W : WX) (es : List Expr) (m : MA) : Prop := PA X es (tMA X.K cl W m)
structure OpG (X : Cx) (cl : Nat → Addr) (f : Value → Value → Sem Value) (g : MV → MV → M MV) : Prop where
  run : OpR X f (rG2 X.K cl g)
  nx : ∀ u v st c fs st', g u v st ≠ .ex c fs st'
structure CallG (X : Cx) (cl : Nat → Addr) (f : Value) (g : List MV → M MV) : Prop where
  run : CallR X f (rGs X.K cl g)
  nx : ∀ us st c fs st', g us st ≠ .ex c fs st'

section
variable {K : PySem.W.Frag} {cl : Nat → Addr} {β : List Addr} {H : Hp} {st : Mst} {Q : VK} {ke : Nat → Mfs → Mst → List Addr → Hp → Prop}
theorem fin_val {v : MV} {w : V} (F : Fin K cl β H (.ok v st) (kV K Q) ke) (R : RSt K cl β st H) (h : RV K β H v w) : Q w H := F.here R w h
theorem fin_tup {zs : List MV} {ys : List V} {p : Addr} (F : Fin K cl β H (.ok (.tup zs) st) (kV K Q) ke) (R : RSt K cl β st H) (h : RVs K β H zs ys) (hp : H p = none) : Q (.ref p) (upd H p (.tup ys)) :=
  F.at (.upd (.inl hp)) (R.side hp) _ ⟨p, ys, rfl, SqT.of upd_same, h.mono (.upd (.inl hp))⟩
theorem fin_lst {zs : List MV} {ys : List V} {p : Addr} (F : Fin K cl β H (.ok (.ref st.length) (st ++ [.lst zs])) (kV K Q) ke) (R : RSt K cl β st H) (h : RVs K β H zs ys) (hp : H p = none) : Q (.ref p) (upd H p (.lst ys)) :=
  F.at (.snoc hp) (R.snoc hp ⟨ys, upd_same, h.mono (.snoc hp)⟩) _ ⟨p, by rw [← R.len]; simp, rfl⟩
theorem fin_set {a : Nat} {q : Addr} {v : MV} {w : V} {o : MO} {zs : List MV} {ys : List V} (F : Fin K cl β H (.ok v (st.set a (.lst zs))) (kV K Q) ke) (R : RSt K cl β st H) (ha : β[a]? = some q) (ho : st[a]? = some o) (m : o.mut = true) (h : RVs K β H zs ys) (hv : RV K β H v w) : Q w (upd H q (.lst ys)) := by
  have hm : Mut (H q) := ((R.get ha ho).mut_at m).1
  exact F.at (.upd (.inr hm)) (R.set ha ho m rfl ⟨ys, upd_same, h.mono (.upd (.inr hm))⟩) _ (hv.mono (.upd (.inr hm)))
theorem RV.ref_of {a : Nat} {x : V} (h : RV K β H (.ref a) x) : ∃ p, β[a]? = some p ∧ x = .ref p := h
theorem RV.tup_of {zs : List MV} {x : V} (h : RV K β H (.tup zs) x) : ∃ p ys, x = .ref p ∧ SqT K H p ys ∧ RVs K β H zs ys := h
end

/-! ### plain machine: small pieces -/
def getO : Option (Option MV) → M MV
  | some (some v) => .ok v
  | _ => fun _ => .bad
@[simp] theorem getO_some (v : MV) (st : Mst) : getO (some (some v)) st = .ok v st := rfl
def mVar (i : Nat) : ME := fun env => getO env[i]?
def mC (v : MV) : ME := fun _ st => .ok v st
def mBin (g : MV → MV → M MV) (a b : ME) : ME := fun env st => (a env st).bind fun x s1 => (b env s1).bind fun y s2 => g x y s2
def mUn (g : MV → M MV) (a : ME) : ME := fun env st => (a env st).bind fun x s1 => g x s1
def toB : MV → M Bool
  | .bl b, st => .ok b st
  | _, _ => .bad
@[simp] theorem toB_bl (b : Bool) (st : Mst) : toB (.bl b) st = .ok b st := rfl
def mTest (a : ME) : MT := fun env st => (a env st).bind toB
def mNil : MA := fun _ st => .ok [] st
def mCons (a : ME) (r : MA) : MA := fun env st => (a env st).bind fun x s1 => (r env s1).bind fun xs s2 => .ok (x :: xs) s2
def mTup (r : MA) : ME := fun env st => (r env st).bind fun xs s1 => if xs.length ≤ 16777216 then .ok (.tup xs) s1 else .bad
def newL (xs : List MV) : M MV := fun st => if xs.length ≤ 16777216 then .ok (.ref st.length) (st ++ [.lst xs]) else .bad
def mLst (r : MA) : ME := fun env st => (r env st).bind fun xs s1 => newL xs s1
def mCallB (g : List MV → M MV) (r : MA) : ME := fun env st => (r env st).bind g
def mAnd (a b : MT) : MT := fun env st => (a env st).bind fun c s1 => if c = true then b env s1 else .ok false s1
def mOr (a b : MT) : MT := fun env st => (a env st).bind fun c s1 => if c = true then .ok true s1 else b env s1
def mNot (a : MT) : MT := fun env st => (a env st).bind fun c s1 => .ok (!c) s1
def mIf (c : MT) (a b : ME) : ME := fun env st => (c env st).bind fun k s1 => if k = true then a env s1 else b env s1
/-- a test as a value (a bool) -/
def mTV (a : MT) : ME := fun env st => (a env st).bind fun c s1 => .ok (.bl c) s1

section
variable {X : Cx} {cl : Nat → Addr} {W : WX} {e a b : Expr} {m ma mb : ME} {pos : Pos}

theorem se_var (i : Nat) {x : Str} {pos : Pos} (hN : X.N[i]? = some x := by rfl) (hv : Vis X.env.scope x := by first | exact Or.inl rfl | exact Or.inr (Or.inl rfl) | exact Or.inr (Or.inr rfl)) (hd : (x == ("__debug__" : Str)) = false := by decide)
    (hcd : (x == ("__classdict__" : Str)) = false := by decide) : SE X cl W (.Name x pos) (mVar i) := by
  refine PE.weaken (pe_var hN hv hd hcd) fun σ H Q ⟨β, env, st, re, R, F⟩ => ?_
  unfold mVar at F
  cases h : env[i]? with
  | none => rw [h] at F; exact F.elim
  | some o =>
    cases o with
    | none => rw [h] at F; exact F.elim
    | some v =>
      rw [h] at F
      obtain ⟨w, h1, h2⟩ := re.at_ i v h
      exact ⟨w, h1, fin_val F R h2⟩
theorem se_int {i j pos} : SE X cl W (.Constant (.int i) j pos) (mC (.int i)) := PE.weaken pe_int fun σ H Q ⟨β, env, st, re, R, F⟩ => fin_val F R (show _ = _ from rfl)
theorem se_bl {i j pos} : SE X cl W (.Constant (.bool i) j pos) (mC (.bl i)) := PE.weaken pe_bl fun σ H Q ⟨β, env, st, re, R, F⟩ => fin_val F R (show _ = _ from rfl)
theorem se_str {i j pos} : SE X cl W (.Constant (.str i) j pos) (mC (.str i)) := PE.weaken pe_str fun σ H Q ⟨β, env, st, re, R, F⟩ => fin_val F R (show _ = _ from rfl)
theorem se_non {j pos} : SE X cl W (.Constant .none j pos) (mC .non) := PE.weaken pe_non fun σ H Q ⟨β, env, st, re, R, F⟩ => fin_val F R (show _ = _ from rfl)
/-- a module's constant: a scalar, or a tuple of the written part -/
def RK (K : PySem.W.Frag) (v : MV) (w : V) : Prop := ∀ β H, RV K β H v w
theorem se_glob {x : Str} {v : MV} {w : V} {u : Value} {pos : Pos} (hg : Gl X x) (hm : X.mg x = some u) (r : RelV w u) (h : RK X.K v w) (hd : (x == ("__debug__" : Str)) = false := by decide) : SE X cl W (.Name x pos) (mC v) :=
  PE.weaken (pe_glob hg hm r hd) fun σ H Q ⟨β, env, st, re, R, F⟩ => fin_val F R (h β H)

/-- code that no run comes to -/
theorem se_any {e : Expr} : SE X cl W e (fun _ _ => .bad) := ⟨fun pins s σ H Q I ⟨β, env, st, re, R, F⟩ => F.elim⟩


theorem fin_no {α : Type} {K : PySem.W.Frag} {β : List Addr} {H : Hp} {r : Res α} {k : α → Mst → List Addr → Hp → Prop} {ke ke' : Nat → Mfs → Mst → List Addr → Hp → Prop} (n : ∀ c fs st', r ≠ .ex c fs st') (F : Fin K cl β H r k ke) : Fin K cl β H r k ke' := by
  cases r with
  | ok v st => exact F
  | ex c fs st => exact absurd rfl (n c fs st)
  | bad => exact F.elim
theorem tM_bind {K : PySem.W.Frag} {α : Type} {ma : ME} {f : MV → M α} {β : List Addr} {env : Env} {st : Mst} {σ : L2.St} {H : Hp} {k : α → Mst → List Addr → Hp → Prop} (re : REnv K β H env σ) (R : RSt K cl β st H)
    (F : Fin K cl β H ((ma env st).bind f) k (kX K cl W σ)) {Q' : VK}
    (h : ∀ x w β' H' st', Ext K β β' H H' → RV K β' H' x w → REnv K β' H' env σ → RSt K cl β' st' H' → Fin K cl β' H' (f x st') k (kX K cl W σ) → Q' w H') : tM K cl W ma σ H Q' :=
  ⟨β, env, st, re, R, F.bind.imp (fun x st' β' H' e R' F' w rw => h x w β' H' st' e rw (re.mono e) R' F') fun c fs st' β' H' _ _ q => q⟩
theorem tMT_bind {K : PySem.W.Frag} {α : Type} {ma : MT} {f : Bool → M α} {β : List Addr} {env : Env} {st : Mst} {σ : L2.St} {H : Hp} {k : α → Mst → List Addr → Hp → Prop} (re : REnv K β H env σ) (R : RSt K cl β st H)
    (F : Fin K cl β H ((ma env st).bind f) k (kX K cl W σ)) {Q' : Bool → Hp → Prop}
    (h : ∀ x β' H' st', Ext K β β' H H' → REnv K β' H' env σ → RSt K cl β' st' H' → Fin K cl β' H' (f x st') k (kX K cl W σ) → Q' x H') : tMT K cl W ma σ H Q' :=
  ⟨β, env, st, re, R, F.bind.imp (fun x st' β' H' e R' F' => h x β' H' st' e (re.mono e) R' F') fun c fs st' β' H' _ _ q => q⟩
theorem tMA_bind {K : PySem.W.Frag} {α : Type} {ma : MA} {f : List MV → M α} {β : List Addr} {env : Env} {st : Mst} {σ : L2.St} {H : Hp} {k : α → Mst → List Addr → Hp → Prop} (re : REnv K β H env σ) (R : RSt K cl β st H)
    (F : Fin K cl β H ((ma env st).bind f) k (kX K cl W σ)) {Q' : List V → Hp → Prop}
    (h : ∀ xs ws β' H' st', Ext K β β' H H' → RVs K β' H' xs ws → REnv K β' H' env σ → RSt K cl β' st' H' → Fin K cl β' H' (f xs st') k (kX K cl W σ) → Q' ws H') : tMA K cl W ma σ H Q' :=
  ⟨β, env, st, re, R, F.bind.imp (fun x st' β' H' e R' F' w rw => h x w β' H' st' e rw (re.mono e) R' F') fun c fs st' β' H' _ _ q => q⟩

theorem se_op {op : Operator} {g : MV → MV → M MV} (ho : OpG X cl (binaryOp op) g) (ha : SE X cl W a ma) (hb : SE X cl W b mb) : SE X cl W (.BinOp a op b pos) (mBin g ma mb) := by
  refine PE.weaken (pe_op ho.run ha hb) fun σ H Q ⟨β, env, st, re, R, F⟩ => ?_
  refine tM_bind re R F fun x w β1 H1 st1 e1 rw re1 R1 F1 => ?_
  refine tM_bind re1 R1 F1 fun y z β2 H2 st2 e2 rz re2 R2 F2 => ?_
  exact ⟨β2, x, y, st2, rw.mono e2, rz, R2, fin_no (ho.nx _ _ _) F2⟩
theorem se_cmp {op : CmpOp} {g : MV → MV → M MV} (ho : OpG X cl (compareOp op) g) (ha : SE X cl W a ma) (hb : SE X cl W b mb) (hm : behindInMarks op b = false) : SE X cl W (.Compare a [op] [b] pos) (mBin g ma mb) := by
  refine PE.weaken (pe_cmpR ho.run ha hb hm) fun σ H Q ⟨β, env, st, re, R, F⟩ => ?_
  refine tM_bind re R F fun x w β1 H1 st1 e1 rw re1 R1 F1 => ?_
  refine tM_bind re1 R1 F1 fun y z β2 H2 st2 e2 rz re2 R2 F2 => ?_
  exact ⟨β2, x, y, st2, rw.mono e2, rz, R2, fin_no (ho.nx _ _ _) F2⟩
theorem st_cmp {op : CmpOp} {g : MV → MV → M MV} (ho : OpG X cl (compareOp op) g) (ha : SE X cl W a ma) (hb : SE X cl W b mb) (hm : behindInMarks op b = false) : ST X cl W (.Compare a [op] [b] pos) (mTest (mBin g ma mb)) := by
  refine PT.weaken (pt_cmpR ho.run ha hb hm) fun σ H Q ⟨β, env, st, re, R, F⟩ => ?_
  unfold mTest mBin at F
  have F' : Fin X.K cl β H ((ma env st).bind fun x s1 => ((mb env s1).bind fun y s2 => (g x y s2).bind toB)) (fun b _ _ H' => Q b H') (kX X.K cl W σ) := by
    cases h1 : ma env st with
    | ok x s1 =>
      rw [h1] at F
      simp only [Res.bind_ok] at F ⊢
      cases h2 : mb env s1 with
      | ok y s2 => rw [h2] at F; exact F
      | ex c fs s => rw [h2] at F; exact F
      | bad => rw [h2] at F; exact F
    | ex c fs s => rw [h1] at F; exact F
    | bad => rw [h1] at F; exact F
  refine tM_bind re R F' fun x w β1 H1 st1 e1 rw re1 R1 F1 => ?_
  refine tM_bind re1 R1 F1 fun y z β2 H2 st2 e2 rz re2 R2 F2 => ?_
  refine ⟨β2, x, y, st2, rw.mono e2, rz, R2, fin_no (ho.nx _ _ _) (F2.bind.imp (fun v st3 β3 H3 e3 R3 F3 w3 r3 => ?_) fun _ _ _ _ _ _ _ q => q)⟩
  cases v with
  | bl c =>
    cases (show w3 = .bl c from r3)
    exact ⟨c, rfl, F3.here R3⟩
  | _ => exact F3.elim
/-- a value's truth -/
def truM : MV → M Bool
  | .non, st => .ok false st
  | .bl b, st => .ok b st
  | .int i, st => .ok (i != 0) st
  | .str y, st => if y.length ≤ 16777216 then .ok ((y.length : Int) != 0) st else .bad
  | .tup xs, st => .ok (!xs.isEmpty) st
  | .ref a, st => match st[a]? with
    | some (.lst xs) => .ok (!xs.isEmpty) st
    | some (.rol xs) => .ok (!xs.isEmpty) st
    | _ => .bad
  | .ty _, _ => .bad
theorem truM_nx {v : MV} {st : Mst} {c fs st'} : truM v st ≠ .ex c fs st' := by
  intro h
  cases v <;> simp only [truM] at h <;> (try split at h) <;> cases h
theorem isEmpty_rvs {K : PySem.W.Frag} {β : List Addr} {H : Hp} {xs : List MV} {ys : List V} (h : RVs K β H xs ys) : ys.isEmpty = xs.isEmpty := by
  have := h.length
  cases xs <;> cases ys <;> simp_all
theorem truV_of {K : PySem.W.Frag} {β : List Addr} {H : Hp} {st : Mst} {v : MV} {w : V} {k : Bool → Mst → List Addr → Hp → Prop} {ke : Nat → Mfs → Mst → List Addr → Hp → Prop} (R : RSt K cl β st H) (r : RV K β H v w) (F : Fin K cl β H (truM v st) k ke) : ∃ b, TruV K w H b ∧ k b st β H := by
  cases v with
  | non => cases (show w = _ from r); exact ⟨_, rfl, F.here R⟩
  | bl b => cases (show w = _ from r); exact ⟨_, rfl, F.here R⟩
  | int b => cases (show w = _ from r); exact ⟨_, rfl, F.here R⟩
  | str y =>
    cases (show w = _ from r)
    simp only [truM] at F
    split at F
    · rename_i h
      exact ⟨_, ⟨by rw [sizeLine_eq]; exact h, rfl⟩, F.here R⟩
    · exact F.elim
  | tup xs =>
    obtain ⟨p, ys, rfl, hs, h⟩ := r
    exact ⟨_, .inr (.inl ⟨ys, hs, rfl⟩), by rw [isEmpty_rvs h]; exact F.here R⟩
  | ref a =>
    obtain ⟨p, ha, rfl⟩ := r
    simp only [truM] at F
    split at F
    · rename_i xs ho
      obtain ⟨ys, h1, h2⟩ := R.get ha ho
      exact ⟨_, .inl ⟨ys, SqL.of h1, rfl⟩, by rw [isEmpty_rvs h2]; exact F.here R⟩
    · rename_i xs ho
      obtain ⟨ys, h1, h2⟩ := R.get ha ho
      exact ⟨_, .inl ⟨ys, h1.sq, rfl⟩, by rw [isEmpty_rvs h2]; exact F.here R⟩
    · exact F.elim
  | ty n => exact F.elim
def mTru (a : ME) : MT := fun env st => (a env st).bind truM
theorem st_truth (ha : SE X cl W a ma) (he : ∀ whole, isTrue a X.env whole = (do let v ← whole; standAt a.pos; holding [v] (truthy v)) := by intro _; rfl) : ST X cl W a (mTru ma) := by
  refine PT.weaken (pt_truth ha he) fun σ H Q ⟨β, env, st, re, R, F⟩ => ?_
  refine tM_bind re R F fun x w β1 H1 st1 e1 rw re1 R1 F1 => ?_
  obtain ⟨b, h1, h2⟩ := truV_of R1 rw F1
  exact ⟨b, h1, h2⟩
theorem st_not {m : MT} (ha : ST X cl W a m) : ST X cl W (.UnaryOp .Not a pos) (mNot m) := by
  refine PT.weaken (pt_not ha) fun σ H Q ⟨β, env, st, re, R, F⟩ => ?_
  exact tMT_bind re R F fun x β1 H1 st1 e1 re1 R1 F1 => F1.here R1
def SW (X : Cx) (cl : Nat → Addr) (W : WX) (e : Expr) (m : MT) : Prop := PW X e (tMT X.K cl W m)
theorem PW.weaken {X : Cx} {e : Expr} {t t' : TT} (h : PW X e t) (i : ∀ σ H Q, t' σ H Q → t σ H Q) : PW X e t' := ⟨fun wh pins s σ H Q I hw => h.run wh pins s σ H Q I (i _ _ _ hw)⟩
theorem sw_and1 {m : MT} (ha : ST X cl W a m) : SW X cl W (.BoolOp .And [a] pos) m := pw_and1 ha
theorem sw_or1 {m : MT} (ha : ST X cl W a m) : SW X cl W (.BoolOp .Or [a] pos) m := pw_or1 ha
theorem sw_and {m mb : MT} {rest : List Expr} (ha : ST X cl W a m) (hb : SW X cl W (.BoolOp .And (b :: rest) pos) mb) : SW X cl W (.BoolOp .And (a :: b :: rest) pos) (mAnd m mb) := by
  refine PW.weaken (pw_and ha hb) fun σ H Q ⟨β, env, st, re, R, F⟩ => ?_
  refine tMT_bind re R F fun x β1 H1 st1 e1 re1 R1 F1 => ?_
  cases x with
  | true => rw [if_pos rfl] at F1 ⊢; exact ⟨β1, env, st1, re1, R1, F1⟩
  | false => rw [if_neg (by decide)] at F1 ⊢; exact F1.here R1
theorem sw_or {m mb : MT} {rest : List Expr} (ha : ST X cl W a m) (hb : SW X cl W (.BoolOp .Or (b :: rest) pos) mb) : SW X cl W (.BoolOp .Or (a :: b :: rest) pos) (mOr m mb) := by
  refine PW.weaken (pw_or ha hb) fun σ H Q ⟨β, env, st, re, R, F⟩ => ?_
  refine tMT_bind re R F fun x β1 H1 st1 e1 re1 R1 F1 => ?_
  cases x with
  | true => rw [if_pos rfl] at F1 ⊢; exact F1.here R1
  | false => rw [if_neg (by decide)] at F1 ⊢; exact ⟨β1, env, st1, re1, R1, F1⟩
theorem st_w {m : MT} (h : SW X cl W e m) : ST X cl W e m := h.pt
theorem se_ifExp {c : Expr} {m : MT} (hc : ST X cl W c m) (ha : SE X cl W a ma) (hb : SE X cl W b mb) : SE X cl W (.IfExp c a b pos) (mIf m ma mb) := by
  refine PE.weaken (pe_ifExp hc ha hb) fun σ H Q ⟨β, env, st, re, R, F⟩ => ?_
  refine tMT_bind re R F fun x β1 H1 st1 e1 re1 R1 F1 => ?_
  cases x with
  | true => rw [if_pos rfl] at F1 ⊢; exact ⟨β1, env, st1, re1, R1, F1⟩
  | false => rw [if_neg (by decide)] at F1 ⊢; exact ⟨β1, env, st1, re1, R1, F1⟩
/-- and, or, not as values of bools -/
def mAndV (a b : ME) : ME := fun env st => (a env st).bind fun v s1 => (toB v s1).bind fun c s2 => if c = true then b env s2 else .ok (.bl false) s2
def mOrV (a b : ME) : ME := fun env st => (a env st).bind fun v s1 => (toB v s1).bind fun c s2 => if c = true then .ok (.bl true) s2 else b env s2
def mNotV (a : ME) : ME := fun env st => (a env st).bind fun v s1 => (truM v s1).bind fun c s2 => .ok (.bl (!c)) s2
theorem se_one {op} (ha : SE X cl W a m) : SE X cl W (.BoolOp op [a] pos) m := pe_one ha
theorem se_and {rest : List Expr} (ha : SE X cl W a ma) (hb : SE X cl W (.BoolOp .And (b :: rest) pos) mb) : SE X cl W (.BoolOp .And (a :: b :: rest) pos) (mAndV ma mb) := by
  refine PE.weaken (pe_and ha hb) fun σ H Q ⟨β, env, st, re, R, F⟩ => ?_
  refine tM_bind re R F fun x w β1 H1 st1 e1 rw re1 R1 F1 => ?_
  cases x with
  | bl c =>
    cases (show w = .bl c from rw)
    refine ⟨c, rfl, ?_⟩
    simp only [toB_bl, Res.bind_ok] at F1
    cases c with
    | true => rw [if_pos rfl] at F1 ⊢; exact ⟨β1, env, st1, re1, R1, F1⟩
    | false => rw [if_neg (by decide)] at F1 ⊢; exact fin_val F1 R1 (show _ = _ from rfl)
  | _ => exact F1.elim
theorem se_or {rest : List Expr} (ha : SE X cl W a ma) (hb : SE X cl W (.BoolOp .Or (b :: rest) pos) mb) : SE X cl W (.BoolOp .Or (a :: b :: rest) pos) (mOrV ma mb) := by
  refine PE.weaken (pe_or ha hb) fun σ H Q ⟨β, env, st, re, R, F⟩ => ?_
  refine tM_bind re R F fun x w β1 H1 st1 e1 rw re1 R1 F1 => ?_
  cases x with
  | bl c =>
    cases (show w = .bl c from rw)
    refine ⟨c, rfl, ?_⟩
    simp only [toB_bl, Res.bind_ok] at F1
    cases c with
    | true => rw [if_pos rfl] at F1 ⊢; exact fin_val F1 R1 (show _ = _ from rfl)
    | false => rw [if_neg (by decide)] at F1 ⊢; exact ⟨β1, env, st1, re1, R1, F1⟩
  | _ => exact F1.elim
theorem se_not (ha : SE X cl W a ma) : SE X cl W (.UnaryOp .Not a pos) (mNotV ma) := by
  refine PE.weaken (pe_notT ha) fun σ H Q ⟨β, env, st, re, R, F⟩ => ?_
  refine tM_bind re R F fun x w β1 H1 st1 e1 rw re1 R1 F1 => ?_
  obtain ⟨b, h1, h2⟩ := truV_of R1 rw F1.bind
  exact ⟨b, h1, fin_val h2 R1 (show _ = _ from rfl)⟩

/-! ### arguments, displays, built-in calls -/
theorem PA.weaken {X : Cx} {es : List Expr} {t t' : TA} (h : PA X es t) (i : ∀ σ H Q, t' σ H Q → t σ H Q) : PA X es t' := ⟨fun pos pins s σ H Q I hw => h.run pos pins s σ H Q I (i _ _ _ hw)⟩
theorem sa_nil : SA X cl W [] mNil := PA.weaken pa_nil fun σ H Q ⟨β, env, st, re, R, F⟩ => F.here R [] rfl
theorem sa_cons {es : List Expr} {r : MA} (ha : SE X cl W e m) (hr : SA X cl W es r) (hs : starEach (e :: es) X.env = (false, eval e X.env) :: starEach es X.env := by rfl) : SA X cl W (e :: es) (mCons m r) := by
  refine PA.weaken (pa_cons ha hr hs) fun σ H Q ⟨β, env, st, re, R, F⟩ => ?_
  refine tM_bind re R F fun x w β1 H1 st1 e1 rw re1 R1 F1 => ?_
  refine tMA_bind re1 R1 F1 fun xs ws β2 H2 st2 e2 rs re2 R2 F2 => ?_
  exact F2.here R2 _ ⟨w, ws, rfl, rw.mono e2, rs⟩
theorem se_tup {es : List Expr} {r : MA} {x1} (h : SA X cl W es r) : SE X cl W (.Tuple es x1 pos) (mTup r) := by
  refine PE.weaken (pe_tup h) fun σ H Q ⟨β, env, st, re, R, F⟩ => ?_
  refine tMA_bind re R F fun xs ws β1 H1 st1 e1 rs re1 R1 F1 => ?_
  split at F1
  · rename_i h
    exact ⟨by rw [rs.length, sizeLine_eq]; exact h, fun p hp => fin_tup F1 R1 rs hp⟩
  · exact F1.elim
theorem se_lst {es : List Expr} {r : MA} (h : SA X cl W es r) : SE X cl W (.List es pos) (mLst r) := by
  refine PE.weaken (pe_lst h) fun σ H Q ⟨β, env, st, re, R, F⟩ => ?_
  refine tMA_bind re R F fun xs ws β1 H1 st1 e1 rs re1 R1 F1 => ?_
  unfold newL at F1
  split at F1
  · rename_i h
    exact ⟨by rw [rs.length, sizeLine_eq]; exact h, fun p hp => fin_lst F1 R1 rs hp⟩
  · exact F1.elim
theorem se_callB {x : Str} {p : Pos} {es : List Expr} {id : String} {g : List MV → M MV} {r : MA} (hc : CallG X cl (.builtin id) g) (hg : Gl X x) (hm : X.mg x = none) (hv : bootBuiltins x = some (.builtin id)) (ha : SA X cl W (e :: es) r) (hn : x ≠ "__name__" := by decide) (hdb : (x == ("__debug__" : Str)) = false := by decide)
    (he : starEach (e :: es) X.env = (false, eval e X.env) :: starEach es X.env := by rfl) (hpl : (backTo pos (starEach es X.env)).any (·.1) = false := by rfl) :
    SE X cl W (.Call (.Name x p) (e :: es) [] pos) (mCallB g r) := by
  refine PE.weaken (pe_callB hc.run hg hm hv ha hn hdb he hpl) fun σ H Q ⟨β, env, st, re, R, F⟩ => ?_
  refine tMA_bind re R F fun xs ws β1 H1 st1 e1 rs re1 R1 F1 => ?_
  exact ⟨β1, xs, st1, rs, R1, fin_no (hc.nx _ _) F1⟩
theorem se_callTy {x : Str} {p : Pos} {es : List Expr} {T : String} {g : List MV → M MV} {r : MA} (hc : CallG X cl (.type T) g) (hg : Gl X x) (hm : X.mg x = none) (hv : bootBuiltins x = some (.type T)) (ha : SA X cl W (e :: es) r) (hn : x ≠ "__name__" := by decide) (hdb : (x == ("__debug__" : Str)) = false := by decide)
    (he : starEach (e :: es) X.env = (false, eval e X.env) :: starEach es X.env := by rfl) (hpl : (backTo pos (starEach es X.env)).any (·.1) = false := by rfl) :
    SE X cl W (.Call (.Name x p) (e :: es) [] pos) (mCallB g r) := by
  refine PE.weaken (pe_callTy hc.run hg hm hv ha hn hdb he hpl) fun σ H Q ⟨β, env, st, re, R, F⟩ => ?_
  refine tMA_bind re R F fun xs ws β1 H1 st1 e1 rs re1 R1 F1 => ?_
  exact ⟨β1, xs, st1, rs, R1, fin_no (hc.nx _ _) F1⟩
end
end BH

set_option Elab.async false
set_option linter.all false
set_option maxRecDepth 100000
set_option autoImplicit false
set_option maxHeartbeats 1000000
/-! The operations of the plain machine and that the layer does them. -/
namespace BH
open PySem PySem.Spec PyProof.Rows L2

abbrev line : Nat := 16777216
theorem line_le {n : Nat} (h : n ≤ 16777216) : n ≤ sizeLine := by rw [sizeLine_eq]; exact h
theorem line_lt {n : Nat} (h : n < 16777216) : n < sizeLine := by rw [sizeLine_eq]; exact h

/-! ### text * int -/
def repS (a : Str) (k : Int) : Str := if (k == 1 || a.length == 0) = true then a else ⟨(List.replicate k.toNat a.cps).foldl (· ++ ·) #[]⟩
theorem rep_size (a : Array Nat) : ∀ (n : Nat) (b : Array Nat), ((List.replicate n a).foldl (· ++ ·) b).size = b.size + n * a.size
  | 0, b => by simp
  | n + 1, b => by
    rw [List.replicate_succ, List.foldl_cons, rep_size a n, Array.size_append, Nat.succ_mul]
    omega
section
variable {X : Cx}
theorem op_mulS : OpR X (binaryOp .Mult) (fun x y H Q => ∃ a k, x = .str a ∧ y = .int k ∧ 1 ≤ k ∧ k ≤ 100 ∧ a.length ≤ 1000 ∧ Q (.str (repS a k)) H) := by
  intro pins s σ H x y v u Q I rx ry h
  obtain ⟨a, k, rfl, rfl, h1, h2, h3, q⟩ := h
  obtain ⟨t, rfl⟩ := rx
  obtain ⟨t', rfl⟩ := ry
  have hlen : a.length * k.toNat ≤ 100000 := by
    have : k.toNat ≤ 100 := by omega
    exact Nat.le_trans (Nat.mul_le_mul h3 this) (by decide)
  refine P.mul_str ?_ (fun _ _ => ?_) (fun _ _ => ?_) ?_
  · have e1 : ¬ k < -(2 ^ 63 : Int) := by omega
    have e2 : ¬ k ≥ 2 ^ 63 := by omega
    rw [decide_eq_false e1, decide_eq_false e2]; rfl
  · have e : (1000 : Int) ≤ (2 ^ 63 - 1) / k := Int.le_ediv_of_mul_le (by omega) (by omega)
    omega
  · have e : ¬ PySem.Builtin.Str.tooLong (a.length * k.toNat) = true := by
      unfold PySem.Builtin.Str.tooLong
      rw [sizeLine_eq]
      simp
      omega
    simpa using e
  · rw [if_neg (by omega)]
    by_cases hc : (k == 1 || a.length == 0) = true
    · rw [if_pos hc]
      have er : repS a k = a := by unfold repS; rw [if_pos hc]
      rw [er] at q
      exact ⟨.str a, H, I, ⟨_, rfl⟩, q⟩
    · rw [if_neg hc]
      have er : repS a k = ⟨(List.replicate k.toNat a.cps).foldl (· ++ ·) #[]⟩ := by unfold repS; rw [if_neg hc]
      rw [er] at q
      refine ⟨?_, .str _, H, I.tok _, ⟨_, rfl⟩, q⟩
      show ((List.replicate k.toNat a.cps).foldl (· ++ ·) #[]).size ≤ sizeLine
      rw [rep_size, sizeLine_eq]
      have e : a.cps.size * k.toNat ≤ 100000 := hlen
      rw [Nat.mul_comm] at e
      simp
      omega
end

/-! ### + - * % // ** -/
def gAdd : MV → MV → M MV
  | .int i, .int j, st => .ok (.int (i + j)) st
  | .str a, .str b, st => if a.length + b.length ≤ 16777216 then .ok (.str (a ++ b)) st else .bad
  | .tup xs, .tup ys, st => if xs.length + ys.length ≤ 16777216 then .ok (.tup (xs ++ ys)) st else .bad
  | .ref a, .ref b, st => match st[a]?, st[b]? with
    | some (.lst xs), some (.lst ys) => newL (xs ++ ys) st
    | _, _ => .bad
  | _, _, _ => .bad
def gSub : MV → MV → M MV
  | .int i, .int j, st => .ok (.int (i - j)) st
  | _, _, _ => .bad
def small64 (i : Int) : Bool := decide (-(2 ^ 64) < i ∧ i < 2 ^ 64)
def gMul : MV → MV → M MV
  | .int i, .int j, st => if small64 i = true ∨ small64 j = true then .ok (.int (i * j)) st else .bad
  | .tup xs, .int k, st => if 0 ≤ k ∧ k ≤ 1000 ∧ xs.length = 1 then .ok (.tup (List.replicate k.toNat xs).flatten) st else .bad
  | .ref a, .int k, st => match st[a]? with
    | some (.lst xs) => if 0 ≤ k ∧ k ≤ 1000 ∧ xs.length ≤ 1000 then newL (List.replicate k.toNat xs).flatten st else .bad
    | _ => .bad
  | .str a, .int k, st => if 1 ≤ k ∧ k ≤ 100 ∧ a.length ≤ 1000 then .ok (.str (repS a k)) st else .bad
  | _, _, _ => .bad
def gMod : MV → MV → M MV
  | .int i, .int j, st => if 0 < j then .ok (.int (i % j)) st else .bad
  | _, _, _ => .bad
def gDiv : MV → MV → M MV
  | .int i, .int j, st => if 0 < j ∧ j < 1073741824 then .ok (.int (i / j)) st else .bad
  | _, _, _ => .bad
def gPow : MV → MV → M MV
  | .int i, .int j, st => if 0 ≤ j ∧ j ≤ 1000000 ∧ i.natAbs < 2 ^ 64 then .ok (.int (i ^ j.toNat)) st else .bad
  | _, _, _ => .bad
/-! ### comparisons -/
def gLt : MV → MV → M MV
  | .int i, .int j, st => .ok (.bl (decide (i < j))) st
  | _, _, _ => .bad
def gLe : MV → MV → M MV
  | .int i, .int j, st => .ok (.bl (decide (i ≤ j))) st
  | _, _, _ => .bad
def gGt : MV → MV → M MV
  | .int i, .int j, st => .ok (.bl (decide (j < i))) st
  | _, _, _ => .bad
def gGe : MV → MV → M MV
  | .int i, .int j, st => .ok (.bl (decide (j ≤ i))) st
  | _, _, _ => .bad
/-- data: none, bools, ints, texts, tuples and lists of such -/
def optAll {α γ : Type} (f : α → Option γ) : List α → Option (List γ)
  | [] => some []
  | x :: xs => match f x, optAll f xs with
    | some y, some ys => some (y :: ys)
    | _, _ => none
def dat (st : Mst) : Nat → MV → Option PyData
  | 0, _ => none
  | _ + 1, .non => some .none
  | _ + 1, .bl b => some (.bool b)
  | _ + 1, .int i => some (.int i)
  | _ + 1, .str x => if PyData.strOk x = true then some (.str x) else none
  | n + 1, .tup xs => (optAll (dat st n) xs).map .tuple
  | n + 1, .ref a => match st[a]? with
    | some (.lst xs) => (optAll (dat st n) xs).map .list
    | some (.rol xs) => (optAll (dat st n) xs).map .list
    | _ => none
  | _ + 1, .ty _ => none
def gEq (x y : MV) : M MV := fun st => match dat st 64 x, dat st 64 y with
  | some d, some e => .ok (.bl (PyData.eqv d e)) st
  | _, _ => .bad
def gNe (x y : MV) : M MV := fun st => match dat st 64 x, dat st 64 y with
  | some d, some e => .ok (.bl (!PyData.eqv d e)) st
  | _, _ => .bad
def mflat : MV → Bool
  | .non => true
  | .bl _ => true
  | .int _ => true
  | .str _ => true
  | _ => false
def meq : MV → MV → Bool
  | .non, .non => true
  | .bl a, .bl b => a == b
  | .bl a, .int b => (if a then 1 else 0) == b
  | .int a, .bl b => a == (if b then 1 else 0)
  | .int a, .int b => a == b
  | .str a, .str b => a == b
  | _, _ => false
def itemsOf (st : Mst) : MV → Option (List MV)
  | .tup xs => some xs
  | .ref a => match st[a]? with
    | some (.lst xs) => some xs
    | some (.rol xs) => some xs
    | _ => none
  | _ => none
def gIn (neg : Bool) (x y : MV) : M MV := fun st => match itemsOf st y with
  | some xs => if mflat x = true ∧ xs.all mflat = true then .ok (.bl (if neg then !xs.any (fun z => meq z x) else xs.any (fun z => meq z x))) st else .bad
  | none => match x, y with
    | .str a, .str b => .ok (.bl (if neg then !(!(Builtin.Str.occurrences b a 0 b.length 1).isEmpty) else !(Builtin.Str.occurrences b a 0 b.length 1).isEmpty)) st
    | _, _ => .bad
def gIs (neg : Bool) (x y : MV) : M MV := fun st => match y with
  | .non => .ok (.bl (match x with | .non => !neg | _ => neg)) st
  | _ => .bad

section
variable {K : PySem.W.Frag} {cl : Nat → Addr} {β : List Addr} {H : Hp} {st : Mst}
theorem RV.int_of {i : Int} {x : V} (h : RV K β H (.int i) x) : x = .int i := h
theorem RV.str_of {i : Str} {x : V} (h : RV K β H (.str i) x) : x = .str i := h
theorem RV.bl_of {i : Bool} {x : V} (h : RV K β H (.bl i) x) : x = .bl i := h
theorem items_sq (R : RSt K cl β st H) {v : MV} {w : V} {xs : List MV} (r : RV K β H v w) (h : itemsOf st v = some xs) : ∃ p ys, w = .ref p ∧ (SqL K H p ys ∨ SqT K H p ys) ∧ RVs K β H xs ys := by
  cases v with
  | tup zs =>
    cases h
    obtain ⟨p, ys, e, h1, h2⟩ := r
    exact ⟨p, ys, e, .inr h1, h2⟩
  | ref a =>
    obtain ⟨p, ha, rfl⟩ := r
    simp only [itemsOf] at h
    split at h
    · rename_i zs ho
      cases h
      obtain ⟨ys, h1, h2⟩ := R.get ha ho
      exact ⟨p, ys, rfl, .inl (SqL.of h1), h2⟩
    · rename_i zs ho
      cases h
      obtain ⟨ys, h1, h2⟩ := R.get ha ho
      exact ⟨p, ys, rfl, .inl h1.sq, h2⟩
    · cases h
  | _ => cases h
theorem optAll_mem {α γ : Type} {f : α → Option γ} : ∀ {xs : List α} {ys : List γ}, optAll f xs = some ys → Paired (fun x y => f x = some y) xs ys
  | [], _, h => by cases h; exact .nil
  | x :: xs, ys, h => by
    simp only [optAll] at h
    split at h
    · rename_i y ys' h1 h2
      cases h
      exact .cons h1 (optAll_mem h2)
    · cases h
mutual
theorem dat_dp (R : RSt K cl β st H) : ∀ (n : Nat) (v : MV) (d : PyData) (w : V), dat st n v = some d → RV K β H v w → Dp K H w d ∧ d.canLay0 = true ∧ d.depth ≤ n
  | 0, _, _, _, h, _ => by cases h
  | n + 1, .non, _, _, h, r => by cases h; cases (show _ = _ from r); exact ⟨.non, by simp [PyData.canLay0], by simp [PyData.depth]⟩
  | n + 1, .bl b, _, _, h, r => by cases h; cases (show _ = _ from r); exact ⟨.bl b, by simp [PyData.canLay0], by simp [PyData.depth]⟩
  | n + 1, .int b, _, _, h, r => by cases h; cases (show _ = _ from r); exact ⟨.int b, by simp [PyData.canLay0], by simp [PyData.depth]⟩
  | n + 1, .str b, _, _, h, r => by
    simp only [dat] at h
    split at h
    · rename_i ok
      cases h
      cases (show _ = _ from r)
      exact ⟨.str b, by simp [PyData.canLay0, ok], by simp [PyData.depth]⟩
    · cases h
  | n + 1, .tup xs, d, w, h, r => by
    simp only [dat, Option.map_eq_some_iff] at h
    obtain ⟨ds, h1, rfl⟩ := h
    obtain ⟨p, ys, rfl, hs, h2⟩ := r
    obtain ⟨q1, q2, q3⟩ := dat_dps R n xs ds ys (optAll_mem h1) h2
    exact ⟨.tup hs q1, by simp only [PyData.canLay0]; exact q2, by simp only [PyData.depth]; omega⟩
  | n + 1, .ref a, d, w, h, r => by
    obtain ⟨p, ha, rfl⟩ := r
    simp only [dat] at h
    split at h
    · rename_i zs ho
      obtain ⟨ds, h1, rfl⟩ := Option.map_eq_some_iff.mp h
      obtain ⟨ys, h3, h2⟩ := R.get ha ho
      obtain ⟨q1, q2, q3⟩ := dat_dps R n zs ds ys (optAll_mem h1) h2
      exact ⟨.lst (SqL.of h3) q1, by simp only [PyData.canLay0]; exact q2, by simp only [PyData.depth]; omega⟩
    · rename_i zs ho
      obtain ⟨ds, h1, rfl⟩ := Option.map_eq_some_iff.mp h
      obtain ⟨ys, h3, h2⟩ := R.get ha ho
      obtain ⟨q1, q2, q3⟩ := dat_dps R n zs ds ys (optAll_mem h1) h2
      exact ⟨.lst h3.sq q1, by simp only [PyData.canLay0]; exact q2, by simp only [PyData.depth]; omega⟩
    · cases h
  | n + 1, .ty _, _, _, h, _ => by cases h
  termination_by n _ => (n, 0)
theorem dat_dps (R : RSt K cl β st H) : ∀ (n : Nat) (xs : List MV) (ds : List PyData) (ys : List V), Paired (fun x y => dat st n x = some y) xs ds → RVs K β H xs ys → DpAll K H ys ds ∧ PyData.canLayAll0 ds = true ∧ PyData.depthAll ds ≤ n
  | n, [], ds, ys, h, r => by
    cases h
    cases (show _ = _ from r)
    exact ⟨.nil, by simp [PyData.canLayAll0], by simp [PyData.depthAll]⟩
  | n, x :: xs, ds, ys, h, r => by
    cases h with
    | cons h1 h2 =>
      obtain ⟨y, r', rfl, r1, r2⟩ := r
      obtain ⟨a1, a2, a3⟩ := dat_dp R n x _ y h1 r1
      obtain ⟨b1, b2, b3⟩ := dat_dps R n xs _ r' h2 r2
      exact ⟨.cons a1 b1, by simp [PyData.canLayAll0, a2, b2], by simp only [PyData.depthAll]; omega⟩
  termination_by n xs => (n, xs.length + 1)
end
theorem dat_ok (R : RSt K cl β st H) {v : MV} {d : PyData} {w : V} (h : dat st 64 v = some d) (r : RV K β H v w) : Dp K H w d ∧ SeqAt.shaped d = true := by
  obtain ⟨h1, h2, h3⟩ := dat_dp R 64 v d w h r
  exact ⟨h1, by unfold SeqAt.shaped; rw [h2]; simp; omega⟩
theorem flat_rv {x : MV} {v : V} (r : RV K β H x v) (h : mflat x = true) : flatV v = true := by
  cases x <;> first | (cases (show _ = _ from r); rfl) | cases h
theorem meq_rv {x z : MV} {v w : V} (r : RV K β H x v) (q : RV K β H z w) (hx : mflat x = true) (hz : mflat z = true) : eqV w v = meq z x := by
  cases x <;> first | (cases hx; done) | (cases (show _ = _ from r); cases z <;> first | (cases hz; done) | (cases (show _ = _ from q); rfl))
theorem flats_rv : ∀ {xs : List MV} {ys : List V}, RVs K β H xs ys → xs.all mflat = true → ys.all flatV = true
  | [], _, h, _ => by cases (show _ = _ from h); rfl
  | _ :: _, _, ⟨y, r, rfl, h1, h2⟩, h => by
    rw [List.all_cons, Bool.and_eq_true] at h ⊢
    exact ⟨flat_rv h1 h.1, flats_rv h2 h.2⟩
theorem any_rv {x : MV} {v : V} (r : RV K β H x v) (hx : mflat x = true) : ∀ {xs : List MV} {ys : List V}, RVs K β H xs ys → xs.all mflat = true → inV v ys = xs.any fun z => meq z x
  | [], _, h, _ => by cases (show _ = _ from h); rfl
  | _ :: _, _, ⟨y, r', rfl, h1, h2⟩, h => by
    rw [List.all_cons, Bool.and_eq_true] at h
    have ih := any_rv r hx h2 h.2
    unfold inV at ih ⊢
    rw [List.any_cons, List.any_cons, meq_rv r h1 hx h.1, ih]
end

section
variable {X : Cx} {cl : Nat → Addr}
theorem og_add : OpG X cl (binaryOp .Add) gAdd := by
  refine ⟨OpR.weaken (OpR.or op_add (OpR.or op_add_str (OpR.or op_catA op_cat))) fun x y H Q ⟨β, u, v, st, ru, rv, R, F⟩ => ?_, fun u v st c fs st' h => ?_⟩
  · cases u with
    | int i =>
      cases v with
      | int j => cases ru.int_of; cases rv.int_of; exact .inl ⟨i, j, rfl, rfl, fin_val F R (show _ = _ from rfl)⟩
      | _ => exact F.elim
    | str i =>
      cases v with
      | str j =>
        cases ru.str_of
        cases rv.str_of
        simp only [gAdd] at F
        split at F
        · rename_i h
          exact .inr (.inl ⟨i, j, rfl, rfl, line_le h, fin_val F R (show _ = _ from rfl)⟩)
        · exact F.elim
      | _ => exact F.elim
    | tup xs =>
      cases v with
      | tup ys =>
        obtain ⟨p, as, rfl, hp, h1⟩ := ru.tup_of
        obtain ⟨q, bs, rfl, hq, h2⟩ := rv.tup_of
        simp only [gAdd] at F
        split at F
        · rename_i h
          refine .inr (.inr (.inl ⟨p, q, as, bs, rfl, rfl, hp, hq, by rw [h1.length, h2.length]; exact line_le h, fun e => ?_, fun n e => ?_, fun n1 n2 z hz => ?_⟩))
          · subst e
            have e0 : xs = [] := by
              cases xs with
              | nil => rfl
              | cons a b => have := h1.length; simp at this
            subst e0
            exact fin_val F R ⟨q, bs, rfl, hq, h2⟩
          · subst e
            have e0 : ys = [] := by
              cases ys with
              | nil => rfl
              | cons a b => have := h2.length; simp at this
            subst e0
            exact fin_val F R ⟨p, as, rfl, hp, by simpa using h1⟩
          · exact fin_tup F R (h1.append h2) hz
        · exact F.elim
      | _ => exact F.elim
    | ref a =>
      cases v with
      | ref b =>
        obtain ⟨p, hp, rfl⟩ := ru.ref_of
        obtain ⟨q, hq, rfl⟩ := rv.ref_of
        simp only [gAdd] at F
        split at F
        · rename_i xs ys h1 h2
          obtain ⟨as, ha, ra⟩ := R.get hp h1
          obtain ⟨bs, hb, rb⟩ := R.get hq h2
          unfold newL at F
          split at F
          · rename_i hz
            exact .inr (.inr (.inr ⟨p, q, as, bs, rfl, rfl, ha, hb, by rw [ra.length, rb.length]; exact line_le (by simpa using hz), fun z nz => fin_lst F R (ra.append rb) nz⟩))
          · exact F.elim
        · exact F.elim
      | _ => exact F.elim
    | _ => exact F.elim
  · cases u <;> cases v <;> simp only [gAdd, newL] at h <;> (repeat' (first | (split at h) | cases h))
theorem og_sub : OpG X cl (binaryOp .Sub) gSub := by
  refine ⟨OpR.weaken op_sub fun x y H Q ⟨β, u, v, st, ru, rv, R, F⟩ => ?_, fun u v st c fs st' h => by cases u <;> cases v <;> cases h⟩
  cases u with
  | int i =>
    cases v with
    | int j => cases ru.int_of; cases rv.int_of; exact ⟨i, j, rfl, rfl, fin_val F R (show _ = _ from rfl)⟩
    | _ => exact F.elim
  | _ => exact F.elim
theorem og_mod : OpG X cl (binaryOp .Mod) gMod := by
  refine ⟨OpR.weaken op_mod fun x y H Q ⟨β, u, v, st, ru, rv, R, F⟩ => ?_, fun u v st c fs st' h => by cases u <;> cases v <;> simp only [gMod] at h <;> (repeat' (first | (split at h) | cases h))⟩
  cases u with
  | int i =>
    cases v with
    | int j =>
      cases ru.int_of; cases rv.int_of
      simp only [gMod] at F
      split at F
      · rename_i h
        exact ⟨i, j, rfl, rfl, h, fin_val F R (show _ = _ from rfl)⟩
      · exact F.elim
    | _ => exact F.elim
  | _ => exact F.elim
theorem og_div : OpG X cl (binaryOp .FloorDiv) gDiv := by
  refine ⟨OpR.weaken op_fdiv fun x y H Q ⟨β, u, v, st, ru, rv, R, F⟩ => ?_, fun u v st c fs st' h => by cases u <;> cases v <;> simp only [gDiv] at h <;> (repeat' (first | (split at h) | cases h))⟩
  cases u with
  | int i =>
    cases v with
    | int j =>
      cases ru.int_of; cases rv.int_of
      simp only [gDiv] at F
      split at F
      · rename_i h
        exact ⟨i, j, rfl, rfl, h, fin_val F R (show _ = _ from rfl)⟩
      · exact F.elim
    | _ => exact F.elim
  | _ => exact F.elim
theorem og_pow : OpG X cl (binaryOp .Pow) gPow := by
  refine ⟨OpR.weaken op_pow fun x y H Q ⟨β, u, v, st, ru, rv, R, F⟩ => ?_, fun u v st c fs st' h => by cases u <;> cases v <;> simp only [gPow] at h <;> (repeat' (first | (split at h) | cases h))⟩
  cases u with
  | int i =>
    cases v with
    | int j =>
      cases ru.int_of; cases rv.int_of
      simp only [gPow] at F
      split at F
      · rename_i h
        exact ⟨i, j, rfl, rfl, h, fin_val F R (show _ = _ from rfl)⟩
      · exact F.elim
    | _ => exact F.elim
  | _ => exact F.elim


/-! ### tuple * int: no or one time too -/
theorem tuple_mul1 (l : Addr) (items : Array Value) (n : Nat) (dd : Option Addr) (sl : Array (Option Value)) (u : Tok) :
    Meets (Builtin.«tuple.__mul__» ⟨[.ref l, .int 1 u], []⟩) (fun _ R s => s.heap.get? l = some { cls := .type "tuple", dict := dd, data := .seq items n, slots := sl } ∧ R (.ok (.ret (Value.ref l))) s) :=
  .of_wp fun prog w A R s h => by
    obtain ⟨hp, g, d, tk, os⟩ := s
    obtain ⟨hl, h⟩ := h
    have f1 := AutoSeq1.idx_int
    wp_walk using wpAny_loadPart' hl
    exact ⟨_, rfl, h⟩
theorem tuple_mul0 (l : Addr) (items : Array Value) (n : Nat) (dd : Option Addr) (sl : Array (Option Value)) (u : Tok) (c1 : (items.isEmpty || (0 : Int) == 1) = false) :
    Meets (Builtin.«tuple.__mul__» ⟨[.ref l, .int 0 u], []⟩) (fun _ R s => s.heap.get? l = some { cls := .type "tuple", dict := dd, data := .seq items n, slots := sl } ∧
      R (.ok (.ret (Value.ref s.heap.objs.size))) { s with heap := s.heap.push { cls := Value.type "tuple", data := Data.seq #[] }, toks := s.toks }) :=
  .of_wp fun prog w A R s h => by
    obtain ⟨hp, g, d, tk, os⟩ := s
    obtain ⟨hl, h⟩ := h
    have f1 := AutoSeq1.idx_int
    wp_walk using wpAny_loadPart' hl
    repeat (first
      | (refine wpAny_ite_false (decide_eq_false (by rw [c1]; exact Bool.false_ne_true)) ?_; wp_walk using wpAny_loadPart' hl))
    exact ⟨_, rfl, h⟩
theorem op_rep1 : OpR X (binaryOp .Mult) (fun x y H Q => ∃ l k a, x = .ref l ∧ y = .int k ∧ SqT X.K H l [a] ∧ ((k = 1 ∧ Q (.ref l) H) ∨ (k = 0 ∧ ∀ p, H p = none → Q (.ref p) (upd H p (.tup []))))) := by
  intro pins s σ H x y v u Q I rx ry h
  obtain ⟨l, k, a, rfl, rfl, hT, h⟩ := h
  cases rx
  obtain ⟨t, rfl⟩ := ry
  obtain ⟨its, r, ⟨⟨cls, dd, data, sl⟩, ho, hc, n, hd⟩, hs⟩ := I.tuple hT
  simp only at hc hd
  subst hc hd
  obtain ⟨u, rfl, ru⟩ := vals1 r
  rcases h with ⟨rfl, q⟩ | ⟨rfl, q⟩
  · exact wpAny_binaryOp_repeat_ref (T := "tuple") (U := "int") (by decide) ⟨_, ho, rfl⟩ (fun s' => typeIs_int s' 1 t) noFill_tuple_mul F.fills_int_mul F.slot_int_rmul repeat_tuple F.slot_int_index.lookup
      (call_meets F.slot_int_rmul (typeIs_int s 1 t) F.entry_int_rmul (F.args_int_rmul_2 _ _) (int_rmul_tuple 1 t l [u].toArray n dd sl)
        ⟨ho, rfl, ⟨_, ho, rfl⟩, call_meets F.slot_tuple_mul ⟨_, ho, rfl⟩ F.entry_tuple_mul (F.args_tuple_mul_2 _ _) (tuple_mul1 l [u].toArray n dd sl t) ⟨ho, ⟨.ref l, H, I, rfl, q⟩⟩⟩)
  · refine wpAny_binaryOp_repeat_ref (T := "tuple") (U := "int") (by decide) ⟨_, ho, rfl⟩ (fun s' => typeIs_int s' 0 t) noFill_tuple_mul F.fills_int_mul F.slot_int_rmul repeat_tuple F.slot_int_index.lookup
      (call_meets F.slot_int_rmul (typeIs_int s 0 t) F.entry_int_rmul (F.args_int_rmul_2 _ _) (int_rmul_tuple 0 t l [u].toArray n dd sl)
        ⟨ho, rfl, ⟨_, ho, rfl⟩, call_meets F.slot_tuple_mul ⟨_, ho, rfl⟩ F.entry_tuple_mul (F.args_tuple_mul_2 _ _) (tuple_mul0 l [u].toArray n dd sl t rfl) ⟨ho, ?_⟩⟩)
    refine ⟨.ref s.heap.objs.size, _, I.laid (t' := s.toks) (o := .tup []) (fun b ob q => Heap.get?_push_of_some _ q) (Nat.le_refl _) ?_, rfl, q _ (I.hok.fresh (Nat.le_refl _))⟩
    exact ⟨Nat.zero_le _, [], .nil, IsTup.new _ _⟩
theorem og_mul : OpG X cl (binaryOp .Mult) gMul := by
  refine ⟨OpR.weaken (OpR.or op_mulS (OpR.or op_mul (OpR.or op_repT (OpR.or op_rep1 op_rep)))) fun x y H Q ⟨β, u, v, st, ru, rv, R, F⟩ => ?_, fun u v st c fs st' h => ?_⟩
  · cases u with
    | int i =>
      cases v with
      | int j =>
        cases ru.int_of; cases rv.int_of
        simp only [gMul] at F
        split at F
        · rename_i h
          refine .inr (.inl ⟨i, j, rfl, rfl, ?_, fin_val F R (show _ = _ from rfl)⟩)
          rcases h with h | h
          · exact .inl (of_decide_eq_true h)
          · exact .inr (of_decide_eq_true h)
        · exact F.elim
      | _ => exact F.elim
    | tup xs =>
      cases v with
      | int k =>
        obtain ⟨p, as, rfl, hp, h1⟩ := ru.tup_of
        cases rv.int_of
        simp only [gMul] at F
        split at F
        · rename_i h
          obtain ⟨h2, h3, h4⟩ := h
          have hl : as.length = 1 := by rw [h1.length, h4]
          obtain ⟨a, rfl⟩ : ∃ a, as = [a] := by
            cases as with
            | nil => simp at hl
            | cons a r =>
              cases r with
              | nil => exact ⟨a, rfl⟩
              | cons b r => simp at hl
          by_cases k2 : 2 ≤ k
          · refine .inr (.inr (.inl ⟨p, k, [a], rfl, rfl, hp, by simp, k2, h3, by simp, fun q hq => fin_tup F R (h1.flat _) hq⟩))
          · by_cases k1 : k = 1
            · subst k1
              refine .inr (.inr (.inr (.inl ⟨p, 1, a, rfl, rfl, hp, .inl ⟨rfl, fin_val F R ⟨p, [a], rfl, hp, ?_⟩⟩⟩)))
              simpa using h1
            · have k0 : k = 0 := by omega
              subst k0
              exact .inr (.inr (.inr (.inl ⟨p, 0, a, rfl, rfl, hp, .inr ⟨rfl, fun q hq => fin_tup F R (by simp [RVs]) hq⟩⟩)))
        · exact F.elim
      | _ => exact F.elim
    | ref a =>
      cases v with
      | int k =>
        obtain ⟨p, hp, rfl⟩ := ru.ref_of
        cases rv.int_of
        simp only [gMul] at F
        split at F
        · rename_i xs ho
          obtain ⟨as, ha, ra⟩ := R.get hp ho
          split at F
          · rename_i h
            obtain ⟨h2, h3, h4⟩ := h
            unfold newL at F
            split at F
            · rename_i hz
              refine .inr (.inr (.inr (.inr ⟨p, k, as, rfl, rfl, ha, by omega, by omega, ?_, fun z nz => fin_lst F R (ra.flat _) nz⟩)))
              rw [ra.length]
              refine line_le ?_
              have a1 : xs.length * k.toNat ≤ 1000 * 1000 := Nat.mul_le_mul h4 (by omega)
              omega
            · exact F.elim
          · exact F.elim
        · exact F.elim
      | _ => exact F.elim
    | str a =>
      cases v with
      | int k =>
        cases ru.str_of; cases rv.int_of
        simp only [gMul] at F
        split at F
        · rename_i h
          exact .inl ⟨a, k, rfl, rfl, h.1, h.2.1, h.2.2, fin_val F R (show _ = _ from rfl)⟩
        · exact F.elim
      | _ => exact F.elim
    | _ => exact F.elim
  · cases u <;> cases v <;> simp only [gMul, newL] at h <;> (repeat' (first | (split at h) | cases h))

/-! ### comparisons -/
theorem og_lt : OpG X cl (compareOp .Lt) gLt := by
  refine ⟨OpR.weaken op_lt fun x y H Q ⟨β, u, v, st, ru, rv, R, F⟩ => ?_, fun u v st c fs st' h => by cases u <;> cases v <;> cases h⟩
  cases u <;> cases v <;> first | (exact F.elim; done) | (cases ru.int_of; cases rv.int_of; exact ⟨_, _, rfl, rfl, fin_val F R (show _ = _ from rfl)⟩)
theorem og_le : OpG X cl (compareOp .LtE) gLe := by
  refine ⟨OpR.weaken op_le fun x y H Q ⟨β, u, v, st, ru, rv, R, F⟩ => ?_, fun u v st c fs st' h => by cases u <;> cases v <;> cases h⟩
  cases u <;> cases v <;> first | (exact F.elim; done) | (cases ru.int_of; cases rv.int_of; exact ⟨_, _, rfl, rfl, fin_val F R (show _ = _ from rfl)⟩)
theorem og_gt : OpG X cl (compareOp .Gt) gGt := by
  refine ⟨OpR.weaken op_gt fun x y H Q ⟨β, u, v, st, ru, rv, R, F⟩ => ?_, fun u v st c fs st' h => by cases u <;> cases v <;> cases h⟩
  cases u <;> cases v <;> first | (exact F.elim; done) | (cases ru.int_of; cases rv.int_of; exact ⟨_, _, rfl, rfl, fin_val F R (show _ = _ from rfl)⟩)
theorem og_ge : OpG X cl (compareOp .GtE) gGe := by
  refine ⟨OpR.weaken op_ge fun x y H Q ⟨β, u, v, st, ru, rv, R, F⟩ => ?_, fun u v st c fs st' h => by cases u <;> cases v <;> cases h⟩
  cases u <;> cases v <;> first | (exact F.elim; done) | (cases ru.int_of; cases rv.int_of; exact ⟨_, _, rfl, rfl, fin_val F R (show _ = _ from rfl)⟩)
theorem og_eq (hu : X.A.units + 64 < cLine) : OpG X cl (compareOp .Eq) gEq := by
  refine ⟨OpR.weaken (op_eqD hu) fun x y H Q ⟨β, u, v, st, ru, rv, R, F⟩ => ?_, fun u v st c fs st' h => by unfold gEq at h; split at h <;> cases h⟩
  unfold gEq at F
  split at F
  · rename_i d e h1 h2
    obtain ⟨a1, a2⟩ := dat_ok R h1 ru
    obtain ⟨b1, b2⟩ := dat_ok R h2 rv
    exact ⟨d, e, a1, b1, a2, b2, fin_val F R (show _ = _ from rfl)⟩
  · exact F.elim
theorem og_ne (hu : X.A.units + 64 < cLine) : OpG X cl (compareOp .NotEq) gNe := by
  refine ⟨OpR.weaken (op_neD hu) fun x y H Q ⟨β, u, v, st, ru, rv, R, F⟩ => ?_, fun u v st c fs st' h => by unfold gNe at h; split at h <;> cases h⟩
  unfold gNe at F
  split at F
  · rename_i d e h1 h2
    obtain ⟨a1, a2⟩ := dat_ok R h1 ru
    obtain ⟨b1, b2⟩ := dat_ok R h2 rv
    exact ⟨d, e, a1, b1, a2, b2, fin_val F R (show _ = _ from rfl)⟩
  · exact F.elim
theorem og_in : OpG X cl (compareOp .In) (gIn false) := by
  refine ⟨OpR.weaken (OpR.or op_in_seq op_in_str) fun x y H Q ⟨β, u, v, st, ru, rv, R, F⟩ => ?_, fun u v st c fs st' h => by unfold gIn at h; repeat' (first | (split at h) | cases h)⟩
  unfold gIn at F
  split at F
  · rename_i xs hx
    obtain ⟨p, ys, rfl, hs, h2⟩ := items_sq R rv hx
    split at F
    · rename_i hf
      refine .inl ⟨p, ys, rfl, hs, flat_rv ru hf.1, flats_rv h2 hf.2, ?_⟩
      rw [any_rv ru hf.1 h2 hf.2]
      exact fin_val F R (show _ = _ from rfl)
    · exact F.elim
  · split at F
    · cases ru.str_of; cases rv.str_of
      exact .inr ⟨_, _, rfl, rfl, fin_val F R (show _ = _ from rfl)⟩
    · exact F.elim
theorem og_notIn : OpG X cl (compareOp .NotIn) (gIn true) := by
  refine ⟨OpR.weaken (OpR.or op_notIn_seq op_notIn_str) fun x y H Q ⟨β, u, v, st, ru, rv, R, F⟩ => ?_, fun u v st c fs st' h => by unfold gIn at h; repeat' (first | (split at h) | cases h)⟩
  unfold gIn at F
  split at F
  · rename_i xs hx
    obtain ⟨p, ys, rfl, hs, h2⟩ := items_sq R rv hx
    split at F
    · rename_i hf
      refine .inl ⟨p, ys, rfl, hs, flat_rv ru hf.1, flats_rv h2 hf.2, ?_⟩
      rw [any_rv ru hf.1 h2 hf.2]
      exact fin_val F R (show _ = _ from rfl)
    · exact F.elim
  · split at F
    · cases ru.str_of; cases rv.str_of
      exact .inr ⟨_, _, rfl, rfl, fin_val F R (show _ = _ from rfl)⟩
    · exact F.elim
theorem non_iff {K : PySem.W.Frag} {β : List Addr} {H : Hp} {x : MV} {v : V} (r : RV K β H x v) : decide (v = .non) = (match x with | .non => true | _ => false) := by
  cases x with
  | tup xs => obtain ⟨p, ys, rfl, _⟩ := r; rfl
  | ref a => obtain ⟨p, _, rfl⟩ := r; rfl
  | _ => cases (show _ = _ from r); rfl
theorem og_is : OpG X cl (compareOp .Is) (gIs false) := by
  refine ⟨OpR.weaken op_isN fun x y H Q ⟨β, u, v, st, ru, rv, R, F⟩ => ?_, fun u v st c fs st' h => by cases v <;> cases h⟩
  cases v with
  | non =>
    cases (show _ = _ from rv)
    refine ⟨rfl, ?_⟩
    rw [non_iff ru]
    cases u <;> exact fin_val F R (show _ = _ from rfl)
  | _ => exact F.elim
theorem og_isNot : OpG X cl (compareOp .IsNot) (gIs true) := by
  refine ⟨OpR.weaken op_notN fun x y H Q ⟨β, u, v, st, ru, rv, R, F⟩ => ?_, fun u v st c fs st' h => by cases v <;> cases h⟩
  cases v with
  | non =>
    cases (show _ = _ from rv)
    refine ⟨rfl, ?_⟩
    rw [non_iff ru]
    cases u <;> exact fin_val F R (show _ = _ from rfl)
  | _ => exact F.elim
end
end BH

set_option Elab.async false
set_option linter.all false
set_option maxRecDepth 100000
set_option autoImplicit false
set_option maxHeartbeats 1000000
namespace BH
open PySem PySem.Spec PyProof.Rows L2

section
variable {X : Cx} {cl : Nat → Addr} {W : WX} {e a b c o : Expr} {m ma mb mc : ME} {pos : Pos}

/-! ### chains -/
def mChain (g g' : MV → MV → M MV) (a b c : ME) : ME := fun env st => (a env st).bind fun x s1 => (b env s1).bind fun y s2 => (g x y s2).bind fun z s3 => (toB z s3).bind fun k s4 =>
  if k = true then (c env s4).bind fun w s5 => g' y w s5 else .ok (.bl false) s4
theorem se_chain {op op' : CmpOp} {g g' : MV → MV → M MV} (ho : OpG X cl (compareOp op) g) (ho' : OpG X cl (compareOp op') g') (ha : SE X cl W a ma) (hb : SE X cl W b mb) (hc : SE X cl W c mc)
    (hm : lastMarks [op, op'] [b, c] = false := by with_unfolding_all rfl) : SE X cl W (.Compare a [op, op'] [b, c] pos) (mChain g g' ma mb mc) := by
  refine PE.weaken (pe_chain ho.run ho'.run ha hb hc hm) fun σ H Q ⟨β, env, st, re, R, F⟩ => ?_
  refine tM_bind re R F fun x w β1 H1 st1 e1 rw re1 R1 F1 => ?_
  refine tM_bind re1 R1 F1 fun y z β2 H2 st2 e2 rz re2 R2 F2 => ?_
  refine ⟨β2, x, y, st2, rw.mono e2, rz, R2, fin_no (ho.nx _ _ _) (F2.bind.imp (fun v st3 β3 H3 e3 R3 F3 w3 r3 => ?_) fun _ _ _ _ _ _ _ q => q)⟩
  cases v with
  | bl k =>
    cases (show w3 = .bl k from r3)
    simp only [toB_bl, Res.bind_ok] at F3
    refine ⟨k, rfl, ?_⟩
    cases k with
    | true =>
      rw [if_pos rfl] at F3 ⊢
      refine tM_bind (re2.mono e3) R3 F3 fun w' z' β4 H4 st4 e4 rz' re4 R4 F4 => ?_
      exact ⟨β4, y, w', st4, (rz.mono e3).mono e4, rz', R4, fin_no (ho'.nx _ _ _) F4⟩
    | false =>
      rw [if_neg (by decide)] at F3 ⊢
      exact fin_val F3 R3 (show _ = _ from rfl)
  | _ => exact F3.elim
theorem st_chain {op op' : CmpOp} {g g' : MV → MV → M MV} (ho : OpG X cl (compareOp op) g) (ho' : OpG X cl (compareOp op') g') (ha : SE X cl W a ma) (hb : SE X cl W b mb) (hc : SE X cl W c mc)
    (hm : lastMarks [op, op'] [b, c] = false := by with_unfolding_all rfl) : ST X cl W (.Compare a [op, op'] [b, c] pos) (mTest (mChain g g' ma mb mc)) := by
  refine PT.weaken (pt_chain ho.run ho'.run ha hb hc hm) fun σ H Q ⟨β, env, st, re, R, F⟩ => ?_
  have as1 : ∀ {α γ δ : Type} (r : Res α) (f : α → Mst → Res γ) (g : γ → Mst → Res δ), (r.bind f).bind g = r.bind fun x s => (f x s).bind g := fun r f g => by cases r <;> rfl
  unfold mTest mChain at F
  rw [as1] at F
  refine tM_bind re R F fun x w β1 H1 st1 e1 rw re1 R1 F1 => ?_
  rw [as1] at F1
  refine tM_bind re1 R1 F1 fun y z β2 H2 st2 e2 rz re2 R2 F2 => ?_
  rw [as1] at F2
  refine ⟨β2, x, y, st2, rw.mono e2, rz, R2, fin_no (ho.nx _ _ _) (F2.bind.imp (fun v st3 β3 H3 e3 R3 F3 w3 r3 => ?_) fun _ _ _ _ _ _ _ q => q)⟩
  cases v with
  | bl k =>
    cases (show w3 = .bl k from r3)
    simp only [toB_bl, Res.bind_ok] at F3
    refine ⟨k, rfl, ?_⟩
    cases k with
    | true =>
      rw [if_pos rfl] at F3 ⊢
      rw [as1] at F3
      refine tM_bind (re2.mono e3) R3 F3 fun w' z' β4 H4 st4 e4 rz' re4 R4 F4 => ?_
      refine ⟨β4, y, w', st4, (rz.mono e3).mono e4, rz', R4, fin_no (ho'.nx _ _ _) (F4.bind.imp (fun v5 st5 β5 H5 e5 R5 F5 w5 r5 => ?_) fun _ _ _ _ _ _ _ q => q)⟩
      cases v5 with
      | bl k5 =>
        cases (show w5 = .bl k5 from r5)
        exact ⟨k5, rfl, F5.here R5⟩
      | _ => exact F5.elim
    | false =>
      rw [if_neg (by decide)] at F3 ⊢
      exact ⟨false, rfl, F3.here R3⟩
  | _ => exact F3.elim

/-! ### places -/
def mixN (n : Nat) (i : Int) : Option Nat := if 0 ≤ i then (if i < n then some i.toNat else none) else if -(n : Int) ≤ i then some (i + n).toNat else none
def matI (xs : List MV) (i : Int) : Option MV := (mixN xs.length i).bind fun j => xs[j]?
def gIx : MV → MV → M MV
  | .str z, .int i, st => if z.length ≤ 16777216 then match (mixN z.cps.toList.length i).bind fun j => z.cps.toList[j]? with
    | some c => .ok (.str ⟨#[c]⟩) st
    | none => .bad
    else .bad
  | x, .int i, st => match itemsOf st x with
    | some xs => match matI xs i with
      | some v => .ok v st
      | none => .bad
    | none => .bad
  | _, _, _ => .bad
theorem mix_eq (n : Nat) (i : Int) : mixN n i = ixN n i := rfl
theorem matI_rv {K : PySem.W.Frag} {β : List Addr} {H : Hp} {xs : List MV} {ys : List V} {i : Int} {x : MV} (r : RVs K β H xs ys) (h : matI xs i = some x) : ∃ y, atI ys i = some y ∧ RV K β H x y := by
  unfold matI at h
  obtain ⟨j, h1, h2⟩ := Option.bind_eq_some_iff.mp h
  obtain ⟨y, h3, h4⟩ := r.get h2
  refine ⟨y, ?_, h4⟩
  unfold atI
  rw [r.length, ← mix_eq, h1]
  exact h3
theorem se_ix {ha' : PlainIx b} (ha : SE X cl W a ma) (hb : SE X cl W b mb) : SE X cl W (.Subscript a b pos) (mBin gIx ma mb) := by
  refine PE.weaken (pe_ix ix_seq ha hb ha') fun σ H Q ⟨β, env, st, re, R, F⟩ => ?_
  refine tM_bind re R F fun x w β1 H1 st1 e1 rw re1 R1 F1 => ?_
  refine tM_bind re1 R1 F1 fun y z β2 H2 st2 e2 rz re2 R2 F2 => ?_
  have rw2 := rw.mono e2
  cases y with
  | int i =>
    cases rz.int_of
    have go : ∀ xs, itemsOf st2 x = some xs → (match matI xs i with
      | some v => Res.ok v st2
      | none => .bad) = gIx x (.int i) st2 → rIx X.K w (.int i) H2 Q := by
      intro xs hx he
      rw [← he] at F2
      cases h : matI xs i with
      | none => rw [h] at F2; exact F2.elim
      | some v =>
        rw [h] at F2
        obtain ⟨p, ys, rfl, hs, h2⟩ := items_sq R2 rw2 hx
        obtain ⟨u, h3, h4⟩ := matI_rv h2 h
        rcases hs with hs | hs
        · exact .inl ⟨p, ys, i, u, rfl, rfl, hs, h3, fin_val F2 R2 h4⟩
        · exact .inr (.inl ⟨p, ys, i, u, rfl, rfl, hs, h3, fin_val F2 R2 h4⟩)
    cases x with
    | str s =>
      cases rw2.str_of
      simp only [gIx] at F2
      split at F2
      · rename_i hz
        split at F2
        · rename_i c hc
          refine .inr (.inr ⟨s, i, c, rfl, rfl, line_le hz, ?_, fin_val F2 R2 (show _ = _ from rfl)⟩)
          exact hc
        · exact F2.elim
      · exact F2.elim
    | tup xs => exact go xs rfl rfl
    | ref a =>
      cases h : itemsOf st2 (.ref a) with
      | some xs => exact go xs h (by simp only [gIx, h])
      | none => simp only [gIx, h] at F2; exact F2.elim
    | _ => exact F2.elim
  | _ => cases x <;> exact F2.elim

/-! ### slices -/
def mcut {α : Type} (xs : List α) (lo hi : Option Int) : List α := (xs.drop (HT.sIx xs.length 0 lo)).take (HT.sIx xs.length xs.length hi - HT.sIx xs.length 0 lo)
def gSl : MV → Option Int → Option Int → M MV
  | .tup xs, lo, hi, st => .ok (.tup (mcut xs lo hi)) st
  | .ref a, lo, hi, st => match st[a]? with
    | some (.lst xs) => .ok (.ref st.length) (st ++ [.lst (mcut xs lo hi)])
    | some (.rol xs) => .ok (.ref st.length) (st ++ [.lst (mcut xs lo hi)])
    | _ => .bad
  | _, _, _, _ => .bad
abbrev MP := Env → M (Option Int)
def mNoPart : MP := fun _ st => .ok none st
def mPart (a : ME) : MP := fun env st => (a env st).bind fun v s1 => match v with
  | .int i => .ok (some i) s1
  | _ => .bad
def mSl (a : ME) (l h : MP) : ME := fun env st => (a env st).bind fun x s1 => (l env s1).bind fun lo s2 => (h env s2).bind fun hi s3 => gSl x lo hi s3
def tMP (K : PySem.W.Frag) (cl : Nat → Addr) (W : WX) (m : MP) : TO := fun σ H Q => ∃ β env st, REnv K β H env σ ∧ RSt K cl β st H ∧ Fin K cl β H (m env st) (fun o _ _ H' => Q o H') (kX K cl W σ)
def SP' (X : Cx) (cl : Nat → Addr) (W : WX) (e : Option Expr) (m : MP) : Prop := PO X e (tMP X.K cl W m)
theorem PO.weaken {e : Option Expr} {t t' : TO} (h : PO X e t) (i : ∀ σ H Q, t' σ H Q → t σ H Q) : PO X e t' := ⟨fun pins s σ H Q I hw => h.run pins s σ H Q I (i _ _ _ hw)⟩
theorem sp_none : SP' X cl W none mNoPart := PO.weaken po_none fun σ H Q ⟨β, env, st, re, R, F⟩ => F.here R
theorem sp_some (h : SE X cl W e m) : SP' X cl W (some e) (mPart m) := by
  refine PO.weaken (po_some h) fun σ H Q ⟨β, env, st, re, R, F⟩ => ?_
  refine tM_bind re R F fun x w β1 H1 st1 e1 rw re1 R1 F1 => ?_
  cases x with
  | int i => cases rw.int_of; exact ⟨i, rfl, F1.here R1⟩
  | _ => exact F1.elim
theorem tMP_bind {K : PySem.W.Frag} {α : Type} {ma : MP} {f : Option Int → M α} {β : List Addr} {env : Env} {st : Mst} {σ : L2.St} {H : Hp} {k : α → Mst → List Addr → Hp → Prop} (re : REnv K β H env σ) (R : RSt K cl β st H)
    (F : Fin K cl β H ((ma env st).bind f) k (kX K cl W σ)) {Q' : Option Int → Hp → Prop}
    (h : ∀ x β' H' st', Ext K β β' H H' → REnv K β' H' env σ → RSt K cl β' st' H' → Fin K cl β' H' (f x st') k (kX K cl W σ) → Q' x H') : tMP K cl W ma σ H Q' :=
  ⟨β, env, st, re, R, F.bind.imp (fun x st' β' H' e R' F' => h x β' H' st' e (re.mono e) R' F') fun c fs st' β' H' _ _ q => q⟩
theorem mcut_rv {K : PySem.W.Frag} {β : List Addr} {H : Hp} {xs : List MV} {ys : List V} (lo hi : Option Int) (r : RVs K β H xs ys) : RVs K β H (mcut xs lo hi) (cutV ys lo hi) := by
  unfold mcut cutV
  rw [r.length]
  exact (r.drop _).take _
theorem mcut_whole {α : Type} (xs : List α) (lo hi : Option Int) (h : HT.sIx xs.length 0 lo = 0 ∧ HT.sIx xs.length xs.length hi = xs.length) : mcut xs lo hi = xs := by
  unfold mcut
  rw [h.1, h.2]
  simp
theorem se_sl {lo hi : Option Expr} {l h : MP} {p2 : Pos} (ha : SE X cl W e m) (hl : SP' X cl W lo l) (hh : SP' X cl W hi h) : SE X cl W (.Subscript e (.Slice lo hi none p2) pos) (mSl m l h) := by
  refine PE.weaken (pe_slice (sl_tupA.or sl_list) ha hl hh) fun σ H Q ⟨β, env, st, re, R, F⟩ => ?_
  refine tM_bind re R F fun x w β1 H1 st1 e1 rw re1 R1 F1 => ?_
  refine tMP_bind re1 R1 F1 fun lo β2 H2 st2 e2 re2 R2 F2 => ?_
  refine tMP_bind re2 R2 F2 fun hi β3 H3 st3 e3 re3 R3 F3 => ?_
  have rw3 := (rw.mono e2).mono e3
  cases x with
  | tup xs =>
    obtain ⟨p, ys, rfl, hs, h2⟩ := rw3
    refine .inl ⟨p, ys, rfl, hs, fun hw => ?_, fun hw q hq => fin_tup F3 R3 (mcut_rv lo hi h2) hq⟩
    rw [h2.length] at hw
    have F4 : Fin X.K cl β3 H3 (.ok (.tup xs) st3) (kV X.K Q) (kX X.K cl W σ) := by
      have := F3
      simp only [gSl] at this
      rw [mcut_whole xs lo hi hw] at this
      exact this
    exact fin_val F4 R3 ⟨p, ys, rfl, hs, h2⟩
  | ref a =>
    obtain ⟨p, hp, rfl⟩ := rw3
    simp only [gSl] at F3
    split at F3
    · rename_i xs ho
      obtain ⟨ys, h1, h2⟩ := R3.get hp ho
      exact .inr ⟨p, ys, rfl, SqL.of h1, fun q hq => fin_lst F3 R3 (mcut_rv lo hi h2) hq⟩
    · rename_i xs ho
      obtain ⟨ys, h1, h2⟩ := R3.get hp ho
      exact .inr ⟨p, ys, rfl, h1.sq, fun q hq => fin_lst F3 R3 (mcut_rv lo hi h2) hq⟩
    · exact F3.elim
  | _ => exact F3.elim

/-! ### built-in calls by values -/
theorem CallR.weaken {f : Value} {r r' : List V → Hp → VK → Prop} (h : CallR X f r) (i : ∀ xs H Q, r' xs H Q → r xs H Q) : CallR X f r' := fun pins s σ H xs us Q I rx hw => h pins s σ H xs us Q I rx (i _ _ _ hw)
def gLen : List MV → M MV
  | [.str y], st => if y.length ≤ 16777216 then .ok (.int y.length) st else .bad
  | [x], st => match itemsOf st x with
    | some xs => .ok (.int xs.length) st
    | none => .bad
  | _, _ => .bad
def gInt : List MV → M MV
  | [.int i], st => .ok (.int i) st
  | [.bl b], st => .ok (.int (if b then 1 else 0)) st
  | _, _ => .bad
def gAbs : List MV → M MV
  | [.int i], st => .ok (.int (if i < 0 then -i else i)) st
  | _, _ => .bad
def gList : List MV → M MV
  | [x], st => match itemsOf st x with
    | some xs => newL xs st
    | none => .bad
  | _, _ => .bad
def gTuple : List MV → M MV
  | [x], st => match itemsOf st x with
    | some xs => .ok (.tup xs) st
    | none => .bad
  | _, _ => .bad
def optBls : List MV → Option (List Bool)
  | [] => some []
  | .bl b :: r => (optBls r).map (b :: ·)
  | _ => none
def optInts : List MV → Option (List Int)
  | [] => some []
  | .int b :: r => (optInts r).map (b :: ·)
  | _ => none
def gAll : List MV → M MV
  | [.ref a], st => match (itemsOf st (.ref a)).bind optBls with
    | some bs => .ok (.bl (bs.all id)) st
    | none => .bad
  | _, _ => .bad
def gAny : List MV → M MV
  | [.ref a], st => match (itemsOf st (.ref a)).bind optBls with
    | some bs => .ok (.bl (bs.any id)) st
    | none => .bad
  | _, _ => .bad
def gSum : List MV → M MV
  | [.ref a], st => match (itemsOf st (.ref a)).bind optInts with
    | some bs => .ok (.int bs.sum) st
    | none => .bad
  | _, _ => .bad
theorem one_of {K : PySem.W.Frag} {β : List Addr} {H : Hp} {x : MV} {ws : List V} (r : RVs K β H [x] ws) : ∃ w, ws = [w] ∧ RV K β H x w := by
  obtain ⟨y, r', rfl, h1, h2⟩ := r
  cases (show r' = [] from h2)
  exact ⟨y, rfl, h1⟩
theorem two_of {K : PySem.W.Frag} {β : List Addr} {H : Hp} {x y : MV} {ws : List V} (r : RVs K β H [x, y] ws) : ∃ w z, ws = [w, z] ∧ RV K β H x w ∧ RV K β H y z := by
  obtain ⟨w, r', rfl, h1, h2⟩ := r
  obtain ⟨z, rfl, h3⟩ := one_of h2
  exact ⟨w, z, rfl, h1, h3⟩
theorem optBls_rv {K : PySem.W.Frag} {β : List Addr} {H : Hp} : ∀ {xs : List MV} {bs : List Bool} {ys : List V}, optBls xs = some bs → RVs K β H xs ys → ys = bs.map V.bl
  | [], _, _, h, r => by cases h; exact r
  | x :: xs, bs, _, h, ⟨y, r, rfl, h1, h2⟩ => by
    cases x with
    | bl b =>
      simp only [optBls, Option.map_eq_some_iff] at h
      obtain ⟨cs, hc, rfl⟩ := h
      rw [optBls_rv hc h2, h1.bl_of]
      rfl
    | _ => cases h
theorem optInts_rv {K : PySem.W.Frag} {β : List Addr} {H : Hp} : ∀ {xs : List MV} {bs : List Int} {ys : List V}, optInts xs = some bs → RVs K β H xs ys → ys = bs.map V.int
  | [], _, _, h, r => by cases h; exact r
  | x :: xs, bs, _, h, ⟨y, r, rfl, h1, h2⟩ => by
    cases x with
    | int b =>
      simp only [optInts, Option.map_eq_some_iff] at h
      obtain ⟨cs, hc, rfl⟩ := h
      rw [optInts_rv hc h2, h1.int_of]
      rfl
    | _ => cases h
theorem items_ref {K : PySem.W.Frag} {β : List Addr} {H : Hp} {st : Mst} {a : Nat} {w : V} {xs : List MV} (R : RSt K cl β st H) (r : RV K β H (.ref a) w) (h : itemsOf st (.ref a) = some xs) : ∃ p ys, w = .ref p ∧ SqL K H p ys ∧ RVs K β H xs ys := by
  obtain ⟨p, ha, rfl⟩ := r
  simp only [itemsOf] at h
  split at h
  · rename_i zs ho
    cases h
    obtain ⟨ys, h1, h2⟩ := R.get ha ho
    exact ⟨p, ys, rfl, SqL.of h1, h2⟩
  · rename_i zs ho
    cases h
    obtain ⟨ys, h1, h2⟩ := R.get ha ho
    exact ⟨p, ys, rfl, h1.sq, h2⟩
  · cases h
theorem cg_len : CallG X cl (.builtin "len") gLen := by
  refine ⟨CallR.weaken call_len fun xs H Q ⟨β, us, st, rs, R, F⟩ => ?_, fun us st c fs st' h => ?_⟩
  · match us, rs, F with
    | [x], rs, F =>
      obtain ⟨w, rfl, r⟩ := one_of rs
      cases x with
      | str y =>
        cases r.str_of
        simp only [gLen] at F
        split at F
        · rename_i hz
          exact ⟨_, _, rfl, ⟨line_le hz, rfl⟩, fin_val F R (show _ = _ from rfl)⟩
        · exact F.elim
      | tup zs =>
        simp only [gLen, itemsOf] at F
        obtain ⟨p, ys, rfl, hs, h2⟩ := r
        exact ⟨_, _, rfl, .inr ⟨ys, hs, rfl⟩, by rw [h2.length]; exact fin_val F R (show _ = _ from rfl)⟩
      | ref a =>
        simp only [gLen] at F
        split at F
        · rename_i zs hz
          obtain ⟨p, ys, rfl, hs, h2⟩ := items_ref R r hz
          exact ⟨_, _, rfl, .inl ⟨ys, hs, rfl⟩, by rw [h2.length]; exact fin_val F R (show _ = _ from rfl)⟩
        · exact F.elim
      | _ => simp only [gLen, itemsOf] at F; exact F.elim
    | [], rs, F => exact F.elim
    | _ :: _ :: _, rs, F => simp only [gLen] at F; exact F.elim
  · unfold gLen at h
    repeat' (first | (split at h) | cases h)
theorem cg_int : CallG X cl (.type "int") gInt := by
  refine ⟨CallR.weaken call_int1 fun xs H Q ⟨β, us, st, rs, R, F⟩ => ?_, fun us st c fs st' h => ?_⟩
  · match us, rs, F with
    | [x], rs, F =>
      obtain ⟨w, rfl, r⟩ := one_of rs
      cases x with
      | int i => cases r.int_of; exact .inl ⟨i, rfl, fin_val F R (show _ = _ from rfl)⟩
      | bl i => cases r.bl_of; exact .inr ⟨i, rfl, fin_val F R (show _ = _ from rfl)⟩
      | _ => exact F.elim
    | [], rs, F => exact F.elim
    | _ :: _ :: _, rs, F => simp only [gInt] at F; exact F.elim
  · unfold gInt at h
    repeat' (first | (split at h) | cases h)
theorem cg_abs : CallG X cl (.builtin "abs") gAbs := by
  refine ⟨CallR.weaken call_abs fun xs H Q ⟨β, us, st, rs, R, F⟩ => ?_, fun us st c fs st' h => ?_⟩
  · match us, rs, F with
    | [x], rs, F =>
      obtain ⟨w, rfl, r⟩ := one_of rs
      cases x with
      | int i => cases r.int_of; exact ⟨i, rfl, fin_val F R (show _ = _ from rfl)⟩
      | _ => exact F.elim
    | [], rs, F => exact F.elim
    | _ :: _ :: _, rs, F => simp only [gAbs] at F; exact F.elim
  · unfold gAbs at h
    repeat' (first | (split at h) | cases h)
theorem cg_list : CallG X cl (.type "list") gList := by
  refine ⟨CallR.weaken call_list_of fun xs H Q ⟨β, us, st, rs, R, F⟩ => ?_, fun us st c fs st' h => ?_⟩
  · match us, rs, F with
    | [x], rs, F =>
      obtain ⟨w, rfl, r⟩ := one_of rs
      simp only [gList] at F
      split at F
      · rename_i zs hz
        obtain ⟨p, ys, rfl, hs, h2⟩ := items_sq R r hz
        unfold newL at F
        split at F
        · exact ⟨p, ys, rfl, hs, fun l hl => fin_lst F R h2 hl⟩
        · exact F.elim
      · exact F.elim
    | [], rs, F => exact F.elim
    | _ :: _ :: _, rs, F => simp only [gList] at F; exact F.elim
  · unfold gList newL at h
    repeat' (first | (split at h) | cases h)
theorem cg_tuple : CallG X cl (.type "tuple") gTuple := by
  refine ⟨CallR.weaken call_tuple_of fun xs H Q ⟨β, us, st, rs, R, F⟩ => ?_, fun us st c fs st' h => ?_⟩
  · match us, rs, F with
    | [x], rs, F =>
      obtain ⟨w, rfl, r⟩ := one_of rs
      simp only [gTuple] at F
      split at F
      · rename_i zs hz
        obtain ⟨p, ys, rfl, hs, h2⟩ := items_sq R r hz
        rcases hs with hs | hs
        · exact ⟨p, ys, rfl, .inl ⟨hs, fun l hl => fin_tup F R h2 hl⟩⟩
        · exact ⟨p, ys, rfl, .inr ⟨hs, fin_val F R ⟨p, ys, rfl, hs, h2⟩⟩⟩
      · exact F.elim
    | [], rs, F => exact F.elim
    | _ :: _ :: _, rs, F => simp only [gTuple] at F; exact F.elim
  · unfold gTuple at h
    repeat' (first | (split at h) | cases h)
theorem cg_all (hc : X.calm = true) : CallG X cl (.builtin "all") gAll := by
  refine ⟨CallR.weaken (cr_all hc) fun xs H Q ⟨β, us, st, rs, R, F⟩ => ?_, fun us st c fs st' h => ?_⟩
  · match us, rs, F with
    | [.ref a], rs, F =>
      obtain ⟨w, rfl, r⟩ := one_of rs
      simp only [gAll] at F
      split at F
      · rename_i bs hb
        obtain ⟨zs, hz, h1⟩ := Option.bind_eq_some_iff.mp hb
        obtain ⟨p, ys, rfl, hs, h2⟩ := items_ref R r hz
        rw [optBls_rv h1 h2] at hs
        exact ⟨p, bs, rfl, hs, fin_val F R (show _ = _ from rfl)⟩
      · exact F.elim
    | [], rs, F => exact F.elim
    | [.non], rs, F => exact F.elim
    | [.bl _], rs, F => exact F.elim
    | [.int _], rs, F => exact F.elim
    | [.str _], rs, F => exact F.elim
    | [.tup _], rs, F => exact F.elim
    | [.ty _], rs, F => exact F.elim
    | _ :: _ :: _, rs, F => simp only [gAll] at F; exact F.elim
  · unfold gAll at h
    repeat' (first | (split at h) | cases h)
theorem cg_sum (hc : X.calm = true) : CallG X cl (.builtin "sum") gSum := by
  refine ⟨CallR.weaken (cr_sum hc) fun xs H Q ⟨β, us, st, rs, R, F⟩ => ?_, fun us st c fs st' h => ?_⟩
  · match us, rs, F with
    | [.ref a], rs, F =>
      obtain ⟨w, rfl, r⟩ := one_of rs
      simp only [gSum] at F
      split at F
      · rename_i bs hb
        obtain ⟨zs, hz, h1⟩ := Option.bind_eq_some_iff.mp hb
        obtain ⟨p, ys, rfl, hs, h2⟩ := items_ref R r hz
        rw [optInts_rv h1 h2] at hs
        exact ⟨p, bs, rfl, hs, fin_val F R (show _ = _ from rfl)⟩
      · exact F.elim
    | [], rs, F => exact F.elim
    | [.non], rs, F => exact F.elim
    | [.bl _], rs, F => exact F.elim
    | [.int _], rs, F => exact F.elim
    | [.str _], rs, F => exact F.elim
    | [.tup _], rs, F => exact F.elim
    | [.ty _], rs, F => exact F.elim
    | _ :: _ :: _, rs, F => simp only [gSum] at F; exact F.elim
  · unfold gSum at h
    repeat' (first | (split at h) | cases h)
end
end BH

set_option Elab.async false
set_option linter.all false
set_option maxRecDepth 100000
set_option autoImplicit false
set_option maxHeartbeats 1000000
/-! Statements. -/
namespace BH
open PySem PySem.Spec PyProof.Rows L2

inductive Fl where
  | nx (env : Env)
  | rt (v : MV)
  | bk (env : Env)
  | ct (env : Env)
  | xc (c : Nat) (fs : Mfs) (env : Env)
abbrev MS := Env → M Fl
def bindX {α : Type} (env : Env) (r : Res α) (f : α → Mst → Res Fl) : Res Fl :=
  match r with
  | .ok a st => f a st
  | .ex c fs st => .ok (.xc c fs env) st
  | .bad => .bad
@[simp] theorem bindX_ok {α : Type} (env : Env) (a : α) (st : Mst) (f : α → Mst → Res Fl) : bindX env (.ok a st) f = f a st := rfl
@[simp] theorem bindX_ex {α : Type} (env : Env) (c : Nat) (fs : Mfs) (st : Mst) (f : α → Mst → Res Fl) : bindX env (.ex c fs st) f = .ok (.xc c fs env) st := rfl
@[simp] theorem bindX_bad {α : Type} (env : Env) (f : α → Mst → Res Fl) : bindX env .bad f = .bad := rfl
section
variable (K : PySem.W.Frag) (cl : Nat → Addr) (W : WX)
def kS (D : Ends) : Fl → Mst → List Addr → Hp → Prop
  | .nx env, _, β, H => ∀ σ, REnv K β H env σ → D.nx σ H
  | .rt v, _, β, H => ∀ w, RV K β H v w → D.rt w H
  | .bk env, _, β, H => ∀ σ, REnv K β H env σ → D.bk σ H
  | .ct env, _, β, H => ∀ σ, REnv K β H env σ → D.ct σ H
  | .xc c fs env, _, β, H => ∀ σ d, REnv K β H env σ → RX K β H fs d → W (.ref (cl c)) d σ H
def tS (m : MS) : TS := fun D σ H => ∃ β env st, REnv K β H env σ ∧ RSt K cl β st H ∧ Fin K cl β H (m env st) (kS K cl W D) kNo
/-- targets -/
abbrev MG := MV → Env → M Env
def tG (g : MG) : TG := fun w σ H Q => ∃ β v env st, RV K β H v w ∧ REnv K β H env σ ∧ RSt K cl β st H ∧ Fin K cl β H (g v env st) (fun env' _ β' H' => ∀ σ', REnv K β' H' env' σ' → Q σ' H') kNo
abbrev MGs := List MV → Env → M Env
def tGs (g : MGs) : TGs := fun ws σ H Q => ∃ β vs env st, RVs K β H vs ws ∧ REnv K β H env σ ∧ RSt K cl β st H ∧ Fin K cl β H (g vs env st) (fun env' _ β' H' => ∀ σ', REnv K β' H' env' σ' → Q σ' H') kNo
end
def SS (X : Cx) (cl : Nat → Addr) (W : WX) (s : Stmt) (m : MS) : Prop := PS X s (tS X.K cl W m)
def SSs (X : Cx) (cl : Nat → Addr) (W : WX) (s : List Stmt) (m : MS) : Prop := PSs X s (tS X.K cl W m)
def SG (X : Cx) (cl : Nat → Addr) (e : Expr) (g : MG) : Prop := PG X e (tG X.K cl g)
def SGs (X : Cx) (cl : Nat → Addr) (es : List Expr) (g : MGs) : Prop := PGs X es (tGs X.K cl g)
theorem PS.weaken {X : Cx} {s : Stmt} {t t' : TS} (h : PS X s t) (i : ∀ D σ H, t' D σ H → t D σ H) : PS X s t' := ⟨fun pins s σ H D I hw => h.run pins s σ H D I (i _ _ _ hw)⟩
theorem PSs.weaken {X : Cx} {s : List Stmt} {t t' : TS} (h : PSs X s t) (i : ∀ D σ H, t' D σ H → t D σ H) : PSs X s t' := ⟨fun pins s σ H D I hw => h.run pins s σ H D I (i _ _ _ hw)⟩
theorem PG.weaken {X : Cx} {e : Expr} {t t' : TG} (h : PG X e t) (i : ∀ w σ H Q, t' w σ H Q → t w σ H Q) : PG X e t' := ⟨fun pins s σ H v u Q I r hw => h.run pins s σ H v u Q I r (i _ _ _ _ hw)⟩
theorem PGs.weaken {X : Cx} {e : List Expr} {t t' : TGs} (h : PGs X e t) (i : ∀ w σ H Q, t' w σ H Q → t w σ H Q) : PGs X e t' := ⟨fun pins s σ H v u Q I r hw => h.run pins s σ H v u Q I r (i _ _ _ _ hw)⟩

section
variable {K : PySem.W.Frag} {cl : Nat → Addr} {W : WX}
theorem bindX_fin {α : Type} {r : Res α} {f : α → Mst → Res Fl} {β : List Addr} {env : Env} {σ : L2.St} {H : Hp} {D : Ends} (re : REnv K β H env σ) (F : Fin K cl β H (bindX env r f) (kS K cl W D) kNo) :
    Fin K cl β H r (fun a st' β' H' => Fin K cl β' H' (f a st') (kS K cl W D) kNo) (kX K cl W σ) := by
  cases r with
  | ok a st => exact fun β2 H2 e2 _ => Fin.weak e2 F
  | ex c fs st =>
    intro β2 H2 e2 R2 d hd
    exact F.at e2 R2 σ d (re.mono e2) hd
  | bad => exact F
theorem tMX {α : Type} {ma : ME} {f : MV → Mst → Res Fl} {β : List Addr} {env : Env} {st : Mst} {σ : L2.St} {H : Hp} {D : Ends} (re : REnv K β H env σ) (R : RSt K cl β st H)
    (F : Fin K cl β H (bindX env (ma env st) f) (kS K cl W D) kNo) {Q' : VK}
    (h : ∀ x w β' H' st', Ext K β β' H H' → RV K β' H' x w → REnv K β' H' env σ → RSt K cl β' st' H' → Fin K cl β' H' (f x st') (kS K cl W D) kNo → Q' w H') : tM K cl W ma σ H Q' :=
  ⟨β, env, st, re, R, (bindX_fin re F).imp (fun x st' β' H' e R' F' w rw => h x w β' H' st' e rw (re.mono e) R' F') fun c fs st' β' H' _ _ q => q⟩
theorem tMTX {ma : MT} {f : Bool → Mst → Res Fl} {β : List Addr} {env : Env} {st : Mst} {σ : L2.St} {H : Hp} {D : Ends} (re : REnv K β H env σ) (R : RSt K cl β st H)
    (F : Fin K cl β H (bindX env (ma env st) f) (kS K cl W D) kNo) {Q' : Bool → Hp → Prop}
    (h : ∀ x β' H' st', Ext K β β' H H' → REnv K β' H' env σ → RSt K cl β' st' H' → Fin K cl β' H' (f x st') (kS K cl W D) kNo → Q' x H') : tMT K cl W ma σ H Q' :=
  ⟨β, env, st, re, R, (bindX_fin re F).imp (fun x st' β' H' e R' F' => h x β' H' st' e (re.mono e) R' F') fun c fs st' β' H' _ _ q => q⟩
end

/-! ### plain statements -/
def sNext : MS := fun env st => .ok (.nx env) st
def sSeq (a b : MS) : MS := fun env st => (a env st).bind fun fl s1 => match fl with
  | .nx env1 => b env1 s1
  | fl => .ok fl s1
def sBreak : MS := fun env st => .ok (.bk env) st
def sCont : MS := fun env st => .ok (.ct env) st
def sBad : MS := fun _ _ => .bad
def sExpr (m : ME) : MS := fun env st => bindX env (m env st) fun _ s1 => .ok (.nx env) s1
def sRet (m : ME) : MS := fun env st => bindX env (m env st) fun v s1 => .ok (.rt v) s1
def sRetN : MS := fun _ st => .ok (.rt .non) st
def sIf (t : MT) (a b : MS) : MS := fun env st => bindX env (t env st) fun k s1 => if k = true then a env s1 else b env s1
def gtName (i : Nat) : MG := fun v env st => .ok (env.set i (some v)) st
def gtNil : MGs := fun vs env st => match vs with
  | [] => .ok env st
  | _ => .bad
def gtCons (g : MG) (r : MGs) : MGs := fun vs env st => match vs with
  | v :: vs => (g v env st).bind fun env1 s1 => r vs env1 s1
  | [] => .bad
def gtTup (n : Nat) (g : MGs) : MG := fun v env st => match v with
  | .tup xs => if xs.length = n then g xs env st else .bad
  | _ => .bad
def noX {α : Type} : Res α → Res α
  | .ok a st => .ok a st
  | _ => .bad
def gSetIx (o i v : MV) : M Unit := fun st => match o, i with
  | .ref a, .int k => match st[a]? with
    | some (.lst xs) => match mixN xs.length k with
      | some j => .ok () (st.set a (.lst (xs.set j v)))
      | none => .bad
    | _ => .bad
  | _, _ => .bad
def gtSub (o i : ME) : MG := fun v env st => (noX (o env st)).bind fun ov s1 => (noX (i env s1)).bind fun iv s2 => (gSetIx ov iv v s2).bind fun _ s3 => .ok env s3
def sAsg (m : ME) (g : MG) : MS := fun env st => bindX env (m env st) fun v s1 => (g v env s1).bind fun env1 s2 => .ok (.nx env1) s2
def sAug (i : Nat) (g : MV → MV → M MV) (m : ME) : MS := fun env st => match env[i]? with
  | some (some x) => bindX env (m env st) fun y s1 => (g x y s1).bind fun z s2 => .ok (.nx (env.set i (some z))) s2
  | _ => .bad

section
variable {X : Cx} {cl : Nat → Addr} {W : WX} {e a b c o : Expr} {m ma mb : ME} {pos : Pos} {s : Stmt} {ss : List Stmt} {p q : MS}
theorem ss_any : SS X cl W s sBad := ⟨fun pins s σ H D I ⟨β, env, st, re, R, F⟩ => F.elim⟩
theorem sss_any : SSs X cl W ss sBad := ⟨fun pins s σ H D I ⟨β, env, st, re, R, F⟩ => F.elim⟩
theorem sss_nil : SSs X cl W [] sNext := PSs.weaken pss_nil fun D σ H ⟨β, env, st, re, R, F⟩ => F.here R σ re
theorem sss_cons (h1 : SS X cl W s p) (h2 : SSs X cl W ss q) : SSs X cl W (s :: ss) (sSeq p q) := by
  refine PSs.weaken (pss_cons h1 h2) fun D σ H ⟨β, env, st, re, R, F⟩ => ?_
  refine ⟨β, env, st, re, R, F.bind.imp (fun fl st1 β1 H1 e1 R1 F1 => ?_) fun _ _ _ _ _ _ _ q => q⟩
  cases fl with
  | nx env1 => exact fun σ1 re1 => ⟨β1, env1, st1, re1, R1, F1⟩
  | rt v => exact F1.here R1
  | bk env1 => exact F1.here R1
  | ct env1 => exact F1.here R1
  | xc c fs env1 => exact F1.here R1
theorem sss_one (h1 : SS X cl W s p) : SSs X cl W [s] p := pss_one h1
theorem ss_pass : SS X cl W (.Pass pos) sNext := PS.weaken ps_pass fun D σ H ⟨β, env, st, re, R, F⟩ => F.here R σ re
theorem ss_break : SS X cl W (.Break pos) sBreak := PS.weaken ps_break fun D σ H ⟨β, env, st, re, R, F⟩ => F.here R σ re
theorem ss_continue : SS X cl W (.Continue pos) sCont := PS.weaken ps_continue fun D σ H ⟨β, env, st, re, R, F⟩ => F.here R σ re
theorem ss_expr (he : SE X cl W e m) (hs : swapsWith e none pos.line X.env = pure false := by rfl) : SS X cl W (.Expr e pos) (sExpr m) := by
  refine PS.weaken (ps_expr he hs) fun D σ H ⟨β, env, st, re, R, F⟩ => ?_
  exact tMX (α := Unit) re R F fun x w β1 H1 st1 e1 rw re1 R1 F1 => F1.here R1 σ re1
theorem ss_ret (he : SE X cl W e m) : SS X cl W (.Return (some e) pos) (sRet m) := by
  refine PS.weaken (ps_ret he) fun D σ H ⟨β, env, st, re, R, F⟩ => ?_
  exact tMX (α := Unit) re R F fun x w β1 H1 st1 e1 rw re1 R1 F1 => F1.here R1 w rw
theorem ss_retN : SS X cl W (.Return none pos) sRetN := PS.weaken ps_retN fun D σ H ⟨β, env, st, re, R, F⟩ => F.here R .non rfl
theorem ss_if {t : MT} {as bs : List Stmt} (hc : ST X cl W c t) (ha : SSs X cl W as p) (hb : SSs X cl W bs q) : SS X cl W (.If c as bs pos) (sIf t p q) := by
  refine PS.weaken (ps_if hc ha hb) fun D σ H ⟨β, env, st, re, R, F⟩ => ?_
  refine tMTX re R F fun x β1 H1 st1 e1 re1 R1 F1 => ?_
  cases x with
  | true => rw [if_pos rfl] at F1 ⊢; exact ⟨β1, env, st1, re1, R1, F1⟩
  | false => rw [if_neg (by decide)] at F1 ⊢; exact ⟨β1, env, st1, re1, R1, F1⟩
theorem sg_name {i : Nat} {x : Str} (hN : X.N.Nodup) (hi : X.N[i]? = some x) (hx : Loc X.env.scope x) (hf : X.fn x = true ∨ X.env.scope.names.lookup x = some .local := by first | exact .inl rfl | exact .inr rfl | assumption) : SG X cl (.Name x pos) (gtName i) :=
  PG.weaken (pg_name hN hi hx hf) fun w σ H Q ⟨β, v, env, st, rv, re, R, F⟩ => F.here R _ (re.set rv)
theorem sgs_nil : SGs X cl [] gtNil := PGs.weaken pgs_nil fun ws σ H Q ⟨β, vs, env, st, rv, re, R, F⟩ => by
  cases vs with
  | nil => exact ⟨rv, F.here R _ re⟩
  | cons x xs => exact F.elim
theorem sgs_cons {es : List Expr} {g : MG} {r : MGs} (h1 : SG X cl e g) (h2 : SGs X cl es r)
    (hs : (assignEach (e :: es) X.env).map (·.2) = assign e X.env :: (assignEach es X.env).map (·.2) := by rfl) : SGs X cl (e :: es) (gtCons g r) := by
  refine PGs.weaken (pgs_cons h1 h2 hs) fun ws σ H Q ⟨β, vs, env, st, rv, re, R, F⟩ => ?_
  cases vs with
  | nil => exact F.elim
  | cons v vs =>
    obtain ⟨w, ws', rfl, r1, r2⟩ := rv
    refine ⟨w, ws', rfl, β, v, env, st, r1, re, R, F.bind.imp (fun env1 st1 β1 H1 e1 R1 F1 σ1 re1 => ?_) fun _ _ _ _ _ _ _ q => q⟩
    exact ⟨β1, vs, env1, st1, r2.mono e1, re1, R1, F1⟩
theorem sg_tup {es : List Expr} {k : Nat} {r : MGs} {n : Nat} (hc : X.calm = true) (h : SGs X cl es r)
    (hn : (assignEach es X.env).length = n := by rfl) (hst : (assignEach es X.env).findIdx? (·.1) = none := by rfl) : SG X cl (.Tuple es k pos) (gtTup n r) := by
  refine PG.weaken (pg_tup hc h hn hst) fun w σ H Q ⟨β, v, env, st, rv, re, R, F⟩ => ?_
  cases v with
  | tup xs =>
    obtain ⟨p, ys, rfl, hs, h2⟩ := rv
    simp only [gtTup] at F
    split at F
    · rename_i hl
      exact ⟨p, ys, rfl, hs, by rw [h2.length, hl], β, xs, env, st, h2, re, R, F⟩
    · exact F.elim
  | _ => exact F.elim
/-- no exception: any wish -/
theorem tM_noX {K : PySem.W.Frag} {W' : WX} {α : Type} {ma : ME} {f : MV → Mst → Res α} {β : List Addr} {env : Env} {st : Mst} {σ : L2.St} {H : Hp} {k : α → Mst → List Addr → Hp → Prop} {ke : Nat → Mfs → Mst → List Addr → Hp → Prop} (re : REnv K β H env σ) (R : RSt K cl β st H)
    (F : Fin K cl β H ((noX (ma env st)).bind f) k ke) {Q' : VK}
    (h : ∀ x w β' H' st', Ext K β β' H H' → RV K β' H' x w → REnv K β' H' env σ → RSt K cl β' st' H' → Fin K cl β' H' (f x st') k ke → Q' w H') : tM K cl W' ma σ H Q' := by
  refine ⟨β, env, st, re, R, ?_⟩
  cases hm : ma env st with
  | ok v s1 =>
    rw [hm] at F
    exact fun β' H' e R' w rw => h v w β' H' s1 e rw (re.mono e) R' (Fin.weak e F)
  | ex c fs s1 => rw [hm] at F; exact F.elim
  | bad => rw [hm] at F; exact F.elim
theorem tMT_noX {K : PySem.W.Frag} {W' : WX} {α : Type} {ma : MT} {f : Bool → Mst → Res α} {β : List Addr} {env : Env} {st : Mst} {σ : L2.St} {H : Hp} {k : α → Mst → List Addr → Hp → Prop} {ke : Nat → Mfs → Mst → List Addr → Hp → Prop} (re : REnv K β H env σ) (R : RSt K cl β st H)
    (F : Fin K cl β H ((noX (ma env st)).bind f) k ke) {Q' : Bool → Hp → Prop}
    (h : ∀ x β' H' st', Ext K β β' H H' → REnv K β' H' env σ → RSt K cl β' st' H' → Fin K cl β' H' (f x st') k ke → Q' x H') : tMT K cl W' ma σ H Q' := by
  refine ⟨β, env, st, re, R, ?_⟩
  cases hm : ma env st with
  | ok v s1 =>
    rw [hm] at F
    exact fun β' H' e R' => h v β' H' s1 e (re.mono e) R' (Fin.weak e F)
  | ex c fs s1 => rw [hm] at F; exact F.elim
  | bad => rw [hm] at F; exact F.elim
theorem sg_sub {W' : WX} {mo mi : ME} (ho : SE X cl W' o mo) (hi : SE X cl W' e mi)
    (ha : ∀ v, assign (.Subscript o e pos) X.env v = (do
      let ov ← holding [v] (eval o X.env)
      let iv ← holding [v, ov] (eval e X.env)
      standAt pos
      holding [v, ov, iv] (setItem ov iv v)
      release [v, ov, iv] []) := by intro _; rfl) : SG X cl (.Subscript o e pos) (gtSub mo mi) := by
  refine PG.weaken (pg_sub ho hi set_list ha) fun w σ H Q ⟨β, v, env, st, rv, re, R, F⟩ => ?_
  refine tM_noX re R F fun x z β1 H1 st1 e1 rx re1 R1 F1 => ?_
  refine tM_noX re1 R1 F1 fun y z2 β2 H2 st2 e2 ry re2 R2 F2 => ?_
  have rx2 := rx.mono e2
  have rv2 := (rv.mono e1).mono e2
  cases x with
  | ref a =>
    cases y with
    | int k =>
      obtain ⟨p, hp, rfl⟩ := rx2
      cases ry.int_of
      simp only [gSetIx] at F2
      split at F2
      · rename_i xs ho
        split at F2
        · rename_i j hj
          simp only [Res.bind_ok] at F2
          obtain ⟨ys, h1, h2⟩ := R2.get hp ho
          have hm : Mut (H2 p) := by rw [h1]; trivial
          refine ⟨p, ys, k, j, rfl, rfl, h1, by rw [h2.length]; exact hj, ?_⟩
          exact F2.at (.upd (.inr hm)) (R2.set hp ho rfl rfl ⟨_, upd_same, (h2.set j rv2).mono (.upd (.inr hm))⟩) _ (re2.mono (.upd (.inr hm)))
        · exact F2.elim
      · exact F2.elim
    | _ => exact F2.elim
  | _ => exact F2.elim
theorem ss_asg {tg : Expr} {g : MG} (he : SE X cl W e m) (hg : SG X cl tg g) (hs : swapsWithSole [tg] e pos.line X.env = pure false := by rfl) (hw : swappedStores [tg] e X.env = pure none := by rfl)
    (h1 : (assignEach [tg] X.env).map (·.2) = [assign tg X.env] := by rfl) : SS X cl W (.Assign [tg] e pos) (sAsg m g) := by
  refine PS.weaken (ps_asg he hg hs hw h1) fun D σ H ⟨β, env, st, re, R, F⟩ => ?_
  refine tMX (α := Unit) re R F fun x w β1 H1 st1 e1 rw re1 R1 F1 => ?_
  exact ⟨β1, x, env, st1, rw, re1, R1, F1.bind.imp (fun env2 st2 β2 H2 e2 R2 F2 σ2 re2 => F2.here R2 σ2 re2) fun _ _ _ _ _ _ _ q => q⟩
theorem ss_set {i : Nat} {x : Str} {pos' : Pos} (hN : X.N.Nodup) (hi : X.N[i]? = some x) (hx : Loc X.env.scope x) (he : SE X cl W e m) (hs : swapsWith e (some (.Name x pos')) pos.line X.env = pure false := by rfl) (hf : X.fn x = true ∨ X.env.scope.names.lookup x = some .local := by first | exact .inl rfl | exact .inr rfl | assumption) :
    SS X cl W (.Assign [.Name x pos'] e pos) (sAsg m (gtName i)) := by
  refine PS.weaken (ps_set hN hi hx he hs hf) fun D σ H ⟨β, env, st, re, R, F⟩ => ?_
  exact tMX (α := Unit) re R F fun x w β1 H1 st1 e1 rw re1 R1 F1 => F1.here R1 _ (re1.set rw)
/-- name op= e -/
structure IpG (X : Cx) (cl : Nat → Addr) (op : Operator) (g : MV → MV → M MV) : Prop where
  run : PIp X op (rG2 X.K cl g)
  nx : ∀ u v st c fs st', g u v st ≠ .ex c fs st'
theorem PIp.weaken {op : Operator} {t t' : TIp} (h : PIp X op t) (i : ∀ x y H Q, t' x y H Q → t x y H Q) : PIp X op t' := fun pins s σ H x y v u Q I r1 r2 hw => h pins s σ H x y v u Q I r1 r2 (i _ _ _ _ hw)
def gIAdd : MV → MV → M MV
  | .int i, .int j, st => .ok (.int (i + j)) st
  | .str a, .str b, st => if a.length + b.length ≤ 16777216 then .ok (.str (a ++ b)) st else .bad
  | _, _, _ => .bad
theorem ipg_of {op : Operator} {g : MV → MV → M MV} (h : OpG X cl (inplaceOp op) g) : IpG X cl op g := ⟨fun pins s σ H x y v u Q I r1 r2 hw => h.run pins s σ H x y v u Q I r1 r2 hw, h.nx⟩
theorem og_iadd : OpG X cl (inplaceOp .Add) gIAdd := by
  refine ⟨OpR.weaken (OpR.or iop_add iop_add_str) fun x y H Q ⟨β, u, v, st, ru, rv, R, F⟩ => ?_, fun u v st c fs st' h => ?_⟩
  · cases u with
    | int i =>
      cases v with
      | int j => cases ru.int_of; cases rv.int_of; exact .inl ⟨i, j, rfl, rfl, fin_val F R (show _ = _ from rfl)⟩
      | _ => exact F.elim
    | str i =>
      cases v with
      | str j =>
        cases ru.str_of
        cases rv.str_of
        simp only [gIAdd] at F
        split at F
        · rename_i h
          exact .inr ⟨i, j, rfl, rfl, line_le h, fin_val F R (show _ = _ from rfl)⟩
        · exact F.elim
      | _ => exact F.elim
    | _ => exact F.elim
  · cases u <;> cases v <;> simp only [gIAdd] at h <;> (repeat' (first | (split at h) | cases h))
theorem og_isub : OpG X cl (inplaceOp .Sub) gSub := by
  refine ⟨OpR.weaken iop_sub fun x y H Q ⟨β, u, v, st, ru, rv, R, F⟩ => ?_, fun u v st c fs st' h => by cases u <;> cases v <;> cases h⟩
  cases u with
  | int i =>
    cases v with
    | int j => cases ru.int_of; cases rv.int_of; exact ⟨i, j, rfl, rfl, fin_val F R (show _ = _ from rfl)⟩
    | _ => exact F.elim
  | _ => exact F.elim
theorem ss_aug {i : Nat} {x : Str} {op : Operator} {g : MV → MV → M MV} {pos' : Pos} (hN : X.N.Nodup) (hi : X.N[i]? = some x) (hx : Loc X.env.scope x) (he : SE X cl W e m) (ho : OpG X cl (inplaceOp op) g) (hf : X.fn x = true ∨ X.env.scope.names.lookup x = some .local := by first | exact .inl rfl | exact .inr rfl | assumption) :
    SS X cl W (.AugAssign (.Name x pos') op e pos) (sAug i g m) := by
  refine PS.weaken (ps_aug hN hi hx he (ipg_of ho).run hf) fun D σ H ⟨β, env, st, re, R, F⟩ => ?_
  unfold sAug at F
  split at F
  · rename_i v hv
    obtain ⟨w, h1, h2⟩ := re.at_ i v hv
    refine ⟨w, h1, ?_⟩
    refine tMX (α := Unit) re R F fun y z β1 H1 st1 e1 rz re1 R1 F1 => ?_
    exact ⟨β1, v, y, st1, h2.mono e1, rz, R1, fin_no (ho.nx _ _ _) (F1.bind.imp (fun v2 st2 β2 H2 e2 R2 F2 w2 r2 => F2.here R2 _ ((re1.mono e2).set r2)) fun _ _ _ _ _ _ _ q => q)⟩
  · exact F.elim
end
end BH

set_option Elab.async false
set_option linter.all false
set_option maxRecDepth 100000
set_option autoImplicit false
set_option maxHeartbeats 1000000
/-! Defs, calls, instances, methods of lists. -/
namespace BH
open PySem PySem.Spec PyProof.Rows L2

/-! ### defs -/
def finB (r : Res Fl) : Res MV := match r with
  | .ok (.rt v) st => .ok v st
  | .ok (.nx _) st => .ok .non st
  | .ok (.xc c fs _) st => .ex c fs st
  | _ => .bad
@[simp] theorem finB_rt (v : MV) (st : Mst) : finB (.ok (.rt v) st) = .ok v st := rfl
@[simp] theorem finB_nx (env : Env) (st : Mst) : finB (.ok (.nx env) st) = .ok .non st := rfl
@[simp] theorem finB_xc (c : Nat) (fs : Mfs) (env : Env) (st : Mst) : finB (.ok (.xc c fs env) st) = .ex c fs st := rfl
/-- a def with n parameters and N names -/
def fnM (N n : Nat) (body : MS) : List MV → M MV := fun us st => if us.length = n then finB (body (us.map some ++ List.replicate (N - n) none) st) else .bad
def spM (K : PySem.W.Frag) (cl : Nat → Addr) (n : Nat) (fm : List MV → M MV) : Sp := fun vs H Q E => vs.length = n ∧ ∃ β us st, RVs K β H us vs ∧ RSt K cl β st H ∧ Fin K cl β H (fm us st) (kV K Q) (fun c fs _ β' H' => ∀ d, RX K β' H' fs d → E (.ref (cl c)) d H')
structure FnG (P : Program) (w : World) (K : PySem.W.Frag) (mg : Str → Option Value) (base : Heap) (cl : Nat → Addr) (k : Nat) (f : Addr) (fd : FuncData) (ps : List Str) (fm : List MV → M MV) : Prop where
  ok : FnOk P w K mg base (L2.CX P w) k f fd ps (spM K cl ps.length fm)
  len : ∀ us st, us.length ≠ ps.length → fm us st = .bad
section
variable {P : Program} {w : World} {K : PySem.W.Frag} {mg : Str → Option Value} {base : Heap} {cl : Nat → Addr}
theorem FnG.mono {j k : Nat} {f : Addr} {fd : FuncData} {ps : List Str} {fm : List MV → M MV} (F : FnG P w K mg base cl j f fd ps fm) (h : j ≤ k) : FnG P w K mg base cl k f fd ps fm := ⟨F.ok.mono h, F.len⟩
/-- the wish of a def's body -/
abbrev wD (E : XK) : WX := fun cls d _ H => E cls d H
theorem tk_cx {N : List Str} {qual : Str} {scope : Scope} {f : Addr} {cd : Value} {A : Around} {outer : List PySem.Env} {s : Shared} {H : Hp} {E : XK} : Takes (cxOf (L2.CX P w) P w K mg base N qual scope f cd A outer s H E) (wD E) := takes_of rfl rfl rfl rfl
theorem po_cx {N : List Str} {qual : Str} {scope : Scope} {f : Addr} {cd : Value} {A : Around} {outer : List PySem.Env} {s : Shared} {H : Hp} {E : XK} :
    PassesOwn (model P w) (cxOf (L2.CX P w) P w K mg base N qual scope f cd A outer s H E).A (cxOf (L2.CX P w) P w K mg base N qual scope f cd A outer s H E).env (cxOf (L2.CX P w) P w K mg base N qual scope f cd A outer s H E).xe := by
  have h := passes_of (X := cxOf (L2.CX P w) P w K mg base N qual scope f cd A outer s H E) (K := fun e s'' => L2.CX P w outer H s E e s'') (E₁ := fun e s'' => L2.CX P w outer H s E e s'') rfl
  exact h
theorem FnG.of {x qual : Str} {st : Stmt} {f : Addr} {fd : FuncData} {N ps : List Str} {k : Nat} {body : MS} (F : L2.Fun K x qual st f fd) (S : FnScope N ps (defScope st))
    (hbody : ∀ (cdv : Value) (A : Around) (outer : List PySem.Env) (s : Shared) (H : Hp) (E : XK), Room k (A.deeper (envOfC qual (defScope st) s.heap.objs.size f cdv)) →
      SSs (cxOf (L2.CX P w) P w K mg base N qual (defScope st) f cdv A outer s H E) cl (wD E) (defBody st) body) : FnG P w K mg base cl (k + 1) f fd ps (fnM N.length ps.length body) := by
  have hlen : ∀ us st, us.length ≠ ps.length → fnM N.length ps.length body us st = .bad := fun us st h => by unfold fnM; rw [if_neg h]
  refine ⟨Fun.okX F S (fun vs H Q E h => h.1) fun cdv A outer s H vs Q E hr h => ?_, hlen⟩
  obtain ⟨hl, β, us, st0, rs, R, Fi⟩ := h
  refine ⟨_, hbody cdv A outer s H E hr, β, us.map some ++ List.replicate (N.length - ps.length) none, st0, ?_, R, ?_⟩
  · have ul : us.length = vs.length := rs.length.symm
    refine ⟨by simp [L2.start, ul, hl], fun i v hv => ?_⟩
    by_cases hi : i < us.length
    · rw [List.getElem?_append_left (by simpa using hi), List.getElem?_map] at hv
      cases hu : us[i]? with
      | none => rw [hu] at hv; cases hv
      | some u =>
        rw [hu] at hv
        cases hv
        obtain ⟨y, h1, h2⟩ := rs.get hu
        refine ⟨y, ?_, h2⟩
        unfold L2.start
        rw [List.getElem?_append_left (by simp; omega), List.getElem?_map, h1]
        rfl
    · rw [List.getElem?_append_right (by simpa using hi)] at hv
      rw [List.getElem?_replicate] at hv
      split at hv <;> cases hv
  · unfold fnM at Fi
    rw [if_pos (by rw [← hl]; exact rs.length.symm)] at Fi
    cases hb : body (us.map some ++ List.replicate (N.length - ps.length) none) st0 with
    | ok fl s1 =>
      rw [hb] at Fi
      cases fl with
      | nx env1 => exact fun β' H' e R' σ' re' => Fi.at e R' .non rfl
      | rt v => exact fun β' H' e R' w rw => Fi.at e R' w rw
      | bk env1 => exact Fi.elim
      | ct env1 => exact Fi.elim
      | xc c fs env1 => exact fun β' H' e R' σ' d re' hd => Fi β' H' e R' d hd
    | ex c fs s1 => rw [hb] at Fi; exact Fi.elim
    | bad => rw [hb] at Fi; exact Fi.elim
end

/-! ### calls -/
def mCallF (fm : List MV → M MV) (r : MA) (ds : List MV) : ME := fun env st => (r env st).bind fun vs s1 => fm (vs ++ ds) s1
def RKs (K : PySem.W.Frag) (vs : List MV) (ws : List V) : Prop := ∀ β H, RVs K β H vs ws
theorem rks_nil {K : PySem.W.Frag} : RKs K [] [] := fun _ _ => rfl
section
variable {X : Cx} {cl : Nat → Addr} {W : WX} {e o : Expr} {es : List Expr} {m mo : ME} {r : MA} {k : Nat} {f C : Addr} {fd : FuncData} {ps : List Str} {fm : List MV → M MV} {ds : List Value} {dvs : List V} {dms : List MV} {x mt : Str} {p pos apos : Pos}
theorem sp_call {β : List Addr} {H : Hp} {σ : L2.St} {us : List MV} {ws : List V} {st : Mst} {Q : VK} (F : FnG X.prog X.w X.K X.mg X.base cl k f fd ps fm) (hdm : RKs X.K dms dvs) (R : RSt X.K cl β st H) (rs : RVs X.K β H us ws) (Fi : Fin X.K cl β H (fm (us ++ dms) st) (kV X.K Q) (kX X.K cl W σ)) :
    spM X.K cl ps.length fm (ws ++ dvs) H Q (WE W σ) := by
  have ra := rs.append (hdm β H)
  refine ⟨?_, β, us ++ dms, st, ra, R, Fi⟩
  rw [ra.length]
  by_cases h : (us ++ dms).length = ps.length
  · exact h
  · rw [F.len _ _ h] at Fi
    exact Fi.elim
theorem se_call (F : FnG X.prog X.w X.K X.mg X.base cl k f fd ps fm) (hr : Room k X.A) (hg : Gl X x) (hm : X.mg x = some (.ref f)) (hk : PySem.W.keepIn X.K (.ref f) = true) (hb : Binds X.K fd ps ds) (hd : Vals dvs ds) (hdm : RKs X.K dms dvs) (tk : Takes X W)
    (ha : SA X cl W (e :: es) r) (hdb : (x == ("__debug__" : Str)) = false := by decide) (he : starEach (e :: es) X.env = (false, eval e X.env) :: starEach es X.env := by rfl) (hpl : (backTo pos (starEach es X.env)).any (·.1) = false := by rfl) :
    SE X cl W (.Call (.Name x p) (e :: es) [] pos) (mCallF fm r dms) := by
  refine PE.weaken (pe_callSD (E := WE W) F.ok hr hg hm hk hb hd (fun σ => passAt tk σ) ha hdb he hpl) fun σ H Q ⟨β, env, st, re, R, Fi⟩ => ?_
  exact tMA_bind re R Fi fun us ws β1 H1 st1 e1 rs re1 R1 F1 => sp_call F hdm R1 rs F1
theorem se_call0 (F : FnG X.prog X.w X.K X.mg X.base cl k f fd ps fm) (hr : Room k X.A) (hg : Gl X x) (hm : X.mg x = some (.ref f)) (hk : PySem.W.keepIn X.K (.ref f) = true) (hb : Binds X.K fd ps ds) (hd : Vals dvs ds) (hdm : RKs X.K dms dvs) (tk : Takes X W)
    (hdb : (x == ("__debug__" : Str)) = false := by decide) : SE X cl W (.Call (.Name x p) [] [] pos) (mCallF fm mNil dms) := by
  refine ⟨fun pins s σ H Q I ⟨β, env, st, re, R, Fi⟩ => ?_⟩
  refine wpAny_Call_Name_kw (ld_glob I hg hm ?_ hdb)
  exact PySem.W.callWith_K0 I.kIn hk (run_fnSD (us := []) (E := WE W) F.ok hr hb hd (passAt tk σ) I .nil (sp_call F hdm R (show RVs X.K β H [] [] from rfl) Fi))

/-! ### instances -/
def getF (cs : List Nat) (f : Str) (x : MV) : M MV := fun st => match x with
  | .ref a => match st[a]? with
    | some (.ins c fs) => if c ∈ cs then match fs.lookup f with
      | some v => .ok v st
      | none => .bad
      else .bad
    | _ => .bad
  | _ => .bad
def putFM (cs : List Nat) (f : Str) (x v : MV) : M Unit := fun st => match x with
  | .ref a => match st[a]? with
    | some (.ins c fs) => if c ∈ cs ∧ fs.length < 900 then .ok () (st.set a (.ins c (mputF f v fs))) else .bad
    | _ => .bad
  | _ => .bad
def ClsA (K : PySem.W.Frag) (cl : Nat → Addr) (cs : List Nat) (f : Str) : Prop := ∀ c, c ∈ cs → Cls K (cl c) ∧ NoAttr K (cl c) f
def mFld (cs : List Nat) (f : Str) (a : ME) : ME := mUn (getF cs f) a
theorem se_fld {cs : List Nat} {f : Str} (hc : ClsA X.K cl cs f) (he : SE X cl W e m) (hb : attributeBase e f X.env (eval e X.env) = eval e X.env := by rfl) : SE X cl W (.Attribute e f pos) (mFld cs f m) := by
  refine PE.weaken (pe_fld he hb) fun σ H Q ⟨β, env, st, re, R, F⟩ => ?_
  refine tM_bind re R F fun y w β1 H1 st1 e1 rw re1 R1 F1 => ?_
  unfold getF at F1
  split at F1
  · rename_i a
    obtain ⟨q, hq, rfl⟩ := rw.ref_of
    split at F1
    · rename_i c fs ho
      split at F1
      · rename_i hin
        split at F1
        · rename_i v hv
          obtain ⟨dx, gs, h1, h2, h3⟩ := R1.get hq ho
          obtain ⟨u, h4, h5⟩ := h3.lookup hv
          exact ⟨q, cl c, dx, gs, u, rfl, h1, (hc c hin).1, (hc c hin).2, h4, fin_val F1 R1 h5⟩
        · exact F1.elim
      · exact F1.elim
    · exact F1.elim
  · exact F1.elim
def sFldM (cs : List Nat) (f : Str) (a v : ME) : MS := fun env st => bindX env (v env st) fun y s1 => bindX env (a env s1) fun x s2 => (putFM cs f x y s2).bind fun _ s3 => .ok (.nx env) s3
theorem fld_put {β : List Addr} {H : Hp} {st : Mst} {a : Nat} {q : Addr} {c : Nat} {fs : Mfs} {v : MV} {w : V} {f : Str} {dx : Addr} {gs : List (Str × V)} (R : RSt X.K cl β st H) (hq : β[a]? = some q) (ho : st[a]? = some (.ins c fs)) (h1 : H q = some (.ins (cl c) dx gs)) (h2 : H dx = some (.own q)) (h3 : RFs X.K β H fs gs) (rv : RV X.K β H v w) :
    Ext X.K β β H (upd H q (.ins (cl c) dx (putF f w gs))) ∧ RSt X.K cl β (st.set a (.ins c (mputF f v fs))) (upd H q (.ins (cl c) dx (putF f w gs))) := by
  have hm : Mut (H q) := by rw [h1]; trivial
  have ne : dx ≠ q := by rintro rfl; rw [h1] at h2; cases h2
  refine ⟨.upd (.inr hm), R.set hq ho rfl rfl ⟨dx, _, upd_same, by rw [upd_ne ne]; exact h2, RFs.put (rv.mono (.upd (.inr hm))) (h3.mono (.upd (.inr hm)))⟩⟩
theorem ss_fld {cs : List Nat} {f : Str} {mv : ME} {value : Expr} {pos' : Pos} (hc : ClsA X.K cl cs f) (ho : SE X cl W o mo) (hv : SE X cl W value mv) (hs : swapsWith value (some (.Attribute o f pos')) pos.line X.env = pure false := by rfl) : SS X cl W (.Assign [.Attribute o f pos'] value pos) (sFldM cs f mo mv) := by
  refine PS.weaken (ps_fld ho hv hs) fun σ0 σ H ⟨β, env, st, re, R, F⟩ => ?_
  refine tMX (α := Unit) re R F fun y w β1 H1 st1 e1 rw re1 R1 F1 => ?_
  refine tMX (α := Unit) re1 R1 F1 fun z u β2 H2 st2 e2 ru re2 R2 F2 => ?_
  unfold putFM at F2
  split at F2
  · rename_i a
    obtain ⟨q, hq, rfl⟩ := ru.ref_of
    split at F2
    · rename_i c fs ho
      split at F2
      · rename_i hin
        obtain ⟨dx, gs, h1, h2, h3⟩ := R2.get hq ho
        obtain ⟨q1, q2⟩ := fld_put (f := f) R2 hq ho h1 h2 h3 (rw.mono e2)
        exact ⟨q, cl c, dx, gs, rfl, h1, (hc c hin.1).1, (hc c hin.1).2, by rw [h3.length]; omega, F2.at q1 q2 σ (re2.mono q1)⟩
      · exact F2.elim
    · exact F2.elim
  · exact F2.elim
def sFldAugM (c0 : Nat) (f : Str) (g : MV → MV → M MV) (a v : ME) : MS := fun env st => bindX env (a env st) fun x s1 => (getF [c0] f x s1).bind fun old s2 => bindX env (v env s2) fun y s3 => (g old y s3).bind fun z s4 => (putFM [c0] f x z s4).bind fun _ s5 => .ok (.nx env) s5
theorem ss_fldaug {c0 : Nat} {f : Str} {mv : ME} {value : Expr} {tpos : Pos} {op : Operator} {g : MV → MV → M MV} (hc : ClsA X.K cl [c0] f) (ho : SE X cl W o mo) (hv : SE X cl W value mv) (hop : OpG X cl (inplaceOp op) g) : SS X cl W (.AugAssign (.Attribute o f tpos) op value pos) (sFldAugM c0 f g mo mv) := by
  refine PS.weaken (ps_fldaug (rd := rG2 X.K cl g) ho hv (fun pins s σ H x y u v Q I r1 r2 hw => hop.run pins s σ H x y u v Q I r1 r2 hw)) fun D σ H ⟨β, env, st, re, R, F⟩ => ?_
  refine tMX (α := Unit) re R F fun y w β1 H1 st1 e1 rw re1 R1 F1 => ?_
  unfold getF at F1
  split at F1
  · rename_i a
    obtain ⟨q, hq, rfl⟩ := rw.ref_of
    split at F1
    · rename_i c fs ho
      split at F1
      · rename_i hin
        split at F1
        · rename_i v0 hv0
          obtain ⟨dx, gs, h1, h2, h3⟩ := R1.get hq ho
          obtain ⟨u, h4, h5⟩ := h3.lookup hv0
          refine ⟨q, cl c, dx, gs, u, rfl, h1, (hc c hin).1, (hc c hin).2, h4, ?_⟩
          refine tMX (α := Unit) re1 R1 F1 fun y2 w2 β2 H2 st2 e2 rw2 re2 R2 F2 => ?_
          refine ⟨β2, v0, y2, st2, h5.mono e2, rw2, R2, fin_no (hop.nx _ _ _) (F2.bind.imp (fun z st3 β3 H3 e3 R3 F3 w3 r3 => ?_) fun _ _ _ _ _ _ _ q => q)⟩
          unfold putFM at F3
          simp only at F3
          split at F3
          · rename_i c' fs' ho'
            split at F3
            · rename_i hin'
              have hq3 := e3.pre _ _ (e2.pre _ _ hq)
              obtain ⟨dx', gs', h1', h2', h3'⟩ := R3.get hq3 ho'
              obtain ⟨q1, q2⟩ := fld_put (f := f) R3 hq3 ho' h1' h2' h3' r3
              have ec : c = c0 := by simpa using hin
              have ec' : c' = c0 := by simpa using hin'.1
              rw [ec'] at h1' q1 q2
              rw [ec]
              exact ⟨dx', gs', h1', by rw [h3'.length]; omega, F3.at q1 (by rw [ec'] ; exact q2) σ ((re2.mono e3).mono q1)⟩
            · exact F3.elim
          · exact F3.elim
        · exact F1.elim
      · exact F1.elim
    · exact F1.elim
  · exact F1.elim
end
end BH

set_option Elab.async false
set_option linter.all false
set_option maxRecDepth 100000
set_option autoImplicit false
set_option maxHeartbeats 1000000
/-! Methods, making, methods of lists, loops. -/
namespace BH
open PySem PySem.Spec PyProof.Rows L2

section
variable {X : Cx} {cl : Nat → Addr} {W : WX} {e o : Expr} {es : List Expr} {m mo : ME} {r : MA} {k : Nat} {f C : Addr} {fd : FuncData} {ps : List Str} {fm : List MV → M MV} {ds : List Value} {dvs : List V} {dms : List MV} {x mt : Str} {p pos apos : Pos}
/-! ### o.m(..) of an instance of class c -/
def clsOf (c : Nat) (mt : Str) (x : MV) (st : Mst) : Bool := match x with
  | .ref a => match st[a]? with
    | some (.ins c' fs) => c' == c && (fs.lookup mt).isNone
    | _ => false
  | _ => false
def mMeth (c : Nat) (mt : Str) (fm : List MV → M MV) (o : ME) (r : MA) (ds : List MV) : ME := fun env st => (o env st).bind fun x s1 => if clsOf c mt x s1 = true then (r env s1).bind fun vs s2 => fm (x :: (vs ++ ds)) s2 else .bad
theorem clsOf_rv {K : PySem.W.Frag} {β : List Addr} {H : Hp} {c : Nat} {y : MV} {w : V} {st : Mst} (R : RSt K cl β st H) (r : RV K β H y w) (h : clsOf c mt y st = true) : ∃ a dx gs, w = .ref a ∧ H a = some (.ins (cl c) dx gs) ∧ gs.lookup mt = none := by
  unfold clsOf at h
  split at h
  · rename_i a
    obtain ⟨q, hq, rfl⟩ := r.ref_of
    split at h
    · rename_i c' fs ho
      rw [Bool.and_eq_true] at h
      obtain ⟨h1, h2⟩ := h
      have : c' = c := by simpa using h1
      subst this
      obtain ⟨dx, gs, g1, g2, g3⟩ := R.get hq ho
      exact ⟨q, dx, gs, rfl, g1, g3.lookup_none (by simpa using h2)⟩
    · cases h
  · cases h
theorem se_meth {pl : Sem Bool} {c : Nat} (he : SE X cl W o mo) (hcl : Cls X.K (cl c)) (hm : Meth X.K (cl c) mt f) (F : FnG X.prog X.w X.K X.mg X.base cl k f fd ps fm) (hr : Room k X.A) (hb : Binds X.K fd ps ds) (hd : Vals dvs ds) (hdm : RKs X.K dms dvs) (tk : Takes X W) (ha : SA X cl W (e :: es) r)
    (hst : starEach (e :: es) X.env = (false, eval e X.env) :: starEach es X.env := by rfl) (hpl : (backTo pos (starEach es X.env)).any (·.1) = false := by rfl)
    (ht : eval (.Call (.Attribute o mt apos) (e :: es) [] pos) X.env = (do
      let ov ← eval o X.env
      standAt apos.atName
      let (f, first) ← holding [ov] (getMethod ov mt pl)
      callWith pos f first (backTo pos (starEach (e :: es) X.env)) (backToKw pos (keywordEach [] X.env))) := by rfl) :
    SE X cl W (.Call (.Attribute o mt apos) (e :: es) [] pos) (mMeth c mt fm mo r dms) := by
  refine ⟨fun pins s σ H Q I ⟨β, env, st, re, R, Fi⟩ => ?_⟩
  have q0 : tM X.K cl W mo σ H fun y H1 => ∃ a dx gs, y = .ref a ∧ H1 a = some (.ins (cl c) dx gs) ∧ gs.lookup mt = none ∧ tMA X.K cl W r σ H1 fun vs H2 => spM X.K cl ps.length fm ((y :: vs) ++ dvs) H2 Q (WE W σ) := by
    refine tM_bind re R Fi fun y w β1 H1 st1 e1 rw re1 R1 F1 => ?_
    split at F1
    · rename_i hc
      obtain ⟨a, dx, gs, h1, h2, h3⟩ := clsOf_rv R1 rw hc
      refine ⟨a, dx, gs, h1, h2, h3, tMA_bind re1 R1 F1 fun us ws β2 H2 st2 e2 rs re2 R2 F2 => ?_⟩
      exact sp_call (us := y :: us) F hdm R2 ⟨w, ws, rfl, rw.mono e2, rs⟩ F2
    · exact F1.elim
  refine PySem.W.methodCall_KW (pl := pl) (thn (he.run pins s σ H _ I q0) fun u s1 ⟨y, H1, I1, rx, a, dx, fs, ex, ea, l, q⟩ => ?_) ht
  subst ex
  obtain rfl : u = Value.ref a := rx
  refine getmeth_ok I1 ea hcl hm l ?_
  refine PySem.W.callWith_K (first := [.ref a]) (h₀ := X.base) I.ok.mod.kin hm.kp (thn (ha.run pos pins s1 σ H1 _ I1 q) fun us s2 ⟨vs, H2, I2, r, q2⟩ => ⟨I2.kIn, ?_⟩) hst hpl
  exact run_fnSD (us := .ref a :: us) (vs := .ref a :: vs) (E := WE W) F.ok hr hb hd (passAt tk σ) I2 (.cons rfl r) q2
theorem se_meth0 {pl : Sem Bool} {c : Nat} (he : SE X cl W o mo) (hcl : Cls X.K (cl c)) (hm : Meth X.K (cl c) mt f) (F : FnG X.prog X.w X.K X.mg X.base cl k f fd ps fm) (hr : Room k X.A) (hb : Binds X.K fd ps ds) (hd : Vals dvs ds) (hdm : RKs X.K dms dvs) (tk : Takes X W)
    (ht : eval (.Call (.Attribute o mt apos) [] [] pos) X.env = (do
      let ov ← eval o X.env
      standAt apos.atName
      let (f, first) ← holding [ov] (getMethod ov mt pl)
      callWith pos f first (backTo pos (starEach [] X.env)) (backToKw pos (keywordEach [] X.env))) := by rfl) :
    SE X cl W (.Call (.Attribute o mt apos) [] [] pos) (mMeth c mt fm mo mNil dms) := by
  refine ⟨fun pins s σ H Q I ⟨β, env, st, re, R, Fi⟩ => ?_⟩
  have q0 : tM X.K cl W mo σ H fun y H1 => ∃ a dx gs, y = .ref a ∧ H1 a = some (.ins (cl c) dx gs) ∧ gs.lookup mt = none ∧ spM X.K cl ps.length fm ([y] ++ dvs) H1 Q (WE W σ) := by
    refine tM_bind re R Fi fun y w β1 H1 st1 e1 rw re1 R1 F1 => ?_
    split at F1
    · rename_i hc
      obtain ⟨a, dx, gs, h1, h2, h3⟩ := clsOf_rv R1 rw hc
      exact ⟨a, dx, gs, h1, h2, h3, sp_call (us := [y]) F hdm R1 ⟨w, [], rfl, rw, rfl⟩ F1⟩
    · exact F1.elim
  refine PySem.W.methodCall_KW (pl := pl) (thn (he.run pins s σ H _ I q0) fun u s1 ⟨y, H1, I1, rx, a, dx, fs, ex, ea, l, q⟩ => ?_) ht
  subst ex
  obtain rfl : u = Value.ref a := rx
  refine getmeth_ok I1 ea hcl hm l ?_
  exact PySem.W.callWith_K0 (first := [.ref a]) I1.kIn hm.kp (run_fnSD (us := [.ref a]) (vs := [.ref a]) (E := WE W) F.ok hr hb hd (passAt tk σ) I1 (.cons rfl .nil) q)

/-! ### C(..) -/
def mMake (c : Nat) (init : List MV → M MV) (r : MA) (ds : List MV) : ME := fun env st => (r env st).bind fun vs s1 => (init (.ref s1.length :: (vs ++ ds)) (s1 ++ [.ins c []])).bind fun v s2 => match v with
  | .non => .ok (.ref s1.length) s2
  | _ => .bad
theorem run_makeS {E : L2.St → XK} {pins : List (Addr × Obj)} {σ : L2.St} {H : Hp} {s : Shared} {Q : VK} {us : List Value} {vs : List V} {sp : Sp} {CX : CXT} (M : Mk X.K C f) (F : FnOk X.prog X.w X.K X.mg X.base CX k f fd ps sp) (hr : Room (k + 1) X.A) (hb : Binds X.K fd ps ds) (hd : Vals dvs ds)
    (hx : ∀ pins H s e s', Inv X pins σ H s → CX X.stack H s (E σ) e s' → X.xe e s') (I : Inv X pins σ H s) (r : Vals vs us)
    (h : ∀ x dx, H x = none → H dx = none → dx ≠ x → sp (.ref x :: (vs ++ dvs)) (upd (upd H dx (.own x)) x (.ins C dx [])) (fun v H2 => v = .non ∧ Q (.ref x) H2) (E σ)) :
    wpAny (model X.prog X.w) X.A (call (.ref C) us) (EP X pins σ Q) X.xe s := by
  have hq := h (s.heap.objs.size + 1) s.heap.objs.size (I.hok.fresh (Nat.le_succ _)) (I.hok.fresh (Nat.le_refl _)) (Nat.ne_of_lt (Nat.lt_succ_self _))
  have I2 := Inv.made (C := C) I
  have r2 : Vals (V.ref (s.heap.objs.size + 1) :: (vs ++ dvs)) (Value.ref (s.heap.objs.size + 1) :: (us ++ ds)) := .cons rfl (r.append hd)
  have hl : (Value.ref (s.heap.objs.size + 1) :: us ++ ds).length = ps.length := by
    have e := r2.length
    rw [F.len _ _ _ _ hq] at e
    exact e.symm
  refine wpAny_call (make_map (f := f) I.kIn M.makes M.init (beq_iff_eq.mp M.fn) (codeAny_mono (F.run _ X.stack _ _ ⟨Value.ref (s.heap.objs.size + 1) :: us, []⟩ (Value.ref (s.heap.objs.size + 1) :: (us ++ ds)) _ _ (E σ) (hr.make C us [])
    (I2.env0.make C us []) (hb _ (Value.ref (s.heap.objs.size + 1) :: us) I2.kIn hl) r2 hq) fun r s' hq' => ?_))
  cases r with
  | error e => exact hx pins _ _ e s' I2 hq'
  | ok fl =>
    cases fl with
    | ret u =>
      obtain ⟨v, H', I3, rv, ev, q3⟩ := I2.after hq'
      subst ev
      exact ⟨rv, ⟨V.ref (s.heap.objs.size + 1), H', I3, rfl, q3⟩⟩
    | next => exact False.elim hq'
    | brk => exact False.elim hq'
    | cont => exact False.elim hq'
theorem make_sp {c : Nat} {β : List Addr} {H : Hp} {σ : L2.St} {us : List MV} {ws : List V} {st : Mst} {Q : VK} (F : FnG X.prog X.w X.K X.mg X.base cl k f fd ps fm) (hdm : RKs X.K dms dvs) (R : RSt X.K cl β st H) (rs : RVs X.K β H us ws)
    (Fi : Fin X.K cl β H ((fm (.ref st.length :: (us ++ dms)) (st ++ [.ins c []])).bind fun v s2 => match v with
      | .non => .ok (.ref st.length) s2
      | _ => .bad) (kV X.K Q) (kX X.K cl W σ)) {x dx : Addr} (hx : H x = none) (hdx : H dx = none) (ne : dx ≠ x) :
    spM X.K cl ps.length fm (.ref x :: (ws ++ dvs)) (upd (upd H dx (.own x)) x (.ins (cl c) dx [])) (fun v H2 => v = .non ∧ Q (.ref x) H2) (WE W σ) := by
  have hx1 : (upd H dx (.own x)) x = none := by rw [upd_ne (Ne.symm ne)]; exact hx
  have R1 : RSt X.K cl β st (upd H dx (.own x)) := R.side hdx
  have E1 : Ext X.K β β H (upd H dx (.own x)) := .upd (.inl hdx)
  have E2 : Ext X.K β (β ++ [x]) (upd H dx (.own x)) (upd (upd H dx (.own x)) x (.ins (cl c) dx [])) := .snoc hx1
  have R2 : RSt X.K cl (β ++ [x]) (st ++ [.ins c []]) (upd (upd H dx (.own x)) x (.ins (cl c) dx [])) := R1.snoc hx1 ⟨dx, [], upd_same, by rw [upd_ne ne, upd_same], rfl⟩
  have E := E1.trans E2
  have rx : RV X.K (β ++ [x]) (upd (upd H dx (.own x)) x (.ins (cl c) dx [])) (.ref st.length) (.ref x) := ⟨x, by rw [← R.len]; simp, rfl⟩
  have F2 := (Fin.weak E Fi).bind
  refine sp_call (us := .ref st.length :: us) (ws := .ref x :: ws) F hdm R2 ⟨_, ws, rfl, rx, rs.mono E⟩ (F2.imp (fun v s2 β2 H2 e2 R3 F3 w rw => ?_) fun c fs s2 β2 H2 e2 R3 q => q)
  cases v with
  | non => cases (show w = .non from rw); exact ⟨rfl, F3.here R3 _ (rx.mono e2)⟩
  | _ => exact F3.elim
theorem se_make {c : Nat} (M : Mk X.K (cl c) f) (F : FnG X.prog X.w X.K X.mg X.base cl k f fd ps fm) (hr : Room (k + 1) X.A) (hg : Gl X x) (hm : X.mg x = some (.ref (cl c))) (hb : Binds X.K fd ps ds) (hd : Vals dvs ds) (hdm : RKs X.K dms dvs) (tk : Takes X W)
    (ha : SA X cl W (e :: es) r) (hdb : (x == ("__debug__" : Str)) = false := by decide) (he : starEach (e :: es) X.env = (false, eval e X.env) :: starEach es X.env := by rfl) (hpl : (backTo pos (starEach es X.env)).any (·.1) = false := by rfl) :
    SE X cl W (.Call (.Name x p) (e :: es) [] pos) (mMake c fm r dms) := by
  refine ⟨fun pins s σ H Q I ⟨β, env, st, re, R, Fi⟩ => ?_⟩
  have q0 : tMA X.K cl W r σ H fun vs H1 => ∀ x dx, H1 x = none → H1 dx = none → dx ≠ x → spM X.K cl ps.length fm (.ref x :: (vs ++ dvs)) (upd (upd H1 dx (.own x)) x (.ins (cl c) dx [])) (fun v H2 => v = .non ∧ Q (.ref x) H2) (WE W σ) :=
    tMA_bind re R Fi fun us ws β1 H1 st1 e1 rs re1 R1 F1 x dx hx hdx ne => make_sp F hdm R1 rs F1 hx hdx ne
  refine wpAny_Call_Name_kw (ld_glob I hg hm ?_ hdb)
  refine PySem.W.callWith_K (h₀ := X.base) I.ok.mod.kin M.kp (thn (ha.run pos pins s σ H _ I q0) fun us s1 ⟨vs, H1, I1, r, q⟩ => ⟨I1.kIn, ?_⟩) he hpl
  exact run_makeS (E := WE W) M F.ok hr hb hd (passAt tk σ) I1 r q
theorem se_make0 {c : Nat} (M : Mk X.K (cl c) f) (F : FnG X.prog X.w X.K X.mg X.base cl k f fd ps fm) (hr : Room (k + 1) X.A) (hg : Gl X x) (hm : X.mg x = some (.ref (cl c))) (hb : Binds X.K fd ps ds) (hd : Vals dvs ds) (hdm : RKs X.K dms dvs) (tk : Takes X W)
    (hdb : (x == ("__debug__" : Str)) = false := by decide) : SE X cl W (.Call (.Name x p) [] [] pos) (mMake c fm mNil dms) := by
  refine ⟨fun pins s σ H Q I ⟨β, env, st, re, R, Fi⟩ => ?_⟩
  refine wpAny_Call_Name_kw (ld_glob I hg hm ?_ hdb)
  exact PySem.W.callWith_K0 I.kIn M.kp (run_makeS (us := []) (vs := []) (E := WE W) M F.ok hr hb hd (passAt tk σ) I .nil fun x dx hx hdx ne => make_sp (us := []) (ws := []) F hdm R rfl Fi hx hdx ne)

/-! ### methods of lists -/
def gAppend : MV → List MV → M MV
  | .ref a, [y], st => match st[a]? with
    | some (.lst xs) => if xs.length < 16777216 then .ok .non (st.set a (.lst (xs ++ [y]))) else .bad
    | _ => .bad
  | _, _, _ => .bad
def gPop : MV → List MV → M MV
  | .ref a, [], st => match st[a]? with
    | some (.lst xs) => match xs[xs.length - 1]? with
      | some y => .ok y (st.set a (.lst xs.dropLast))
      | none => .bad
    | _ => .bad
  | _, _, _ => .bad
def gExtend : MV → List MV → M MV
  | .ref a, [.ref b], st => match st[a]?, st[b]? with
    | some (.lst xs), some (.lst ys) => if xs.length + ys.length ≤ 16777216 then .ok .non (st.set a (.lst (xs ++ ys))) else .bad
    | _, _ => .bad
  | _, _, _ => .bad
structure MtG (X : Cx) (cl : Nat → Addr) (T id : String) (g : MV → List MV → M MV) : Prop where
  run : MtR X id fun x xs H Q => ∃ β u us st, RV X.K β H u x ∧ RVs X.K β H us xs ∧ RSt X.K cl β st H ∧ Fin X.K cl β H (g u us st) (kV X.K Q) kNo
  nx : ∀ u us st c fs st', g u us st ≠ .ex c fs st'
/-- the receiver's kind -/
def tyM (T : String) (x : MV) (st : Mst) : Bool := match x with
  | .ref a => match st[a]? with
    | some (.lst _) => T == "list"
    | some (.rol _) => T == "list"
    | _ => false
  | .str _ => T == "str"
  | _ => false
theorem tyM_rv {K : PySem.W.Frag} {β : List Addr} {H : Hp} {T : String} {y : MV} {w : V} {st : Mst} (R : RSt K cl β st H) (r : RV K β H y w) (h : tyM T y st = true) : tyV K T w H := by
  unfold tyM at h
  split at h
  · rename_i a
    obtain ⟨q, hq, rfl⟩ := r.ref_of
    split at h
    · rename_i xs ho
      obtain ⟨ys, h1, h2⟩ := R.get hq ho
      exact .inl ⟨by simpa using h, ys, SqL.of h1⟩
    · rename_i xs ho
      obtain ⟨ys, h1, h2⟩ := R.get hq ho
      exact .inl ⟨by simpa using h, ys, h1.sq⟩
    · cases h
  · cases r.str_of
    exact (by simpa using h : T = "str")
  · cases h
def mBM (T : String) (g : MV → List MV → M MV) (o : ME) (r : MA) : ME := fun env st => (o env st).bind fun x s1 => if tyM T x s1 = true then (r env s1).bind fun vs s2 => g x vs s2 else .bad
theorem se_bm {name : Str} {T id : String} {cpos : Pos} {g : MV → List MV → M MV} (pa : PlainAttrs T) (slot : Slot T name id) (hty : typeOf (.builtin id) = pure (.type "method_descriptor")) (hm : MtG X cl T id g) (ho : SE X cl W o mo) (ha : SA X cl W (e :: es) r)
    (hbase : attributeBase o name X.env (eval o X.env) = eval o X.env := by rfl)
    (hfew : ((backTo cpos (starEach (e :: es) X.env)).all (fun x => !x.1) && (backToKw cpos (keywordEach [] X.env)).all (fun x => x.1.isSome)
      && decide ((e :: es).length + ([] : List Keyword).length + (if ([] : List Keyword).isEmpty then 0 else 1) < 30)) = true := by rfl)
    (hline : (apos.endLine == cpos.line) = true := by rfl) (hs : starEach (e :: es) X.env = (false, eval e X.env) :: starEach es X.env := by rfl) (hplain : (backTo cpos (starEach es X.env)).any (·.1) = false := by rfl) :
    SE X cl W (.Call (.Attribute o name apos) (e :: es) [] cpos) (mBM T g mo r) := by
  refine PE.weaken (pe_bm pa slot hty hm.run ho ha hbase hfew hline hs hplain) fun σ H Q ⟨β, env, st, re, R, F⟩ => ?_
  refine tM_bind re R F fun y w β1 H1 st1 e1 rw re1 R1 F1 => ?_
  split at F1
  · rename_i ht
    refine ⟨tyM_rv R1 rw ht, tMA_bind re1 R1 F1 fun us ws β2 H2 st2 e2 rs re2 R2 F2 => ?_⟩
    exact ⟨β2, y, us, st2, rw.mono e2, rs, R2, fin_no (hm.nx _ _ _) F2⟩
  · exact F1.elim
theorem se_bm0 {name : Str} {T id : String} {cpos : Pos} {g : MV → List MV → M MV} (pa : PlainAttrs T) (slot : Slot T name id) (hty : typeOf (.builtin id) = pure (.type "method_descriptor")) (hm : MtG X cl T id g) (ho : SE X cl W o mo)
    (hbase : attributeBase o name X.env (eval o X.env) = eval o X.env := by rfl) (hline : (apos.endLine == cpos.line) = true := by rfl) :
    SE X cl W (.Call (.Attribute o name apos) [] [] cpos) (mBM T g mo mNil) := by
  refine PE.weaken (pe_bm0 pa slot hty hm.run ho hbase hline) fun σ H Q ⟨β, env, st, re, R, F⟩ => ?_
  refine tM_bind re R F fun y w β1 H1 st1 e1 rw re1 R1 F1 => ?_
  split at F1
  · rename_i ht
    exact ⟨tyM_rv R1 rw ht, β1, y, [], st1, rw, rfl, R1, fin_no (hm.nx _ _ _) F1⟩
  · exact F1.elim
theorem mg_append : MtG X cl "list" "list.append" gAppend := by
  refine ⟨fun pins s σ H x xs v us Q I r1 r2 ⟨β, u, ms, st, ru, rs, R, F⟩ => mt_append pins s σ H x xs v us Q I r1 r2 ?_, fun u us st c fs st' h => ?_⟩
  · unfold gAppend at F
    split at F
    · rename_i a y st1
      obtain ⟨q, hq, rfl⟩ := ru.ref_of
      obtain ⟨w, rfl, rw⟩ := one_of rs
      split at F
      · rename_i zs ho
        obtain ⟨ys, h1, h2⟩ := R.get hq ho
        split at F
        · rename_i hl
          exact ⟨q, ys, w, rfl, rfl, h1, by rw [h2.length]; exact line_lt hl, fin_set F R hq ho rfl (h2.append (RVs.one rw)) (show _ = _ from rfl)⟩
        · exact F.elim
      · exact F.elim
    · exact F.elim
  · unfold gAppend at h
    repeat' (first | (split at h) | cases h)
theorem mg_pop : MtG X cl "list" "list.pop" gPop := by
  refine ⟨fun pins s σ H x xs v us Q I r1 r2 ⟨β, u, ms, st, ru, rs, R, F⟩ => mt_pop pins s σ H x xs v us Q I r1 r2 ?_, fun u us st c fs st' h => ?_⟩
  · unfold gPop at F
    split at F
    · rename_i a st1
      obtain ⟨q, hq, rfl⟩ := ru.ref_of
      split at F
      · rename_i zs ho
        obtain ⟨ys, h1, h2⟩ := R.get hq ho
        split at F
        · rename_i y hy
          obtain ⟨w, hw, rw⟩ := h2.get hy
          refine ⟨q, ys, w, rfl, (show xs = [] from rs), h1, by rw [h2.length]; exact hw, fin_set F R hq ho rfl ?_ rw⟩
          have e1 : ys.dropLast = ys.take zs.dropLast.length := by rw [List.dropLast_eq_take, List.length_dropLast, h2.length]
          have e2 : zs.dropLast = zs.take zs.dropLast.length := by rw [List.length_dropLast, ← List.dropLast_eq_take]
          rw [e1]
          rw [e2]
          simpa using h2.take (zs.length - 1)
        · exact F.elim
      · exact F.elim
    · exact F.elim
  · unfold gPop at h
    repeat' (first | (split at h) | cases h)
theorem mg_extend : MtG X cl "list" "list.extend" gExtend := by
  refine ⟨fun pins s σ H x xs v us Q I r1 r2 ⟨β, u, ms, st, ru, rs, R, F⟩ => mt_extend pins s σ H x xs v us Q I r1 r2 ?_, fun u us st c fs st' h => ?_⟩
  · unfold gExtend at F
    split at F
    · rename_i a b st1
      obtain ⟨q, hq, rfl⟩ := ru.ref_of
      obtain ⟨w, rfl, rw⟩ := one_of rs
      obtain ⟨q2, hq2, rfl⟩ := rw.ref_of
      split at F
      · rename_i zs zs2 ho ho2
        obtain ⟨ys, h1, h2⟩ := R.get hq ho
        obtain ⟨ys2, g1, g2⟩ := R.get hq2 ho2
        split at F
        · rename_i hl
          exact ⟨q, q2, ys, ys2, rfl, rfl, h1, g1, by rw [h2.length, g2.length]; exact line_le hl, fin_set F R hq ho rfl (h2.append g2) (show _ = _ from rfl)⟩
        · exact F.elim
      · exact F.elim
    · exact F.elim
  · unfold gExtend at h
    repeat' (first | (split at h) | cases h)
end
end BH

set_option Elab.async false
set_option linter.all false
set_option maxRecDepth 100000
set_option autoImplicit false
set_option maxHeartbeats 1000000
/-! Loops. -/
namespace BH
open PySem PySem.Spec PyProof.Rows L2

/-- what is walked: at turn i: no answer (none), the end (some none), an item -/
structure Src where
  next : Nat → Mst → Option (Option MV)
  size : Nat
abbrev MIter := Env → M Src
def RSrc (K : PySem.W.Frag) (cl : Nat → Addr) (β : List Addr) (H : Hp) (src : Src) (J : It) : Prop :=
  ∀ (i : Nat) (β1 : List Addr) (H1 : Hp) (st1 : Mst), Ext K β β1 H H1 → RSt K cl β1 st1 H1 → match src.next i st1 with
    | none => True
    | some none => J.stop i H1
    | some (some x) => J.go i H1 ∧ ∀ w H2, J.yld i H1 w H2 → Ext K β1 β1 H1 H2 ∧ RSt K cl β1 st1 H2 ∧ RV K β1 H2 x w
def tI (K : PySem.W.Frag) (cl : Nat → Addr) (W : WX) (mi : MIter) : TI := fun σ H R => ∃ β env st, REnv K β H env σ ∧ RSt K cl β st H ∧ Fin K cl β H (mi env st) (fun src _ β' H' => ∀ J, RSrc K cl β' H' src J → R J H') (kX K cl W σ)
def SI (X : Cx) (cl : Nat → Addr) (W : WX) (tg iter : Expr) (mi : MIter) : Prop := PI X tg iter (tI X.K cl W mi)
theorem PI.weaken {X : Cx} {tg iter : Expr} {t t' : TI} (h : PI X tg iter t) (i : ∀ σ H R, t' σ H R → t σ H R) : PI X tg iter t' := ⟨fun pins s σ H R I hw => h.run pins s σ H R I (i _ _ _ hw)⟩
theorem RSrc.mono {K : PySem.W.Frag} {cl : Nat → Addr} {β β' : List Addr} {H H' : Hp} {src : Src} {J : It} (e : Ext K β β' H H') (h : RSrc K cl β H src J) : RSrc K cl β' H' src J := fun i β1 H1 st1 e1 R1 => h i β1 H1 st1 (e.trans e1) R1

def srcItems (xs : List MV) : Src := ⟨fun i _ => some xs[i]?, xs.length⟩
def srcList (a : Nat) (n : Nat) : Src := ⟨fun i st => (itemsOf st (.ref a)).map fun xs => xs[i]?, n⟩
def srcRange (lo : Int) (n : Nat) : Src := ⟨fun i _ => some (if i < n then some (.int (lo + i)) else none), n⟩
def srcEnum (s : Src) : Src := ⟨fun i st => (s.next i st).map fun o => o.map fun x => .tup [.int (i : Nat), x], s.size⟩
def srcStr (x : Str) : Src := ⟨fun i _ => some (x.cps[i]?.map fun c => .str ⟨#[c]⟩), x.cps.size⟩
def srcOf (v : MV) : M Src := fun st => match v with
  | .tup xs => .ok (srcItems xs) st
  | .str x => .ok (srcStr x) st
  | .ref a => match itemsOf st (.ref a) with
    | some xs => .ok (srcList a xs.length) st
    | none => .bad
  | _ => .bad
def iOf (m : ME) : MIter := fun env st => (m env st).bind srcOf
def srcSeq (v : MV) : M Src := fun st => match v with
  | .str _ => .bad
  | v => srcOf v st
def iEnumM (m : ME) : MIter := fun env st => (m env st).bind fun v s1 => (srcSeq v s1).bind fun src s2 => .ok (srcEnum src) s2
def rngOf1 (vs : List MV) : M Src := fun st => match vs with
  | [.int j] => if -(2 ^ 62) ≤ j ∧ j < 2 ^ 62 then .ok (srcRange 0 j.toNat) st else .bad
  | _ => .bad
def rngOf2 (vs : List MV) : M Src := fun st => match vs with
  | [.int i, .int j] => if -(2 ^ 62) ≤ i ∧ i < 2 ^ 62 ∧ -(2 ^ 62) ≤ j ∧ j < 2 ^ 62 then .ok (srcRange i (j - i).toNat) st else .bad
  | _ => .bad
def iRange1 (r : MA) : MIter := fun env st => (r env st).bind rngOf1
def iRange2 (r : MA) : MIter := fun env st => (r env st).bind rngOf2

section
variable {K : PySem.W.Frag} {cl : Nat → Addr} {β : List Addr} {H : Hp}
theorem rsrc_range (lo : Int) (n : Nat) : RSrc K cl β H (srcRange lo n) (Itr lo n) := by
  intro i β1 H1 st1 e R
  show match some (if i < n then some (MV.int (lo + i)) else none) with
    | none => True
    | some none => (Itr lo n).stop i H1
    | some (some x) => (Itr lo n).go i H1 ∧ ∀ w H2, (Itr lo n).yld i H1 w H2 → Ext K β1 β1 H1 H2 ∧ RSt K cl β1 st1 H2 ∧ RV K β1 H2 x w
  by_cases h : i < n
  · rw [if_pos h]
    refine ⟨h, fun w H2 y => ?_⟩
    obtain ⟨rfl, rfl⟩ := y
    exact ⟨.refl, R, rfl⟩
  · rw [if_neg h]
    exact Nat.le_of_not_lt h
theorem rsrc_tup {p : Addr} {xs : List MV} {ys : List V} (hs : SqT K H p ys) (h : RVs K β H xs ys) : RSrc K cl β H (srcItems xs) (Itt K p) := by
  intro i β1 H1 st1 e R
  have hs1 := e.tup _ _ hs
  have h1 := h.mono e
  show match some xs[i]? with
    | none => True
    | some none => (Itt K p).stop i H1
    | some (some x) => (Itt K p).go i H1 ∧ ∀ w H2, (Itt K p).yld i H1 w H2 → Ext K β1 β1 H1 H2 ∧ RSt K cl β1 st1 H2 ∧ RV K β1 H2 x w
  cases hx : xs[i]? with
  | none =>
    refine ⟨ys, hs1, ?_⟩
    rw [h.length]
    exact List.getElem?_eq_none_iff.mp hx
  | some x =>
    obtain ⟨y, hy, ry⟩ := h1.get hx
    refine ⟨⟨ys, y, hs1, hy⟩, fun w H2 yl => ?_⟩
    obtain ⟨rfl, yl⟩ := yl
    have := yl ys hs1
    rw [hy] at this
    cases this
    exact ⟨.refl, R, ry⟩
theorem rsrc_str {x : Str} : RSrc K cl β H (srcStr x) (Its x) := by
  intro i β1 H1 st1 e R
  show match some (x.cps[i]?.map fun c => MV.str ⟨#[c]⟩) with
    | none => True
    | some none => (Its x).stop i H1
    | some (some y) => (Its x).go i H1 ∧ ∀ w H2, (Its x).yld i H1 w H2 → Ext K β1 β1 H1 H2 ∧ RSt K cl β1 st1 H2 ∧ RV K β1 H2 y w
  cases hx : x.cps[i]? with
  | none => exact Array.getElem?_eq_none_iff.mp hx
  | some c =>
    refine ⟨(Array.getElem?_eq_some_iff.mp hx).1, fun w H2 yl => ?_⟩
    obtain ⟨rfl, c', h1, rfl⟩ := yl
    rw [hx] at h1
    cases h1
    exact ⟨.refl, R, rfl⟩
theorem itemsL {a : Nat} {p : Addr} {st : Mst} {xs : List MV} (R : RSt K cl β st H) (hp : β[a]? = some p) (h : itemsOf st (.ref a) = some xs) : ∃ ys, SqL K H p ys ∧ RVs K β H xs ys := by
  simp only [itemsOf] at h
  split at h
  · rename_i zs ho
    cases h
    obtain ⟨ys, h1, h2⟩ := R.get hp ho
    exact ⟨ys, SqL.of h1, h2⟩
  · rename_i zs ho
    cases h
    obtain ⟨ys, h1, h2⟩ := R.get hp ho
    exact ⟨ys, h1.sq, h2⟩
  · cases h
theorem rsrc_list {a n : Nat} {p : Addr} (hp : β[a]? = some p) : RSrc K cl β H (srcList a n) (Itl K p) := by
  intro i β1 H1 st1 e R
  show match (itemsOf st1 (.ref a)).map fun xs => xs[i]? with
    | none => True
    | some none => (Itl K p).stop i H1
    | some (some x) => (Itl K p).go i H1 ∧ ∀ w H2, (Itl K p).yld i H1 w H2 → Ext K β1 β1 H1 H2 ∧ RSt K cl β1 st1 H2 ∧ RV K β1 H2 x w
  cases hx : itemsOf st1 (.ref a) with
  | none => trivial
  | some xs =>
    obtain ⟨ys, hs, h1⟩ := itemsL R (e.pre _ _ hp) hx
    simp only [Option.map_some]
    cases hi : xs[i]? with
    | none =>
      refine ⟨ys, hs, ?_⟩
      rw [h1.length]
      exact List.getElem?_eq_none_iff.mp hi
    | some x =>
      obtain ⟨y, hy, ry⟩ := h1.get hi
      refine ⟨⟨ys, y, hs, hy⟩, fun w H2 yl => ?_⟩
      obtain ⟨rfl, yl⟩ := yl
      have := yl ys hs
      rw [hy] at this
      cases this
      exact ⟨.refl, R, ry⟩
theorem rsrc_enumL {a n : Nat} {p : Addr} (hp : β[a]? = some p) : RSrc K cl β H (srcEnum (srcList a n)) (Ite K p) := by
  intro i β1 H1 st1 e R
  show match ((itemsOf st1 (.ref a)).map fun xs => xs[i]?).map fun o => o.map fun x => MV.tup [.int (i : Nat), x] with
    | none => True
    | some none => (Ite K p).stop i H1
    | some (some x) => (Ite K p).go i H1 ∧ ∀ w H2, (Ite K p).yld i H1 w H2 → Ext K β1 β1 H1 H2 ∧ RSt K cl β1 st1 H2 ∧ RV K β1 H2 x w
  cases hx : itemsOf st1 (.ref a) with
  | none => trivial
  | some xs =>
    obtain ⟨ys, hs, h1⟩ := itemsL R (e.pre _ _ hp) hx
    simp only [Option.map_some]
    cases hi : xs[i]? with
    | none =>
      refine ⟨ys, hs, ?_⟩
      rw [h1.length]
      exact List.getElem?_eq_none_iff.mp hi
    | some x =>
      obtain ⟨y, hy, ry⟩ := h1.get hi
      refine ⟨⟨ys, y, hs, hy⟩, fun w H2 yl => ?_⟩
      obtain ⟨T, y', rfl, hT, rfl, yl⟩ := yl
      have := yl ys hs
      rw [hy] at this
      cases this
      have E1 : Ext K β1 β1 H1 (upd H1 T (.tup [.int (i : Nat), y])) := .upd (.inl hT)
      exact ⟨E1, R.side hT, T, _, rfl, SqT.of upd_same, _, _, rfl, rfl, _, _, rfl, ry.mono E1, rfl⟩
/-- enumerate of a tuple -/
def IteT (K : PySem.W.Frag) (a : Addr) : It :=
  ⟨fun i H => ∃ (xs : List V) (x : V), SqT K H a xs ∧ xs[i]? = some x, fun i H v H' => ∃ T x, v = .ref T ∧ H T = none ∧ H' = upd H T (.tup [.int (i : Nat), x]) ∧ ∀ xs, SqT K H a xs → xs[i]? = some x, fun i H => ∃ xs : List V, SqT K H a xs ∧ xs.length ≤ i⟩
theorem rsrc_enumT {p : Addr} {xs : List MV} {ys : List V} (hs : SqT K H p ys) (h : RVs K β H xs ys) : RSrc K cl β H (srcEnum (srcItems xs)) (IteT K p) := by
  intro i β1 H1 st1 e R
  have hs1 := e.tup _ _ hs
  have h1 := h.mono e
  show match (some xs[i]?).map fun o => o.map fun x => MV.tup [.int (i : Nat), x] with
    | none => True
    | some none => (IteT K p).stop i H1
    | some (some x) => (IteT K p).go i H1 ∧ ∀ w H2, (IteT K p).yld i H1 w H2 → Ext K β1 β1 H1 H2 ∧ RSt K cl β1 st1 H2 ∧ RV K β1 H2 x w
  simp only [Option.map_some]
  cases hx : xs[i]? with
  | none =>
    refine ⟨ys, hs1, ?_⟩
    rw [h.length]
    exact List.getElem?_eq_none_iff.mp hx
  | some x =>
    obtain ⟨y, hy, ry⟩ := h1.get hx
    refine ⟨⟨ys, y, hs1, hy⟩, fun w H2 yl => ?_⟩
    obtain ⟨T, y', rfl, hT, rfl, yl⟩ := yl
    have := yl ys hs1
    rw [hy] at this
    cases this
    have E1 : Ext K β1 β1 H1 (upd H1 T (.tup [.int (i : Nat), y])) := .upd (.inl hT)
    exact ⟨E1, R.side hT, T, _, rfl, SqT.of upd_same, _, _, rfl, rfl, _, _, rfl, ry.mono E1, rfl⟩
end

/-! ### enumerate(tuple), at the library's level -/
theorem meets_enumerate_newT (l : Addr) (items : Array Value) (n : Nat) (dct : Option Addr) (sl : Array (Option Value)) :
    Meets (Builtin.«enumerate.__new__» ⟨[.type "enumerate", .ref l], []⟩) (fun _ R s => s.heap.get? l = some { cls := .type "tuple", dict := dct, data := .seq items n, slots := sl } ∧
      R (.ok (.ret (.ref (s.heap.push { cls := .type "tuple_iterator", data := .fields #[.ref l, .int 0 0] }).objs.size)))
        { s with heap := (s.heap.push { cls := .type "tuple_iterator", data := .fields #[.ref l, .int 0 0] }).push { cls := .type "enumerate", data := .fields #[.none, .bool false, .ref s.heap.objs.size, rawInt 0, .none, .none] } }) :=
  .of_wp fun prog w A R s h => by
    obtain ⟨hp, g, d, tk, os⟩ := s; obtain ⟨hl, h⟩ := h
    have hsub := sub_enumerate
    have hL : Heap.IsTuple (Shared.heap ⟨hp, g, d, tk, os⟩) l items := ⟨_, hl, rfl, n, rfl⟩
    wp_walk using AutoSeq1.wpAny_loadPart' hl
    refine wpAny_stack_any fun st => wpAny_pure ?_
    split
    · rename_i c _ _ _ _ _
      cases (c == Value.type "enumerate")
      · wp_walk using AutoSeq1.wpAny_loadPart' hl, wpAny_pyIter_tuple hL
        exact ⟨_, rfl, h⟩
      · wp_walk using AutoSeq1.wpAny_loadPart' hl, wpAny_pyIter_tuple hL
        exact ⟨_, rfl, h⟩
    · wp_walk using AutoSeq1.wpAny_loadPart' hl, wpAny_pyIter_tuple hL
      exact ⟨_, rfl, h⟩
section
variable {prog : Program} {w : World} {A : Around} {E : Value → Shared → Prop} {s : Shared}
theorem call_enumerate_tuple {l : Addr} {items : Array Value} {Q : Value → Shared → Prop} (hL : s.heap.IsTuple l items)
    (h : ∀ h', IsEnum h' (s.heap.objs.size + 1) s.heap.objs.size 0 .none → h'.IsTupleIter s.heap.objs.size l 0 → h'.objs.size = s.heap.objs.size + 2 →
      (∀ b o, s.heap.get? b = some o → h'.get? b = some o) → Q (.ref (s.heap.objs.size + 1)) { s with heap := h' }) :
    wpAny (model prog w) A (call (.type "enumerate") [.ref l]) Q E s := by
  obtain ⟨⟨c, dct, dt, sl⟩, hl, hc, n, hd⟩ := hL
  replace hc : c = .type "tuple" := hc
  replace hd : dt = .seq items n := hd
  subst hc hd
  refine callType_new F.called_enumerate (by decide) (F.typeCall_enumerate_1 _) (F.newCall_enumerate_1 _) (fun obj => F.args_object_init_2 obj _) F.entry_enumerate_new
    (meets_enumerate_newT l items n dct sl) ⟨hl, ?_⟩
  have hz : (s.heap.push { cls := .type "tuple_iterator", data := .fields #[.ref l, .int 0 0] }).objs.size = s.heap.objs.size + 1 := Heap.size_push ..
  show _ ∧ _
  rw [hz]
  have he : IsEnum ((s.heap.push { cls := .type "tuple_iterator", data := .fields #[.ref l, .int 0 0] }).push
      { cls := .type "enumerate", data := .fields #[.none, .bool false, .ref s.heap.objs.size, rawInt 0, .none, .none] }) (s.heap.objs.size + 1) s.heap.objs.size 0 .none := by
    have := Heap.get?_push_size (s.heap.push { cls := .type "tuple_iterator", data := .fields #[.ref l, .int 0 0] })
      (o := { cls := .type "enumerate", data := .fields #[.none, .bool false, .ref s.heap.objs.size, rawInt 0, .none, .none] }) rfl
    rw [hz] at this; exact this
  refine ⟨⟨_, he, rfl⟩, h _ he ?_ (by rw [Heap.size_push, hz]) fun b o x => Heap.get?_push_of_some _ (Heap.get?_push_of_some _ x)⟩
  exact ⟨_, Heap.get?_push_of_some _ (Heap.get?_push_size _ rfl), rfl, rfl⟩
end

theorem turn_enumT {P : Program} {w : World} {K : PySem.W.Frag} {elts : List Expr} {kk : Nat} {tpos : Pos} (a e it : Addr) :
    Turn P w K (.Tuple elts kk tpos) (IteT K a) [e, it] e (fun i h => (∃ old, IsEnum h e it ((i : Nat) : Int) old) ∧ h.IsTupleIter it a i ∧ e ≠ it ∧ a ≠ it ∧ e ≠ a) where
  mem := by simp
  obj := fun i h st b hb => by
    obtain ⟨⟨old, he⟩, ⟨o, ho, hc, hd⟩, _⟩ := st
    have e' : b = e ∨ b = it := by simpa using hb
    rcases e' with z | z
    · rw [z]; exact ⟨_, he, fun v q => nomatch q⟩
    · rw [z]; exact ⟨o, ho, fun v q => by rw [hd] at q; cases q⟩
  keep := fun i h h' st k => let ⟨⟨old, he⟩, hi, hne⟩ := st; ⟨⟨old, k e (by simp) _ he⟩, hi.at fun o q => k it (by simp) o q, hne⟩
  item := by
    intro X hP hw hK hc i pins s σ H E I hf st hg
    subst hP hw hK
    obtain ⟨⟨old, he⟩, hit, hne, hai, hea⟩ := st
    obtain ⟨xs, x, hq, hx⟩ := hg
    obtain ⟨its, rv, p, hz⟩ := I.tuple hq
    obtain ⟨u, hu, ru⟩ := rv.get hx
    have hel : e < s.heap.objs.size := Heap.lt_size he
    have hil : it < s.heap.objs.size := by obtain ⟨_, q, _⟩ := hit; exact Heap.lt_size q
    have hlt : i < its.toArray.size := by
      rw [List.size_toArray]
      exact (List.getElem?_eq_some_iff.mp hu).1
    refine wpAny_pyNext_enum_itemD (Draws.tuple (A := X.A.in1) (I.ok.hd hc) it a hai its.toArray) he ⟨hit, p⟩ hlt hne (by simp [hne, hea]) fun u' h' tk hu' ho hst' hT hsz hk => ?_
    obtain ⟨hit', p'⟩ := hst'
    have eu : u' = u := by
      have h1 : its[i]? = some u' := by simpa using hu'
      rw [hu] at h1
      exact (Option.some.inj h1).symm
    subst eu
    refine ⟨_, rfl, wpAny_letOwnedTupleGo_enum (s := { s with heap := h', toks := tk + 1 }) ho fun h'' he' sb => ?_⟩
    have hT2 : h''.get? s.heap.objs.size = some { cls := .type "tuple", data := .seq #[.int i tk, u'] } := (sb.2 _ (Nat.ne_of_gt hel)).trans hT
    have new : ObjOk X.prog X.w (upd H s.heap.objs.size (.tup [.int (i : Nat), x])) h'' s.heap.objs.size (.tup [.int (i : Nat), x]) :=
      ⟨by show 2 ≤ sizeLine; decide, [.int i tk, u'], .cons ⟨_, rfl⟩ (.cons ru .nil), ⟨_, hT2, rfl, _, rfl⟩⟩
    have I1 : Inv X pins σ (upd H s.heap.objs.size (.tup [.int (i : Nat), x])) { s with heap := h'', toks := tk + 1 } :=
      I.turnedNew (ch := [e, it]) (fun b ob hb q => (sb.2 b (fun z => hb (by simp [z]))).trans (hk b ob (fun z => hb (by simp [z])) (fun z => hb (by simp [z])) q)) hf (Nat.le_refl _) new
    refine ⟨.ref s.heap.objs.size, _, I1, rfl, ⟨_, x, rfl, I.hok.fresh (Nat.le_refl _), rfl, fun ys hy => by rw [I.tuple_inj hy hq]; exact hx⟩, ⟨⟨u', ?_⟩, hit'.at fun o q => (sb.2 it (Ne.symm hne)).trans q, hne, hai, hea⟩, fun b hb => ?_⟩
    · have e1 : ((i + 1 : Nat) : Int) = (i : Int) + 1 := by omega
      rw [e1]; exact he'
    · have hb' : b < s.heap.objs.size := by
        have e' : b = e ∨ b = it := by simpa using hb
        rcases e' with z | z
        · rw [z]; exact hel
        · rw [z]; exact hil
      rw [upd_ne (Nat.ne_of_lt hb')]
      exact (hf b hb).1
  done := by
    intro X hP hw hK hc i pins s σ H E I hf st hg
    subst hP hw hK
    obtain ⟨⟨old, he⟩, hit, hne, hai, hea⟩ := st
    obtain ⟨xs, hq, hx⟩ := hg
    obtain ⟨its, rv, p, hz⟩ := I.tuple hq
    obtain ⟨f0, f1, f2, f3, f4, f5⟩ := hf it (by simp)
    have hl := rv.length
    have hT : s.TypeIs (.ref e) "enumerate" := ⟨_, he, rfl⟩
    unfold pyNext
    refine wpAny_bind (wpAny_attempt (wpAny_callSpecial?_slot (name := Str.ofString "__next__") hT F.slot_enumerate_next
      (wpAny_call_entry F.slot_enumerate_next hT F.entry_enumerate_next ?_ (F.args_enumerate_next_1 _))))
    show wpAny _ _ (field (.ref e) 2 >>= _) _ _ _
    refine wpAny_bind (wpAny_field he rfl (x := .ref it) rfl ?_)
    refine wpAny_bind (wpAny_nextOf_tuple_end (I.ok.hd hc) hit p (by simp; omega) fun h' x he' hx' => ?_)
    obtain ⟨o, ho, hc⟩ := hx'
    refine wpAny_bind (wpAny_isInstance (T := "StopIteration") (b := true) ⟨o, ho, hc⟩ isSubtype_stop ?_)
    exact wpAny_pure ⟨rfl, I.turned (t' := s.toks) (fun b o hb q => he' b o hb q) f0 f1 f3 f4 f5⟩
  self := fun A i s Q E st h => let ⟨⟨_, he⟩, _⟩ := st; wpAny_pyIter_enum he h

def iEnumT (K : PySem.W.Frag) (ta : TA) : TI := fun σ H R => ta σ H fun vs H1 => ∃ a xs, vs = [.ref a] ∧ SqT K H1 a xs ∧ R (IteT K a) H1
theorem pi_enumT {X : Cx} {e : Expr} {ta : TA} {p pos tpos : Pos} {elts : List Expr} {kk : Nat} (hg : Gl X "enumerate") (hm : X.mg "enumerate" = none) (ha : PA X [e] ta) (hs : starEach [e] X.env = [(false, eval e X.env)] := by rfl) :
    PI X (.Tuple elts kk tpos) (.Call (.Name "enumerate" p) [e] [] pos) (iEnumT X.K ta) := by
  refine ⟨fun pins s σ H R I h => ?_⟩
  refine Call_ (ld_blt I hg hm boot_enumerate (PyProof.Rows.callWith_type1 (thn (ha.run pos pins s σ H _ I h) fun us s1 ⟨vs, H1, I1, r1, q1⟩ => ?_) hs rfl))
  obtain ⟨a, xs, ex, hq, q⟩ := q1
  subst ex
  cases r1 with
  | cons r rr =>
    cases rr
    cases r
    obtain ⟨its, rv, p', hz⟩ := I1.tuple hq
    have hal : a < s1.heap.objs.size := by
      obtain ⟨o, ho, _⟩ := p'
      exact Heap.lt_size ho
    refine call_enumerate_tuple (show s1.heap.IsTuple a its.toArray from p') fun h' he hit hsz hk => wpAny_pyIter_enum he ?_
    have I2 : Inv X pins σ H1 { s1 with heap := h' } := I1.kept (t' := s1.toks) hk
    refine ⟨s1.heap.objs.size + 1, [s1.heap.objs.size + 1, s1.heap.objs.size], _, _, H1, rfl, I2, turn_enumT a (s1.heap.objs.size + 1) s1.heap.objs.size, ⟨⟨.none, he⟩, hit, Nat.succ_ne_self _, Nat.ne_of_lt hal, Nat.ne_of_gt (Nat.lt_succ_of_lt hal)⟩, fun b hb => ?_, q⟩
    have e' : b = s1.heap.objs.size + 1 ∨ b = s1.heap.objs.size := by simpa using hb
    have hle : s1.heap.objs.size ≤ b := by
      rcases e' with z | z
      · rw [z]; exact Nat.le_add_right _ _
      · rw [z]; exact Nat.le_refl _
    exact I1.fpOk hle (I1.hok.fresh hle)

section
variable {X : Cx} {cl : Nat → Addr} {W : WX} {tg e iter : Expr} {es : List Expr} {m : ME} {r : MA} {mi : MIter} {p pos : Pos}
theorem PI.or {t1 t2 : TI} (h1 : PI X tg iter t1) (h2 : PI X tg iter t2) : PI X tg iter (fun σ H R => t1 σ H R ∨ t2 σ H R) := ⟨fun pins s σ H R I hw => hw.elim (fun h => h1.run pins s σ H R I h) fun h => h2.run pins s σ H R I h⟩
theorem si_of (he : SE X cl W e m) : SI X cl W tg e (iOf m) := by
  refine PI.weaken (PI.or (PI.or (pi_list he) (pi_tup he)) (pi_str he)) fun σ H Rr ⟨β, env, st, re, R, F⟩ => ?_
  cases hm : m env st with
  | bad => unfold iOf at F; rw [hm] at F; exact F.elim
  | ex c fs s1 =>
    unfold iOf at F
    rw [hm] at F
    refine .inl (.inl ⟨β, env, st, re, R, ?_⟩)
    rw [hm]
    exact F
  | ok v s1 =>
    unfold iOf at F
    rw [hm] at F
    simp only [Res.bind_ok] at F
    cases v with
    | tup xs =>
      refine .inl (.inr ⟨β, env, st, re, R, ?_⟩)
      rw [hm]
      intro β1 H1 e1 R1 w rw
      obtain ⟨p, ys, rfl, hs, h2⟩ := rw
      exact ⟨p, rfl, ⟨ys, hs⟩, F.at e1 R1 _ (rsrc_tup hs h2)⟩
    | ref a =>
      refine .inl (.inl ⟨β, env, st, re, R, ?_⟩)
      rw [hm]
      intro β1 H1 e1 R1 w rw
      obtain ⟨p, hp, rfl⟩ := rw
      simp only [srcOf] at F
      split at F
      · rename_i xs hx
        obtain ⟨ys, hs, _⟩ := itemsL R1 hp hx
        exact ⟨p, rfl, ⟨ys, hs⟩, F.at e1 R1 _ (rsrc_list hp)⟩
      · exact F.elim
    | str x =>
      refine .inr ⟨β, env, st, re, R, ?_⟩
      rw [hm]
      intro β1 H1 e1 R1 w rw
      cases rw.str_of
      exact ⟨x, rfl, F.at e1 R1 _ rsrc_str⟩
    | _ => exact F.elim
theorem si_enum {elts : List Expr} {kk : Nat} {tpos : Pos} (hg : Gl X "enumerate") (hm : X.mg "enumerate" = none) (he : SE X cl W e m) (hs : starEach [e] X.env = [(false, eval e X.env)] := by rfl) :
    SI X cl W (.Tuple elts kk tpos) (.Call (.Name "enumerate" p) [e] [] pos) (iEnumM m) := by
  have ha : SA X cl W [e] (mCons m mNil) := sa_cons he sa_nil hs
  refine PI.weaken (PI.or (pi_enum hg hm ha hs) (pi_enumT hg hm ha hs)) fun σ H Rr ⟨β, env, st, re, R, F⟩ => ?_
  cases hm : m env st with
  | bad => unfold iEnumM at F; rw [hm] at F; exact F.elim
  | ex c fs s1 =>
    unfold iEnumM at F
    rw [hm] at F
    refine .inl ⟨β, env, st, re, R, ?_⟩
    unfold mCons
    rw [hm]
    exact F
  | ok v s1 =>
    unfold iEnumM at F
    rw [hm] at F
    simp only [Res.bind_ok] at F
    have one : mCons m mNil env st = .ok [v] s1 := by unfold mCons; rw [hm]; rfl
    cases v with
    | tup xs =>
      refine .inr ⟨β, env, st, re, R, ?_⟩
      rw [one]
      intro β1 H1 e1 R1 ws rws
      obtain ⟨w, rfl, rw⟩ := one_of rws
      obtain ⟨p, ys, rfl, hs, h2⟩ := rw
      exact ⟨p, ys, rfl, hs, F.at e1 R1 _ (rsrc_enumT hs h2)⟩
    | ref a =>
      refine .inl ⟨β, env, st, re, R, ?_⟩
      rw [one]
      intro β1 H1 e1 R1 ws rws
      obtain ⟨w, rfl, rw⟩ := one_of rws
      obtain ⟨p, hp, rfl⟩ := rw
      simp only [srcSeq, srcOf] at F
      cases hx : itemsOf s1 (.ref a) with
      | none => rw [hx] at F; exact F.elim
      | some xs =>
        rw [hx] at F
        obtain ⟨ys, hs, _⟩ := itemsL R1 hp hx
        exact ⟨p, ys, rfl, hs, F.at e1 R1 _ (rsrc_enumL hp)⟩
    | _ => exact F.elim
theorem si_range1 {a : Expr} (hg : Gl X "range") (hm : X.mg "range" = none) (ha : SA X cl W [a] r) (hs : starEach [a] X.env = [(false, eval a X.env)] := by rfl) : SI X cl W tg (.Call (.Name "range" p) [a] [] pos) (iRange1 r) := by
  refine PI.weaken (pi_range1 hg hm ha hs) fun σ H Rr ⟨β, env, st, re, R, F⟩ => ?_
  refine tMA_bind re R F fun us ws β1 H1 st1 e1 rs re1 R1 F1 => ?_
  unfold rngOf1 at F1
  split at F1
  · rename_i j
    obtain ⟨w, rfl, rw⟩ := one_of rs
    cases rw.int_of
    split at F1
    · rename_i h
      exact ⟨j, rfl, h.1, h.2, F1.here R1 _ (rsrc_range 0 j.toNat)⟩
    · exact F1.elim
  · exact F1.elim
theorem si_range2 {a b : Expr} (hg : Gl X "range") (hm : X.mg "range" = none) (ha : SA X cl W [a, b] r) (hs : starEach [a, b] X.env = [(false, eval a X.env), (false, eval b X.env)] := by rfl) (hs2 : starEach [b] X.env = [(false, eval b X.env)] := by rfl) :
    SI X cl W tg (.Call (.Name "range" p) [a, b] [] pos) (iRange2 r) := by
  refine PI.weaken (pi_range2 hg hm ha hs hs2) fun σ H Rr ⟨β, env, st, re, R, F⟩ => ?_
  refine tMA_bind re R F fun us ws β1 H1 st1 e1 rs re1 R1 F1 => ?_
  unfold rngOf2 at F1
  split at F1
  · rename_i i j
    obtain ⟨w, z, rfl, rw, rz⟩ := two_of rs
    cases rw.int_of
    cases rz.int_of
    split at F1
    · rename_i h
      exact ⟨i, j, rfl, h, F1.here R1 _ (rsrc_range i (j - i).toNat)⟩
    · exact F1.elim
  · exact F1.elim
end

/-! ### for -/
def forL (src : Src) (g : MG) (body : MS) : Nat → Nat → Env → M Fl
  | 0, _, _, _ => .bad
  | n + 1, i, env, st => match src.next i st with
    | none => .bad
    | some none => .ok (.nx env) st
    | some (some x) => (g x env st).bind fun env1 s1 => (body env1 s1).bind fun fl s2 => match fl with
      | .nx env2 => forL src g body n (i + 1) env2 s2
      | .ct env2 => forL src g body n (i + 1) env2 s2
      | .bk env2 => .ok (.nx env2) s2
      | .rt v => .ok (.rt v) s2
      | .xc c fs env2 => .ok (.xc c fs env2) s2
def sFor (mi : MIter) (g : MG) (body : MS) : MS := fun env st => bindX env (mi env st) fun src s1 => forL src g body (src.size + 1) 0 env s1
section
variable {X : Cx} {cl : Nat → Addr} {W : WX} {tg iter c : Expr} {bs : List Stmt} {mi : MIter} {g : MG} {body : MS} {pos : Pos}
theorem ss_for (hp : PassesOwn (model X.prog X.w) X.A X.env X.xe) (hc : X.calm = true) (hi : SI X cl W tg iter mi) (hg : SG X cl tg g) (hb : SSs X cl W bs body)
    (hs : ∀ x, foldedSetIterable iter X.env x = pure x := by intro _; rfl) : SS X cl W (.For tg iter bs [] pos) (sFor mi g body) := by
  refine PS.weaken (ps_for hp hc hi hg hb hs) fun D σ H ⟨β, env, st, re, R, F⟩ => ?_
  refine ⟨β, env, st, re, R, (bindX_fin re F).imp (fun src st1 β1 H1 e1 R1 F1 J hJ => ?_) fun _ _ _ _ _ _ _ q => q⟩
  refine ⟨fun i m σ' H' => ∃ β2 env2 st2, REnv X.K β2 H' env2 σ' ∧ RSt X.K cl β2 st2 H' ∧ Ext X.K β1 β2 H1 H' ∧ Fin X.K cl β2 H' (forL src g body m i env2 st2) (kS X.K cl W D) kNo, ⟨src.size + 1, β1, env, st1, re.mono e1, R1, .refl, F1⟩, ?_⟩
  rintro i m σ2 H2 ⟨β2, env2, st2, re2, R2, e2, F2⟩
  cases m with
  | zero => exact F2.elim
  | succ n =>
    have hJ2 := hJ i β2 H2 st2 e2 R2
    simp only [forL] at F2
    split at F2
    · exact F2.elim
    · rename_i hn
      rw [hn] at hJ2
      exact .inl ⟨hJ2, F2.here R2 σ2 re2⟩
    · rename_i x hn
      rw [hn] at hJ2
      obtain ⟨go, yl⟩ := hJ2
      refine .inr ⟨go, fun σ' H' => ∃ β3 env3 st3, REnv X.K β3 H' env3 σ' ∧ RSt X.K cl β3 st3 H' ∧ Ext X.K β1 β3 H1 H' ∧ Fin X.K cl β3 H' (forL src g body n (i + 1) env3 st3) (kS X.K cl W D) kNo, fun σ' H' h => ⟨n, Nat.lt_succ_self n, h⟩, fun w H3 hy => ?_⟩
      obtain ⟨e3, R3, rx⟩ := yl w H3 hy
      refine ⟨β2, x, env2, st2, rx, re2.mono e3, R3, (Fin.weak e3 F2).bind.imp (fun env4 st4 β4 H4 e4 R4 F4 σ4 re4 => ?_) fun _ _ _ _ _ _ _ q => q⟩
      refine ⟨β4, env4, st4, re4, R4, F4.bind.imp (fun fl st5 β5 H5 e5 R5 F5 => ?_) fun _ _ _ _ _ _ _ q => q⟩
      have e15 : Ext X.K β1 β5 H1 H5 := ((e2.trans e3).trans e4).trans e5
      cases fl with
      | nx env6 => exact fun σ6 re6 => ⟨β5, env6, st5, re6, R5, e15, F5⟩
      | ct env6 => exact fun σ6 re6 => ⟨β5, env6, st5, re6, R5, e15, F5⟩
      | bk env6 => exact F5.here R5
      | rt v => exact F5.here R5
      | xc c fs env6 => exact F5.here R5
/-! ### while -/
def whileL (t : MT) (body : MS) : Nat → Env → M Fl
  | 0, _, _ => .bad
  | n + 1, env, st => bindX env (t env st) fun k s1 => if k = true then (body env s1).bind fun fl s2 => match fl with
      | .nx env2 => whileL t body n env2 s2
      | .ct env2 => whileL t body n env2 s2
      | .bk env2 => .ok (.nx env2) s2
      | .rt v => .ok (.rt v) s2
      | .xc c fs env2 => .ok (.xc c fs env2) s2
    else .ok (.nx env) s1
def sWhile (fuel : Nat) (t : MT) (body : MS) : MS := fun env st => whileL t body fuel env st
theorem ss_while {t : MT} (fuel : Nat) (hp : PassesOwn (model X.prog X.w) X.A X.env X.xe) (hc : ST X cl W c t) (hb : SSs X cl W bs body) : SS X cl W (.While c bs [] pos) (sWhile fuel t body) := by
  refine PS.weaken (ps_while hp hc hb) fun D σ H ⟨β, env, st, re, R, F⟩ => ?_
  refine ⟨fun m σ' H' => ∃ β2 env2 st2, REnv X.K β2 H' env2 σ' ∧ RSt X.K cl β2 st2 H' ∧ Fin X.K cl β2 H' (whileL t body m env2 st2) (kS X.K cl W D) kNo, ⟨fuel, β, env, st, re, R, F⟩, ?_⟩
  rintro m σ2 H2 ⟨β2, env2, st2, re2, R2, F2⟩
  cases m with
  | zero => exact F2.elim
  | succ n =>
    simp only [whileL] at F2
    refine tMTX re2 R2 F2 fun k β3 H3 st3 e3 re3 R3 F3 => ?_
    cases k with
    | true =>
      rw [if_pos rfl] at F3 ⊢
      refine ⟨fun σ' H' => ∃ β3 env3 st3, REnv X.K β3 H' env3 σ' ∧ RSt X.K cl β3 st3 H' ∧ Fin X.K cl β3 H' (whileL t body n env3 st3) (kS X.K cl W D) kNo, fun σ' H' h => ⟨n, Nat.lt_succ_self n, h⟩, ?_⟩
      refine ⟨β3, env2, st3, re3, R3, F3.bind.imp (fun fl st5 β5 H5 e5 R5 F5 => ?_) fun _ _ _ _ _ _ _ q => q⟩
      cases fl with
      | nx env6 => exact fun σ6 re6 => ⟨β5, env6, st5, re6, R5, F5⟩
      | ct env6 => exact fun σ6 re6 => ⟨β5, env6, st5, re6, R5, F5⟩
      | bk env6 => exact F5.here R5
      | rt v => exact F5.here R5
      | xc c fs env6 => exact F5.here R5
    | false =>
      rw [if_neg (by decide)] at F3 ⊢
      exact F3.here R3 σ2 re3
end
end BH

set_option Elab.async false
set_option linter.all false
set_option maxRecDepth 100000
set_option autoImplicit false
set_option maxHeartbeats 1000000
/-! Comprehensions. -/
namespace BH
open PySem PySem.Spec PyProof.Rows L2

inductive Tgt where
  | nm (i : Nat)
  | tp (is : List Nat)
def setMany : List Nat → List MV → Env → Env
  | i :: is, x :: xs, env => setMany is xs (env.set i (some x))
  | _, _, env => env
def Tgt.put : Tgt → MV → Env → Option Env
  | .nm i, x, env => some (env.set i (some x))
  | .tp is, .tup xs, env => if xs.length = is.length then some (setMany is xs env) else none
  | .tp _, _, _ => none
def Tgt.slots : Tgt → List Nat
  | .nm i => [i]
  | .tp is => is
def gNames : List Nat → TGs
  | [] => gNil
  | i :: is => gCons (gName i) (gNames is)
def gT (K : PySem.W.Frag) : Tgt → TG
  | .nm i => gName i
  | .tp is => gTup K is.length (gNames is)
def mwipe (env : Env) : List Nat → Env
  | [] => env
  | v :: vs => (mwipe env vs).set v none
theorem mwipe_length (env : Env) : ∀ vs, (mwipe env vs).length = env.length
  | [] => rfl
  | v :: vs => by unfold mwipe; rw [List.length_set, mwipe_length env vs]
theorem mwipe_some {env : Env} {i : Nat} {x : MV} : ∀ {vs : List Nat}, (mwipe env vs)[i]? = some (some x) → env[i]? = some (some x) ∧ i ∉ vs
  | [], h => ⟨h, by simp⟩
  | v :: vs, h => by
    unfold mwipe at h
    by_cases hi : v = i
    · subst hi
      by_cases hv : v < (mwipe env vs).length
      · rw [List.getElem?_set_self hv] at h; cases h
      · rw [List.getElem?_eq_none (by simpa using hv)] at h; cases h
    · rw [List.getElem?_set_ne hi] at h
      obtain ⟨h1, h2⟩ := mwipe_some h
      exact ⟨h1, by simp only [List.mem_cons, not_or]; exact ⟨fun e => hi e.symm, h2⟩⟩
theorem wipe_get (σ : L2.St) (j : Nat) : ∀ vs : List Nat, (wipe σ vs)[j]? = if j ∈ vs ∧ j < σ.length then some none else σ[j]?
  | [] => by simp [wipe]
  | v :: vs => by
    unfold wipe
    rw [List.getElem?_set]
    have ih := wipe_get σ j vs
    have hl := wipe_length σ vs
    by_cases hv : v = j
    · subst hv
      by_cases h2 : v < σ.length
      · simp [hl, h2]
      · rw [if_pos rfl, hl, if_neg h2, if_neg (by intro h; exact h2 h.2)]
        exact (List.getElem?_eq_none (by omega)).symm
    · rw [if_neg hv, ih]
      have : j ∈ v :: vs ↔ j ∈ vs := by simp [Ne.symm hv]
      simp only [this]
theorem wipe_set {σ : L2.St} {i : Nat} {o : Option V} {vs : List Nat} (h : i ∈ vs) : wipe (σ.set i o) vs = wipe σ vs := by
  apply List.ext_getElem?
  intro j
  rw [wipe_get, wipe_get, List.length_set]
  by_cases hj : j ∈ vs ∧ j < σ.length
  · rw [if_pos hj, if_pos hj]
  · rw [if_neg hj, if_neg hj, List.getElem?_set]
    by_cases e : i = j
    · subst e
      rw [if_pos rfl]
      have : ¬ i < σ.length := fun z => hj ⟨h, z⟩
      rw [if_neg this]
      exact (List.getElem?_eq_none (by omega)).symm
    · rw [if_neg e]
theorem wipe_idem (σ : L2.St) (vs : List Nat) : wipe (wipe σ vs) vs = wipe σ vs := by
  apply List.ext_getElem?
  intro j
  rw [wipe_get, wipe_length, wipe_get]
  by_cases hj : j ∈ vs ∧ j < σ.length
  · rw [if_pos hj, if_pos hj]
  · rw [if_neg hj, if_neg hj]
section
variable {K : PySem.W.Frag} {cl : Nat → Addr} {β : List Addr} {H : Hp} {env : Env} {σ : L2.St}
theorem REnv.wipe (r : REnv K β H env σ) (vs : List Nat) : REnv K β H (mwipe env vs) (L2.wipe σ vs) := by
  refine ⟨by rw [mwipe_length, wipe_length, r.len], fun i v h => ?_⟩
  obtain ⟨h1, h2⟩ := mwipe_some h
  obtain ⟨w, h3, h4⟩ := r.at_ i v h1
  refine ⟨w, ?_, h4⟩
  rw [wipe_get, if_neg (fun z => h2 z.1)]
  exact h3
theorem gNames_ok {Q : L2.St → Hp → Prop} {vs : List Nat} {σ0 : L2.St} : ∀ {is : List Nat} {xs : List MV} {ws : List V} {env : Env} {σ : L2.St}, REnv K β H env σ → RVs K β H xs ws → xs.length = is.length → (∀ i ∈ is, i ∈ vs) → wipe σ vs = σ0 → (∀ σ2, REnv K β H (setMany is xs env) σ2 → wipe σ2 vs = σ0 → Q σ2 H) → gNames is ws σ H Q
  | [], [], ws, env, σ, re, rs, _, _, e, h => ⟨rs, h σ re e⟩
  | i :: is, x :: xs, ws, env, σ, re, ⟨w, ws', e1, r1, r2⟩, hl, hi, e, h => by
    subst e1
    refine ⟨w, ws', rfl, ?_⟩
    refine gNames_ok (re.set r1) r2 (by simpa using hl) (fun j hj => hi j (List.mem_cons_of_mem _ hj)) ?_ h
    rw [wipe_set (hi i List.mem_cons_self)]
    exact e
theorem gT_ok {t : Tgt} {x : MV} {w : V} {env1 : Env} {vs : List Nat} {Q : L2.St → Hp → Prop} (re : REnv K β H env σ) (rx : RV K β H x w) (hp : t.put x env = some env1) (hs : ∀ i ∈ t.slots, i ∈ vs)
    (h : ∀ σ2, REnv K β H env1 σ2 → wipe σ2 vs = wipe σ vs → Q σ2 H) : gT K t w σ H Q := by
  cases t with
  | nm i =>
    cases hp
    exact h _ (re.set rx) (wipe_set (hs i (by simp [Tgt.slots])))
  | tp is =>
    cases x with
    | tup xs =>
      simp only [Tgt.put] at hp
      split at hp
      · rename_i hl
        cases hp
        obtain ⟨p, ys, rfl, h1, h2⟩ := rx
        exact ⟨p, ys, rfl, h1, by rw [h2.length, hl], gNames_ok re h2 hl hs rfl h⟩
      · cases hp
    | _ => cases hp
end

def lappend (D : Nat) (y : MV) : M Unit := fun st => match st[D]? with
  | some (.lst acc) => if acc.length < 16777216 then .ok () (st.set D (.lst (acc ++ [y]))) else .bad
  | _ => .bad
def lcL (src : Src) (t : Tgt) (test : MT) (elt : ME) (env : Env) (D : Nat) : Nat → Nat → M MV
  | 0, _, _ => .bad
  | n + 1, i, st => match src.next i st with
    | none => .bad
    | some none => .ok (.ref D) st
    | some (some x) => match t.put x env with
      | none => .bad
      | some env1 => (noX (test env1 st)).bind fun b s1 => if b = true then (noX (elt env1 s1)).bind fun y s2 => (lappend D y s2).bind fun _ s3 => lcL src t test elt env D n (i + 1) s3
        else lcL src t test elt env D n (i + 1) s1
def mLc (mi : MIter) (vs : List Nat) (t : Tgt) (test : MT) (elt : ME) : ME := fun env st => (mi env st).bind fun src s1 => lcL src t test elt (mwipe env vs) s1.length (src.size + 1) 0 (s1 ++ [.lst []])
def mYes : MT := fun _ st => .ok true st
abbrev W0 : WX := fun _ _ _ _ => False
theorem PTs.weaken {X : Cx} {es : List Expr} {t t' : TT} (h : PTs X es t) (i : ∀ σ H Q, t' σ H Q → t σ H Q) : PTs X es t' := ⟨fun pins s σ H Q I hw => h.run pins s σ H Q I (i _ _ _ hw)⟩
def STs (X : Cx) (cl : Nat → Addr) (es : List Expr) (m : MT) : Prop := PTs X es (tMT X.K cl W0 m)
theorem sts_nil {X : Cx} {cl : Nat → Addr} : STs X cl [] mYes := PTs.weaken pts_nil fun σ H Q ⟨β, env, st, re, R, F⟩ => F.here R
theorem sts_one {X : Cx} {cl : Nat → Addr} {e : Expr} {m : MT} (h : ST X cl W0 e m) : STs X cl [e] m := pts_one h

section
variable {X : Cx} {cl : Nat → Addr} {W : WX} {elt tg iter : Expr} {ifs : List Expr} {scope : Scope} {own : List (Str × Nat)} {pos : Pos} {mi : MIter} {t : Tgt} {test : MT} {me : ME}
/-- the reading of a comprehension over the plain machine -/
theorem lc_read {K : PySem.W.Frag} {β : List Addr} {env : Env} {st : Mst} {σ : L2.St} {H : Hp} {Q : VK} {vs : List Nat} {ke : Nat → Mfs → Mst → List Addr → Hp → Prop} {src : Src} {J : It} (hs : ∀ i ∈ t.slots, i ∈ vs) (re : REnv K β H env σ) (R : RSt K cl β st H) (hJ : RSrc K cl β H src J)
    (F : Fin K cl β H (lcL src t test me (mwipe env vs) st.length (src.size + 1) 0 (st ++ [.lst []])) (kV K Q) ke) :
    ∀ D, H D = none → ∃ Wp : Nat → Nat → Hp → Prop, (∃ m, Wp 0 m (upd H D (.lst []))) ∧ ∀ i m H, Wp i m H →
      (J.stop i H ∧ Q (.ref D) H) ∨ (J.go i H ∧ ∃ Nx : Hp → Prop, (∀ H', Nx H' → ∃ m', m' < m ∧ Wp (i + 1) m' H') ∧ ∀ x H', J.yld i H x H' → gT K t x (wipe σ vs) H' fun σ2 H2 => wipe σ2 vs = wipe σ vs ∧ tMT K cl W0 test σ2 H2 fun b H3 =>
        if b = true then tM K cl W0 me σ2 H3 fun y H4 => ∃ acc, H4 D = some (.lst acc) ∧ acc.length < sizeLine ∧ Nx (upd H4 D (.lst (acc ++ [y]))) else Nx H3) := by
  intro D hD
  have E0 : Ext K β (β ++ [D]) H (upd H D (.lst [])) := .snoc hD
  have R0 : RSt K cl (β ++ [D]) (st ++ [.lst []]) (upd H D (.lst [])) := R.snoc hD ⟨[], upd_same, rfl⟩
  have bD : (β ++ [D])[st.length]? = some D := by rw [← R.len]; simp
  refine ⟨fun i m H' => ∃ β2 st2, RSt K cl β2 st2 H' ∧ Ext K (β ++ [D]) β2 (upd H D (.lst [])) H' ∧ Fin K cl β2 H' (lcL src t test me (mwipe env vs) st.length m i st2) (kV K Q) ke, ⟨src.size + 1, β ++ [D], st ++ [.lst []], R0, .refl, Fin.weak E0 F⟩, ?_⟩
  rintro i m H2 ⟨β2, st2, R2, E2, F2⟩
  cases m with
  | zero => exact F2.elim
  | succ n =>
    have hJ2 := hJ i β2 H2 st2 (E0.trans E2) R2
    simp only [lcL] at F2
    split at F2
    · exact F2.elim
    · rename_i hn
      rw [hn] at hJ2
      exact .inl ⟨hJ2, F2.here R2 _ ⟨D, E2.pre _ _ bD, rfl⟩⟩
    · rename_i x hn
      rw [hn] at hJ2
      obtain ⟨go, yl⟩ := hJ2
      refine .inr ⟨go, fun H' => ∃ β3 st3, RSt K cl β3 st3 H' ∧ Ext K (β ++ [D]) β3 (upd H D (.lst [])) H' ∧ Fin K cl β3 H' (lcL src t test me (mwipe env vs) st.length n (i + 1) st3) (kV K Q) ke, fun H' h => ⟨n, Nat.lt_succ_self n, h⟩, fun w H3 hy => ?_⟩
      obtain ⟨e3, R3, rx⟩ := yl w H3 hy
      split at F2
      · exact F2.elim
      · rename_i env1 hp
        have E3 := E2.trans e3
        refine gT_ok ((re.mono (E0.trans E3)).wipe vs) rx hp hs fun σ2 re2 hw => ⟨by rw [hw, wipe_idem], ?_⟩
        refine tMT_noX re2 R3 (Fin.weak e3 F2) fun b β4 H4 st4 e4 re4 R4 F4 => ?_
        cases b with
        | false =>
          rw [if_neg (by decide)] at F4 ⊢
          exact ⟨β4, st4, R4, E3.trans e4, F4⟩
        | true =>
          rw [if_pos rfl] at F4 ⊢
          refine tM_noX re4 R4 F4 fun y z β5 H5 st5 e5 rz re5 R5 F5 => ?_
          have E5 := (E3.trans e4).trans e5
          unfold lappend at F5
          split at F5
          · rename_i acc ho
            split at F5
            · rename_i hl
              have hq := E5.pre _ _ bD
              obtain ⟨ys, h1, h2⟩ := R5.get hq ho
              have hm : Mut (H5 D) := by rw [h1]; trivial
              refine ⟨ys, h1, by rw [h2.length]; exact line_lt hl, ?_⟩
              have Eu : Ext K β5 β5 H5 (upd H5 D (.lst (ys ++ [z]))) := .upd (.inr hm)
              exact ⟨β5, _, R5.set (o' := .lst (acc ++ [y])) hq ho rfl rfl ⟨_, upd_same, (h2.append (RVs.one rz)).mono Eu⟩, E5.trans Eu, Fin.weak Eu F5⟩
            · exact F5.elim
          · exact F5.elim
theorem tI_read {K : PySem.W.Frag} {β : List Addr} {env : Env} {st : Mst} {σ : L2.St} {H : Hp} {α : Type} {f : Src → Mst → Res α} {k : α → Mst → List Addr → Hp → Prop} (re : REnv K β H env σ) (R : RSt K cl β st H)
    (F : Fin K cl β H ((mi env st).bind f) k (kX K cl W σ)) {Rr : It → Hp → Prop}
    (h : ∀ src β' H' st' J, Ext K β β' H H' → RSrc K cl β' H' src J → REnv K β' H' env σ → RSt K cl β' st' H' → Fin K cl β' H' (f src st') k (kX K cl W σ) → Rr J H') : tI K cl W mi σ H Rr :=
  ⟨β, env, st, re, R, F.bind.imp (fun src st' β' H' e R' F' J hJ => h src β' H' st' J e hJ (re.mono e) R' F') fun _ _ _ _ _ _ _ q => q⟩
theorem tI_readX {K : PySem.W.Frag} {β : List Addr} {env : Env} {st : Mst} {σ : L2.St} {H : Hp} {f : Src → Mst → Res Fl} {D : Ends} (re : REnv K β H env σ) (R : RSt K cl β st H)
    (F : Fin K cl β H (bindX env (mi env st) f) (kS K cl W D) kNo) {Rr : It → Hp → Prop}
    (h : ∀ src β' H' st' J, Ext K β β' H H' → RSrc K cl β' H' src J → REnv K β' H' env σ → RSt K cl β' st' H' → Fin K cl β' H' (f src st') (kS K cl W D) kNo → Rr J H') : tI K cl W mi σ H Rr :=
  ⟨β, env, st, re, R, (bindX_fin re F).imp (fun src st' β' H' e R' F' J hJ => h src β' H' st' J e hJ (re.mono e) R' F') fun _ _ _ _ _ _ _ q => q⟩
theorem se_lc {vs : List Nat} (hc : X.calm = true) (hN : X.N.Nodup) (hi : SI X cl W tg iter mi) (ok : BlkOk X.N X.env.scope scope own) (hvs : own.map (·.2) = vs) (hsl : ∀ i ∈ t.slots, i ∈ vs)
    (hg : ∀ (s : Shared) (H : Hp) (C : Addr) (ce : List (Str × Addr)) (fp : List Addr), PG (X.blk s H scope (compEnvC scope ce C X.env) fp) tg (gT X.K t)) (ht : ∀ (s : Shared) (H : Hp) (C : Addr) (ce : List (Str × Addr)) (fp : List Addr), STs (X.blk s H scope (compEnvC scope ce C X.env) fp) cl ifs test)
    (he : ∀ (s : Shared) (H : Hp) (C : Addr) (ce : List (Str × Addr)) (fp : List Addr), SE (X.blk s H scope (compEnvC scope ce C X.env) fp) cl W0 elt me) (hs : ∀ x, foldedSetIterable iter X.env x = pure x := by intro _; rfl) :
    SE X cl W (.ListComp elt [⟨tg, iter, ifs, 0⟩] scope pos) (mLc mi vs t test me) := by
  subst hvs
  refine PE.weaken (pe_lc (tt := tMT X.K cl W0 test) (te := tM X.K cl W0 me) hc hN hi ok hg (fun s H C ce fp => ht s H C ce fp) (fun s H C ce fp => he s H C ce fp) hs) fun σ H Q ⟨β, env, st, re, R, F⟩ => ?_
  exact tI_read re R F fun src β1 H1 st1 J e1 hJ re1 R1 F1 => lc_read hsl re1 R1 hJ F1
theorem ss_setLc {vs : List Nat} {i : Nat} {y : Str} {py spos : Pos} (hc : X.calm = true) (hN : X.N.Nodup) (hy : X.N[i]? = some y) (hyl : X.env.scope.names.lookup y = some .local)
    (hsw : swapsWith (.ListComp elt [⟨tg, iter, ifs, 0⟩] scope pos) (some (.Name y py)) spos.line X.env = pure true) (hi : SI X cl W tg iter mi) (ok : BlkOk X.N X.env.scope scope own) (hvs : own.map (·.2) = vs) (hsl : ∀ i ∈ t.slots, i ∈ vs)
    (hg : ∀ (s : Shared) (H : Hp) (C : Addr) (ce : List (Str × Addr)) (fp : List Addr), PG (X.blk s H scope (compEnvC scope ce C X.env) fp) tg (gT X.K t)) (ht : ∀ (s : Shared) (H : Hp) (C : Addr) (ce : List (Str × Addr)) (fp : List Addr), STs (X.blk s H scope (compEnvC scope ce C X.env) fp) cl ifs test)
    (he : ∀ (s : Shared) (H : Hp) (C : Addr) (ce : List (Str × Addr)) (fp : List Addr), SE (X.blk s H scope (compEnvC scope ce C X.env) fp) cl W0 elt me) (hs : ∀ x, foldedSetIterable iter X.env x = pure x := by intro _; rfl) :
    SS X cl W (.Assign [.Name y py] (.ListComp elt [⟨tg, iter, ifs, 0⟩] scope pos) spos) (sAsg (mLc mi vs t test me) (gtName i)) := by
  subst hvs
  refine PS.weaken (ps_setLc (tt := tMT X.K cl W0 test) (te := tM X.K cl W0 me) hc hN hy hyl hsw hi ok hg (fun s H C ce fp => ht s H C ce fp) (fun s H C ce fp => he s H C ce fp) hs) fun D σ H ⟨β, env, st, re, R, F⟩ => ?_
  unfold sAsg mLc at F
  have as1 : bindX env ((mi env st).bind fun src s1 => lcL src t test me (mwipe env (own.map (·.2))) s1.length (src.size + 1) 0 (s1 ++ [.lst []])) (fun v s1 => (gtName i v env s1).bind fun env1 s2 => .ok (.nx env1) s2) =
      bindX env (mi env st) fun src s1 => bindX env (lcL src t test me (mwipe env (own.map (·.2))) s1.length (src.size + 1) 0 (s1 ++ [.lst []])) (fun v s1 => (gtName i v env s1).bind fun env1 s2 => .ok (.nx env1) s2) := by
    cases mi env st <;> rfl
  rw [as1] at F
  refine tI_readX re R F fun src β1 H1 st1 J e1 hJ re1 R1 F1 => ?_
  refine lc_read (ke := kX X.K cl W σ) (Q := fun x H1 => gName i x σ H1 D.nx) hsl re1 R1 hJ ((bindX_fin re1 F1).imp (fun v st2 β2 H2 e2 R2 F2 w rw => ?_) fun _ _ _ _ _ _ _ q => q)
  exact F2.here R2 _ ((re1.mono e2).set rw)
end

/-! ### two clauses -/
def lcI (src : Src) (t : Tgt) (test : MT) (elt : ME) (env : Env) (D : Nat) : Nat → Nat → M Unit
  | 0, _, _ => .bad
  | n + 1, i, st => match src.next i st with
    | none => .bad
    | some none => .ok () st
    | some (some x) => match t.put x env with
      | none => .bad
      | some env1 => (noX (test env1 st)).bind fun b s1 => if b = true then (noX (elt env1 s1)).bind fun y s2 => (lappend D y s2).bind fun _ s3 => lcI src t test elt env D n (i + 1) s3
        else lcI src t test elt env D n (i + 1) s1
def lcL2 (src : Src) (t : Tgt) (test : MT) (mi1 : MIter) (vs1 : List Nat) (t1 : Tgt) (test1 : MT) (elt : ME) (env : Env) (D : Nat) : Nat → Nat → M MV
  | 0, _, _ => .bad
  | n + 1, i, st => match src.next i st with
    | none => .bad
    | some none => .ok (.ref D) st
    | some (some x) => match t.put x env with
      | none => .bad
      | some env1 => (noX (test env1 st)).bind fun b s1 => if b = true then (noX (mi1 env1 s1)).bind fun src1 s2 => (lcI src1 t1 test1 elt (mwipe env1 vs1) D (src1.size + 1) 0 s2).bind fun _ s3 => lcL2 src t test mi1 vs1 t1 test1 elt env D n (i + 1) s3
        else lcL2 src t test mi1 vs1 t1 test1 elt env D n (i + 1) s1
def mLc2 (mi : MIter) (vs : List Nat) (t : Tgt) (test : MT) (mi1 : MIter) (vs1 : List Nat) (t1 : Tgt) (test1 : MT) (elt : ME) : ME := fun env st => (mi env st).bind fun src s1 => lcL2 src t test mi1 vs1 t1 test1 elt (mwipe env vs) s1.length (src.size + 1) 0 (s1 ++ [.lst []])
section
variable {X : Cx} {cl : Nat → Addr} {W : WX} {elt tg iter tg1 iter1 : Expr} {ifs ifs1 : List Expr} {scope : Scope} {own : List (Str × Nat)} {pos : Pos} {mi mi1 : MIter} {t t1 : Tgt} {test test1 : MT} {me : ME} {vs1 : List Nat}
theorem tI_noX {K : PySem.W.Frag} {W' : WX} {α : Type} {f : Src → Mst → Res α} {β : List Addr} {env : Env} {st : Mst} {σ : L2.St} {H : Hp} {k : α → Mst → List Addr → Hp → Prop} {ke : Nat → Mfs → Mst → List Addr → Hp → Prop} (re : REnv K β H env σ) (R : RSt K cl β st H)
    (F : Fin K cl β H ((noX (mi env st)).bind f) k ke) {Rr : It → Hp → Prop}
    (h : ∀ src β' H' st' J, Ext K β β' H H' → RSrc K cl β' H' src J → REnv K β' H' env σ → RSt K cl β' st' H' → Fin K cl β' H' (f src st') k ke → Rr J H') : tI K cl W' mi σ H Rr := by
  refine ⟨β, env, st, re, R, ?_⟩
  cases hm : mi env st with
  | ok v s1 =>
    rw [hm] at F
    exact fun β' H' e R' J hJ => h v β' H' s1 J e hJ (re.mono e) R' (Fin.weak e F)
  | ex c fs s1 => rw [hm] at F; exact F.elim
  | bad => rw [hm] at F; exact F.elim
theorem lc2_read {K : PySem.W.Frag} {β : List Addr} {env : Env} {st : Mst} {σ : L2.St} {H : Hp} {Q : VK} {vs : List Nat} {ke : Nat → Mfs → Mst → List Addr → Hp → Prop} {src : Src} {J : It} (hs : ∀ i ∈ t.slots, i ∈ vs) (hs1 : ∀ i ∈ t1.slots, i ∈ vs1) (re : REnv K β H env σ) (R : RSt K cl β st H) (hJ : RSrc K cl β H src J)
    (F : Fin K cl β H (lcL2 src t test mi1 vs1 t1 test1 me (mwipe env vs) st.length (src.size + 1) 0 (st ++ [.lst []])) (kV K Q) ke) :
    ∀ D, H D = none → ∃ Wp : Nat → Nat → Hp → Prop, (∃ m, Wp 0 m (upd H D (.lst []))) ∧ ∀ i m H, Wp i m H →
      (J.stop i H ∧ Q (.ref D) H) ∨ (J.go i H ∧ ∃ Nx : Hp → Prop, (∀ H', Nx H' → ∃ m', m' < m ∧ Wp (i + 1) m' H') ∧ ∀ x H', J.yld i H x H' → gT K t x (wipe σ vs) H' fun σ2 H2 => wipe σ2 vs = wipe σ vs ∧ tMT K cl W0 test σ2 H2 fun b H3 =>
        if b = true then tI K cl W0 mi1 σ2 H3 fun J1 H4 => ∃ W1 : Nat → Nat → Hp → Prop, (∃ m, W1 0 m H4) ∧ ∀ j k H, W1 j k H →
          (J1.stop j H ∧ Nx H) ∨ (J1.go j H ∧ ∃ Nx1 : Hp → Prop, (∀ H', Nx1 H' → ∃ k', k' < k ∧ W1 (j + 1) k' H') ∧ ∀ x H', J1.yld j H x H' → gT K t1 x (wipe σ2 vs1) H' fun σ3 H5 => wipe σ3 vs1 = wipe σ2 vs1 ∧ tMT K cl W0 test1 σ3 H5 fun b H6 =>
            if b = true then tM K cl W0 me σ3 H6 fun y H7 => ∃ acc, H7 D = some (.lst acc) ∧ acc.length < sizeLine ∧ Nx1 (upd H7 D (.lst (acc ++ [y]))) else Nx1 H6)
        else Nx H3) := by
  intro D hD
  have E0 : Ext K β (β ++ [D]) H (upd H D (.lst [])) := .snoc hD
  have R0 : RSt K cl (β ++ [D]) (st ++ [.lst []]) (upd H D (.lst [])) := R.snoc hD ⟨[], upd_same, rfl⟩
  have bD : (β ++ [D])[st.length]? = some D := by rw [← R.len]; simp
  refine ⟨fun i m H' => ∃ β2 st2, RSt K cl β2 st2 H' ∧ Ext K (β ++ [D]) β2 (upd H D (.lst [])) H' ∧ Fin K cl β2 H' (lcL2 src t test mi1 vs1 t1 test1 me (mwipe env vs) st.length m i st2) (kV K Q) ke, ⟨src.size + 1, β ++ [D], st ++ [.lst []], R0, .refl, Fin.weak E0 F⟩, ?_⟩
  rintro i m H2 ⟨β2, st2, R2, E2, F2⟩
  cases m with
  | zero => exact F2.elim
  | succ n =>
    have hJ2 := hJ i β2 H2 st2 (E0.trans E2) R2
    simp only [lcL2] at F2
    split at F2
    · exact F2.elim
    · rename_i hn
      rw [hn] at hJ2
      exact .inl ⟨hJ2, F2.here R2 _ ⟨D, E2.pre _ _ bD, rfl⟩⟩
    · rename_i x hn
      rw [hn] at hJ2
      obtain ⟨go, yl⟩ := hJ2
      refine .inr ⟨go, fun H' => ∃ β3 st3, RSt K cl β3 st3 H' ∧ Ext K (β ++ [D]) β3 (upd H D (.lst [])) H' ∧ Fin K cl β3 H' (lcL2 src t test mi1 vs1 t1 test1 me (mwipe env vs) st.length n (i + 1) st3) (kV K Q) ke, fun H' h => ⟨n, Nat.lt_succ_self n, h⟩, fun w H3 hy => ?_⟩
      obtain ⟨e3, R3, rx⟩ := yl w H3 hy
      split at F2
      · exact F2.elim
      · rename_i env1 hp
        have E3 := E2.trans e3
        refine gT_ok ((re.mono (E0.trans E3)).wipe vs) rx hp hs fun σ2 re2 hw => ⟨by rw [hw, wipe_idem], ?_⟩
        refine tMT_noX re2 R3 (Fin.weak e3 F2) fun b β4 H4 st4 e4 re4 R4 F4 => ?_
        cases b with
        | false =>
          rw [if_neg (by decide)] at F4 ⊢
          exact ⟨β4, st4, R4, E3.trans e4, F4⟩
        | true =>
          rw [if_pos rfl] at F4 ⊢
          refine tI_noX re4 R4 F4 fun src1 β5 H5 st5 J1 e5 hJ1 re5 R5 F5 => ?_
          have E5 := (E3.trans e4).trans e5
          refine ⟨fun j k H' => ∃ β6 st6, RSt K cl β6 st6 H' ∧ Ext K β5 β6 H5 H' ∧ Fin K cl β6 H' (lcI src1 t1 test1 me (mwipe env1 vs1) st.length k j st6) (fun _ st' β' H' => Fin K cl β' H' (lcL2 src t test mi1 vs1 t1 test1 me (mwipe env vs) st.length n (i + 1) st') (kV K Q) ke) ke, ⟨src1.size + 1, β5, st5, R5, .refl, F5.bind⟩, ?_⟩
          rintro j k H6 ⟨β6, st6, R6, E6, F6⟩
          cases k with
          | zero => exact F6.elim
          | succ k =>
            have hJ6 := hJ1 j β6 H6 st6 E6 R6
            simp only [lcI] at F6
            split at F6
            · exact F6.elim
            · rename_i hn6
              rw [hn6] at hJ6
              exact .inl ⟨hJ6, β6, st6, R6, E5.trans E6, F6.here R6⟩
            · rename_i x6 hn6
              rw [hn6] at hJ6
              obtain ⟨go6, yl6⟩ := hJ6
              refine .inr ⟨go6, fun H' => ∃ β7 st7, RSt K cl β7 st7 H' ∧ Ext K β5 β7 H5 H' ∧ Fin K cl β7 H' (lcI src1 t1 test1 me (mwipe env1 vs1) st.length k (j + 1) st7) (fun _ st' β' H' => Fin K cl β' H' (lcL2 src t test mi1 vs1 t1 test1 me (mwipe env vs) st.length n (i + 1) st') (kV K Q) ke) ke, fun H' h => ⟨k, Nat.lt_succ_self k, h⟩, fun w7 H7 hy7 => ?_⟩
              obtain ⟨e7, R7, rx7⟩ := yl6 w7 H7 hy7
              split at F6
              · exact F6.elim
              · rename_i env7 hp7
                have E7 := E6.trans e7
                refine gT_ok ((re5.mono E7).wipe vs1) rx7 hp7 hs1 fun σ7 re7 hw7 => ⟨by rw [hw7, wipe_idem], ?_⟩
                refine tMT_noX re7 R7 (Fin.weak e7 F6) fun b β8 H8 st8 e8 re8 R8 F8 => ?_
                cases b with
                | false =>
                  rw [if_neg (by decide)] at F8 ⊢
                  exact ⟨β8, st8, R8, E7.trans e8, F8⟩
                | true =>
                  rw [if_pos rfl] at F8 ⊢
                  refine tM_noX re8 R8 F8 fun y z β9 H9 st9 e9 rz re9 R9 F9 => ?_
                  have E9 := (E7.trans e8).trans e9
                  unfold lappend at F9
                  split at F9
                  · rename_i acc ho
                    split at F9
                    · rename_i hl
                      have hq := (E5.trans E9).pre _ _ bD
                      obtain ⟨ys, h1, h2⟩ := R9.get hq ho
                      have hm : Mut (H9 D) := by rw [h1]; trivial
                      refine ⟨ys, h1, by rw [h2.length]; exact line_lt hl, ?_⟩
                      have Eu : Ext K β9 β9 H9 (upd H9 D (.lst (ys ++ [z]))) := .upd (.inr hm)
                      exact ⟨β9, _, R9.set (o' := .lst (acc ++ [y])) hq ho rfl rfl ⟨_, upd_same, (h2.append (RVs.one rz)).mono Eu⟩, E9.trans Eu, Fin.weak Eu F9⟩
                    · exact F9.elim
                  · exact F9.elim
theorem se_lc2 {vs : List Nat} (hc : X.calm = true) (hN : X.N.Nodup) (hi : SI X cl W tg iter mi) (ok : BlkOk X.N X.env.scope scope own) (hvs : own.map (·.2) = vs) (hsl : ∀ i ∈ t.slots, i ∈ vs) (hv : ∀ i ∈ vs1, i ∈ vs) (hsl1 : ∀ i ∈ t1.slots, i ∈ vs1)
    (hg : ∀ (s : Shared) (H : Hp) (C : Addr) (ce : List (Str × Addr)) (fp : List Addr), PG (X.blk s H scope (compEnvC scope ce C X.env) fp) tg (gT X.K t)) (ht : ∀ (s : Shared) (H : Hp) (C : Addr) (ce : List (Str × Addr)) (fp : List Addr), STs (X.blk s H scope (compEnvC scope ce C X.env) fp) cl ifs test)
    (hi1 : ∀ (s : Shared) (H : Hp) (C : Addr) (ce : List (Str × Addr)) (fp : List Addr), SI (X.blk s H scope (compEnvC scope ce C X.env) fp) cl W0 tg1 iter1 mi1)
    (hg1 : ∀ (s : Shared) (H : Hp) (C : Addr) (ce : List (Str × Addr)) (fp : List Addr), PG (X.blk s H scope (compEnvC scope ce C X.env) fp) tg1 (gT X.K t1)) (ht1 : ∀ (s : Shared) (H : Hp) (C : Addr) (ce : List (Str × Addr)) (fp : List Addr), STs (X.blk s H scope (compEnvC scope ce C X.env) fp) cl ifs1 test1)
    (he : ∀ (s : Shared) (H : Hp) (C : Addr) (ce : List (Str × Addr)) (fp : List Addr), SE (X.blk s H scope (compEnvC scope ce C X.env) fp) cl W0 elt me) (hs : ∀ x, foldedSetIterable iter X.env x = pure x := by intro _; rfl) (hs1 : ∀ env x, foldedSetIterable iter1 env x = pure x := by intro _ _; rfl) :
    SE X cl W (.ListComp elt [⟨tg, iter, ifs, 0⟩, ⟨tg1, iter1, ifs1, 0⟩] scope pos) (mLc2 mi vs t test mi1 vs1 t1 test1 me) := by
  subst hvs
  refine PE.weaken (pe_lc2 (tt := tMT X.K cl W0 test) (tt1 := tMT X.K cl W0 test1) (te := tM X.K cl W0 me) (wi1 := tI X.K cl W0 mi1) hc hN hi ok hv hg (fun s H C ce fp => ht s H C ce fp) (fun s H C ce fp => hi1 s H C ce fp) hg1 (fun s H C ce fp => ht1 s H C ce fp) (fun s H C ce fp => he s H C ce fp) hs hs1) fun σ H Q ⟨β, env, st, re, R, F⟩ => ?_
  exact tI_read re R F fun src β1 H1 st1 J e1 hJ re1 R1 F1 => lc2_read hsl hsl1 re1 R1 hJ F1
theorem ss_setLc2 {vs : List Nat} {i : Nat} {y : Str} {py spos : Pos} (hc : X.calm = true) (hN : X.N.Nodup) (hy : X.N[i]? = some y) (hyl : X.env.scope.names.lookup y = some .local)
    (hsw : swapsWith (.ListComp elt [⟨tg, iter, ifs, 0⟩, ⟨tg1, iter1, ifs1, 0⟩] scope pos) (some (.Name y py)) spos.line X.env = pure true) (hi : SI X cl W tg iter mi) (ok : BlkOk X.N X.env.scope scope own) (hvs : own.map (·.2) = vs) (hsl : ∀ i ∈ t.slots, i ∈ vs) (hv : ∀ i ∈ vs1, i ∈ vs) (hsl1 : ∀ i ∈ t1.slots, i ∈ vs1)
    (hg : ∀ (s : Shared) (H : Hp) (C : Addr) (ce : List (Str × Addr)) (fp : List Addr), PG (X.blk s H scope (compEnvC scope ce C X.env) fp) tg (gT X.K t)) (ht : ∀ (s : Shared) (H : Hp) (C : Addr) (ce : List (Str × Addr)) (fp : List Addr), STs (X.blk s H scope (compEnvC scope ce C X.env) fp) cl ifs test)
    (hi1 : ∀ (s : Shared) (H : Hp) (C : Addr) (ce : List (Str × Addr)) (fp : List Addr), SI (X.blk s H scope (compEnvC scope ce C X.env) fp) cl W0 tg1 iter1 mi1)
    (hg1 : ∀ (s : Shared) (H : Hp) (C : Addr) (ce : List (Str × Addr)) (fp : List Addr), PG (X.blk s H scope (compEnvC scope ce C X.env) fp) tg1 (gT X.K t1)) (ht1 : ∀ (s : Shared) (H : Hp) (C : Addr) (ce : List (Str × Addr)) (fp : List Addr), STs (X.blk s H scope (compEnvC scope ce C X.env) fp) cl ifs1 test1)
    (he : ∀ (s : Shared) (H : Hp) (C : Addr) (ce : List (Str × Addr)) (fp : List Addr), SE (X.blk s H scope (compEnvC scope ce C X.env) fp) cl W0 elt me) (hs : ∀ x, foldedSetIterable iter X.env x = pure x := by intro _; rfl) (hs1 : ∀ env x, foldedSetIterable iter1 env x = pure x := by intro _ _; rfl) :
    SS X cl W (.Assign [.Name y py] (.ListComp elt [⟨tg, iter, ifs, 0⟩, ⟨tg1, iter1, ifs1, 0⟩] scope pos) spos) (sAsg (mLc2 mi vs t test mi1 vs1 t1 test1 me) (gtName i)) := by
  subst hvs
  refine PS.weaken (ps_setLc2 (tt := tMT X.K cl W0 test) (tt1 := tMT X.K cl W0 test1) (te := tM X.K cl W0 me) (wi1 := tI X.K cl W0 mi1) hc hN hy hyl hsw hi ok hv hg (fun s H C ce fp => ht s H C ce fp) (fun s H C ce fp => hi1 s H C ce fp) hg1 (fun s H C ce fp => ht1 s H C ce fp) (fun s H C ce fp => he s H C ce fp) hs hs1) fun D σ H ⟨β, env, st, re, R, F⟩ => ?_
  unfold sAsg mLc2 at F
  have as1 : bindX env ((mi env st).bind fun src s1 => lcL2 src t test mi1 vs1 t1 test1 me (mwipe env (own.map (·.2))) s1.length (src.size + 1) 0 (s1 ++ [.lst []])) (fun v s1 => (gtName i v env s1).bind fun env1 s2 => .ok (.nx env1) s2) =
      bindX env (mi env st) fun src s1 => bindX env (lcL2 src t test mi1 vs1 t1 test1 me (mwipe env (own.map (·.2))) s1.length (src.size + 1) 0 (s1 ++ [.lst []])) (fun v s1 => (gtName i v env s1).bind fun env1 s2 => .ok (.nx env1) s2) := by
    cases mi env st <;> rfl
  rw [as1] at F
  refine tI_readX re R F fun src β1 H1 st1 J e1 hJ re1 R1 F1 => ?_
  refine lc2_read (ke := kX X.K cl W σ) (Q := fun x H1 => gName i x σ H1 D.nx) hsl hsl1 re1 R1 hJ ((bindX_fin re1 F1).imp (fun v st2 β2 H2 e2 R2 F2 w rw => ?_) fun _ _ _ _ _ _ _ q => q)
  exact F2.here R2 _ ((re1.mono e2).set rw)
end
end BH

set_option Elab.async false
set_option linter.all false
set_option maxRecDepth 100000
set_option autoImplicit false
set_option maxHeartbeats 1000000
/-! Further built-ins; defs, methods and classes as bundles. -/
namespace BH
open PySem PySem.Spec PyProof.Rows L2

section
variable {X : Cx} {cl : Nat → Addr} {W : WX} {e a b c o : Expr} {es : List Expr} {m ma mb mo : ME} {r : MA} {pos p apos : Pos}

/-! ### - of an int -/
def gNeg : MV → M MV
  | .int i, st => .ok (.int (-i)) st
  | _, _ => .bad
theorem se_neg (ha : SE X cl W a ma) : SE X cl W (.UnaryOp .USub a pos) (mUn gNeg ma) := by
  refine PE.weaken (pe_un un_neg ha) fun σ H Q ⟨β, env, st, re, R, F⟩ => ?_
  refine tM_bind re R F fun x w β1 H1 st1 e1 rw re1 R1 F1 => ?_
  cases x with
  | int i => cases rw.int_of; exact ⟨i, rfl, fin_val F1 R1 (show _ = _ from rfl)⟩
  | _ => exact F1.elim
/-! ### a built-in type as a value -/
theorem se_bltn {x : Str} {n : String} (hg : Gl X x) (hm : X.mg x = none) (hv : bootBuiltins x = some (.type n)) (hn : x ≠ "__name__" := by decide) (hd : (x == ("__debug__" : Str)) = false := by decide) : SE X cl W (.Name x pos) (mC (.ty n)) :=
  PE.weaken (pe_bltn (v := .ty n) hg hm hv rfl hn hd) fun σ H Q ⟨β, env, st, re, R, F⟩ => fin_val F R (show _ = _ from rfl)
/-! ### isinstance of built-in types -/
def tyName (st : Mst) : MV → Option String
  | .non => some "NoneType"
  | .bl _ => some "bool"
  | .int _ => some "int"
  | .str _ => some "str"
  | .tup _ => some "tuple"
  | .ref a => match st[a]? with
    | some (.lst _) => some "list"
    | some (.rol _) => some "list"
    | _ => none
  | .ty _ => none
def isiT (T n : String) : Option Bool := if n = T then some true else if T = "bool" ∧ n = "int" then some true else if n = "int" ∨ n = "bool" ∨ n = "str" ∨ n = "tuple" ∨ n = "list" then some false else none
def gIsi : List MV → M MV
  | [x, .ty n], st => match (tyName st x).bind fun T => isiT T n with
    | some b => .ok (.bl b) st
    | none => .bad
  | _, _ => .bad
theorem isiT_ok {T n : String} {b : Bool} (hT : T = "NoneType" ∨ T = "bool" ∨ T = "int" ∨ T = "str" ∨ T = "tuple" ∨ T = "list") (h : isiT T n = some b) : kitB T n = some b := by
  unfold isiT at h
  split at h
  · rename_i e
    cases h
    subst e
    unfold kitB
    rw [if_pos (by simp)]
  · split at h
    · rename_i e
      obtain ⟨rfl, rfl⟩ := e
      cases h
      decide +kernel
    · split at h
      · rename_i n1 n2 e
        cases h
        rcases hT with rfl | rfl | rfl | rfl | rfl | rfl <;> rcases e with rfl | rfl | rfl | rfl | rfl <;> first | (exact absurd rfl n1; done) | (exact absurd ⟨rfl, rfl⟩ n2; done) | decide +kernel
      · cases h
theorem cg_isi : CallG X cl (.builtin "isinstance") gIsi := by
  refine ⟨CallR.weaken call_isi fun xs H Q ⟨β, us, st, rs, R, F⟩ => ?_, fun us st c fs st' h => ?_⟩
  · unfold gIsi at F
    split at F
    · rename_i x n
      obtain ⟨w, z, rfl, rw, rz⟩ := two_of rs
      cases (show z = .ty n from rz)
      split at F
      · rename_i b hb
        obtain ⟨T, h1, h2⟩ := Option.bind_eq_some_iff.mp hb
        have key : ∀ t, TyX X.K H w (.type t) → T = t → (t = "NoneType" ∨ t = "bool" ∨ t = "int" ∨ t = "str" ∨ t = "tuple" ∨ t = "list") → rIsi X.K [w, .ty n] H Q := fun t ht e hm => by
          subst e
          exact ⟨w, .ty n, .type T, .type n, b, rfl, .ty n, ht, kit_ty (isiT_ok hm h2), fin_val F R (show _ = _ from rfl)⟩
        cases x with
        | non => cases (show w = _ from rw); cases h1; exact key _ (.base .non) rfl (by simp)
        | bl i => cases (show w = _ from rw); cases h1; exact key _ (.base (.bl i)) rfl (by simp)
        | int i => cases (show w = _ from rw); cases h1; exact key _ (.base (.int i)) rfl (by simp)
        | str i => cases (show w = _ from rw); cases h1; exact key _ (.base (.str i)) rfl (by simp)
        | tup xs =>
          cases h1
          obtain ⟨q, ys, rfl, hs, _⟩ := rw
          refine key "tuple" ?_ rfl (by simp)
          rcases hs with (hs | ⟨o, hs⟩) | ⟨o, its, k, hk, hc, hd, _⟩
          · exact .base (.tup hs)
          · exact .fTuple hs
          · exact .kTuple hk hc
        | ref a =>
          obtain ⟨q, hq, rfl⟩ := rw
          simp only [tyName] at h1
          split at h1
          · rename_i ys ho
            cases h1
            obtain ⟨zs, g1, _⟩ := R.get hq ho
            exact key "list" (.base (.lst g1)) rfl (by simp)
          · rename_i ys ho
            cases h1
            obtain ⟨zs, g1, _⟩ := R.get hq ho
            refine key "list" ?_ rfl (by simp)
            rcases g1 with ⟨o, g1⟩ | ⟨o, its, k, hk, hc, hd, _⟩
            · exact .base (.frz g1)
            · exact .kList hk hc
          · cases h1
        | ty n => cases h1
      · exact F.elim
    · exact F.elim
  · unfold gIsi at h
    repeat' (first | (split at h) | cases h)
/-! ### list(range(..)) -/
def rgM (a b : Int) : List MV := (List.range (b - a).toNat).map fun i => .int (a + (i : Nat))
def gListRg1 : MV → M MV
  | .int n, st => if 0 ≤ n ∧ n ≤ 16777216 then .ok (.ref st.length) (st ++ [.lst (rgM 0 n)]) else .bad
  | _, _ => .bad
theorem rvs_map {K : PySem.W.Frag} {β : List Addr} {H : Hp} {α : Type} (f : α → MV) (g : α → V) (h : ∀ x, RV K β H (f x) (g x)) : ∀ xs : List α, RVs K β H (xs.map f) (xs.map g)
  | [] => rfl
  | x :: xs => ⟨g x, _, rfl, h x, rvs_map f g h xs⟩
theorem rgM_rv {K : PySem.W.Frag} {β : List Addr} {H : Hp} (a b : Int) : RVs K β H (rgM a b) (rgV a b) := rvs_map (fun i : Nat => MV.int (a + (i : Nat))) (fun i : Nat => V.int (a + (i : Nat))) (fun _ => (show _ = _ from rfl)) _
theorem se_listRg1 {pp : Pos} (hc : X.calm = true) (hg : Gl X "list") (hm : X.mg "list" = none) (hg2 : Gl X "range") (hm2 : X.mg "range" = none) (ha : SE X cl W a ma)
    (na1 : starEach [a] X.env = (false, eval a X.env) :: starEach [] X.env := by rfl) (na : starEach [.Call (.Name "range" pp) [a] [] apos] X.env = (false, eval (.Call (.Name "range" pp) [a] [] apos) X.env) :: starEach [] X.env := by rfl) :
    SE X cl W (.Call (.Name "list" p) [.Call (.Name "range" pp) [a] [] apos] [] pos) (mUn gListRg1 ma) := by
  refine PE.weaken (pe_listRg hc hg hm (prg_1 hg2 hm2 ha na1) na) fun σ H Q ⟨β, env, st, re, R, F⟩ => ?_
  refine tM_bind re R F fun x w β1 H1 st1 e1 rw re1 R1 F1 => ?_
  cases x with
  | int n =>
    cases rw.int_of
    simp only [gListRg1] at F1
    split at F1
    · rename_i h
      exact ⟨n, rfl, .of_le (by omega) h.2 (by omega) h.1, fun q hq => fin_lst F1 R1 (rgM_rv 0 n) hq⟩
    · exact F1.elim
  | _ => exact F1.elim

/-! ### x in a dict of the module with text keys -/
/-- the texts that are keys -/
def KKeys (K : PySem.W.Frag) (w : World) (d : Addr) (ks : List Str) : Prop := ∃ es n, KDict K w d es n ∧ ∀ z : Str, ∃ r, PySem.W.nsIn K d z = some r ∧ r.isSome = decide (z ∈ ks)
def gInK (neg : Bool) (ks : List Str) : MV → M MV
  | .str z, st => .ok (.bl (if neg then !decide (z ∈ ks) else decide (z ∈ ks))) st
  | _, _ => .bad
theorem se_inK {x : Str} {d : Addr} {ks : List Str} {p2 : Pos} (hk : KKeys X.K X.w d ks) (hg : Gl X x) (hm : X.mg x = some (.ref d)) (ha : SE X cl W a ma) (hb : behindInMarks .In (.Name x p2) = false := by rfl) (hd : (x == ("__debug__" : Str)) = false := by decide) :
    SE X cl W (.Compare a [.In] [.Name x p2] pos) (mUn (gInK false ks) ma) := by
  obtain ⟨es, n, D, hz⟩ := hk
  refine PE.weaken (pe_cmpR (op_in_kd D) ha (pe_glob (v := .ref d) hg hm rfl hd) hb) fun σ H Q ⟨β, env, st, re, R, F⟩ => ?_
  refine tM_bind re R F fun y w β1 H1 st1 e1 rw re1 R1 F1 => ?_
  cases y with
  | str z =>
    cases rw.str_of
    obtain ⟨r, h1, h2⟩ := hz z
    exact ⟨z, r, rfl, rfl, h1, by rw [h2]; exact fin_val F1 R1 (show _ = _ from rfl)⟩
  | _ => exact F1.elim
theorem se_notInK {x : Str} {d : Addr} {ks : List Str} {p2 : Pos} (hk : KKeys X.K X.w d ks) (hg : Gl X x) (hm : X.mg x = some (.ref d)) (ha : SE X cl W a ma) (hb : behindInMarks .NotIn (.Name x p2) = false := by rfl) (hd : (x == ("__debug__" : Str)) = false := by decide) :
    SE X cl W (.Compare a [.NotIn] [.Name x p2] pos) (mUn (gInK true ks) ma) := by
  obtain ⟨es, n, D, hz⟩ := hk
  refine PE.weaken (pe_cmpR (op_notIn_kd D) ha (pe_glob (v := .ref d) hg hm rfl hd) hb) fun σ H Q ⟨β, env, st, re, R, F⟩ => ?_
  refine tM_bind re R F fun y w β1 H1 st1 e1 rw re1 R1 F1 => ?_
  cases y with
  | str z =>
    cases rw.str_of
    obtain ⟨r, h1, h2⟩ := hz z
    exact ⟨z, r, rfl, rfl, h1, by rw [h2]; exact fin_val F1 R1 (show _ = _ from rfl)⟩
  | _ => exact F1.elim
/-- a value that is known to be a bool, as a test -/
theorem st_val (h : SE X cl W e m) (he : ∀ whole, isTrue e X.env whole = (do let v ← whole; standAt e.pos; holding [v] (truthy v)) := by intro _; rfl) : ST X cl W e (mTest m) := by
  refine PT.weaken (pt_val h he) fun σ H Q ⟨β, env, st, re, R, F⟩ => ?_
  refine tM_bind re R F fun x w β1 H1 st1 e1 rw re1 R1 F1 => ?_
  cases x with
  | bl c => cases rw.bl_of; exact ⟨c, rfl, F1.here R1⟩
  | _ => exact F1.elim
theorem st_inK {x : Str} {d : Addr} {ks : List Str} {p2 : Pos} (hk : KKeys X.K X.w d ks) (hg : Gl X x) (hm : X.mg x = some (.ref d)) (ha : SE X cl W a ma) (hb : behindInMarks .In (.Name x p2) = false := by rfl) (hd : (x == ("__debug__" : Str)) = false := by decide) :
    ST X cl W (.Compare a [.In] [.Name x p2] pos) (mTest (mUn (gInK false ks) ma)) := by
  obtain ⟨es, n, D, hz⟩ := hk
  refine PT.weaken (pt_cmpR (op_in_kd D) ha (pe_glob (v := .ref d) hg hm rfl hd) hb) fun σ H Q ⟨β, env, st, re, R, F⟩ => ?_
  have as1 : mTest (mUn (gInK false ks) ma) env st = (ma env st).bind fun x s1 => (gInK false ks x s1).bind toB := by
    unfold mTest mUn
    cases ma env st <;> rfl
  rw [as1] at F
  refine tM_bind re R F fun y w β1 H1 st1 e1 rw re1 R1 F1 => ?_
  cases y with
  | str z =>
    cases rw.str_of
    obtain ⟨r, h1, h2⟩ := hz z
    exact ⟨z, r, rfl, rfl, h1, _, rfl, by rw [h2]; exact F1.here R1⟩
  | _ => exact F1.elim
theorem st_notInK {x : Str} {d : Addr} {ks : List Str} {p2 : Pos} (hk : KKeys X.K X.w d ks) (hg : Gl X x) (hm : X.mg x = some (.ref d)) (ha : SE X cl W a ma) (hb : behindInMarks .NotIn (.Name x p2) = false := by rfl) (hd : (x == ("__debug__" : Str)) = false := by decide) :
    ST X cl W (.Compare a [.NotIn] [.Name x p2] pos) (mTest (mUn (gInK true ks) ma)) := by
  obtain ⟨es, n, D, hz⟩ := hk
  refine PT.weaken (pt_cmpR (op_notIn_kd D) ha (pe_glob (v := .ref d) hg hm rfl hd) hb) fun σ H Q ⟨β, env, st, re, R, F⟩ => ?_
  have as1 : mTest (mUn (gInK true ks) ma) env st = (ma env st).bind fun x s1 => (gInK true ks x s1).bind toB := by
    unfold mTest mUn
    cases ma env st <;> rfl
  rw [as1] at F
  refine tM_bind re R F fun y w β1 H1 st1 e1 rw re1 R1 F1 => ?_
  cases y with
  | str z =>
    cases rw.str_of
    obtain ⟨r, h1, h2⟩ := hz z
    exact ⟨z, r, rfl, rfl, h1, _, rfl, by rw [h2]; exact F1.here R1⟩
  | _ => exact F1.elim
end

/-! ### bundles -/
section
variable (P : Program) (w : World) (K : PySem.W.Frag) (mg : Str → Option Value) (base : Heap) (cl : Nat → Addr)
/-- a def of the module, as it stands -/
structure DefT (x : Str) (qual : Str) (st : Stmt) (ps : List Str) (dms : List MV) : Prop where
  ex : ∃ (f : Addr) (fd : FuncData) (ds : List Value) (dvs : List V), L2.Fun K x qual st f fd ∧ mg x = some (.ref f) ∧ Binds K fd ps ds ∧ Vals dvs ds ∧ RKs K dms dvs
/-- .. and what it does -/
structure DefG (k : Nat) (x : Str) (ps : List Str) (dms : List MV) (fm : List MV → M MV) : Prop where
  ex : ∃ (f : Addr) (fd : FuncData) (ds : List Value) (dvs : List V), FnG P w K mg base cl k f fd ps fm ∧ mg x = some (.ref f) ∧ PySem.W.keepIn K (.ref f) = true ∧ Binds K fd ps ds ∧ Vals dvs ds ∧ RKs K dms dvs
/-- a method -/
structure MethT (c : Nat) (x : Str) (qual : Str) (st : Stmt) (ps : List Str) (dms : List MV) : Prop where
  ex : ∃ (f : Addr) (fd : FuncData) (ds : List Value) (dvs : List V), L2.Fun K x qual st f fd ∧ Meth K (cl c) x f ∧ Binds K fd ps ds ∧ Vals dvs ds ∧ RKs K dms dvs
structure MethG (k : Nat) (c : Nat) (x : Str) (ps : List Str) (dms : List MV) (fm : List MV → M MV) : Prop where
  ex : ∃ (f : Addr) (fd : FuncData) (ds : List Value) (dvs : List V), FnG P w K mg base cl k f fd ps fm ∧ Meth K (cl c) x f ∧ Binds K fd ps ds ∧ Vals dvs ds ∧ RKs K dms dvs
/-- the __init__ of a class of the module named x -/
structure InitT (c : Nat) (x : Str) (qual : Str) (st : Stmt) (ps : List Str) (dms : List MV) : Prop where
  ex : ∃ (f : Addr) (fd : FuncData) (ds : List Value) (dvs : List V), L2.Fun K "__init__" qual st f fd ∧ mg x = some (.ref (cl c)) ∧ Mk K (cl c) f ∧ Binds K fd ps ds ∧ Vals dvs ds ∧ RKs K dms dvs
structure InitG (k : Nat) (c : Nat) (x : Str) (ps : List Str) (dms : List MV) (fm : List MV → M MV) : Prop where
  ex : ∃ (f : Addr) (fd : FuncData) (ds : List Value) (dvs : List V), FnG P w K mg base cl k f fd ps fm ∧ mg x = some (.ref (cl c)) ∧ Mk K (cl c) f ∧ Binds K fd ps ds ∧ Vals dvs ds ∧ RKs K dms dvs
end
section
variable {P : Program} {w : World} {K : PySem.W.Frag} {mg : Str → Option Value} {base : Heap} {cl : Nat → Addr} {x qual : Str} {st : Stmt} {ps N : List Str} {dms : List MV} {body : MS} {k c : Nat}
abbrev BodyOk (P : Program) (w : World) (K : PySem.W.Frag) (mg : Str → Option Value) (base : Heap) (cl : Nat → Addr) (k : Nat) (N : List Str) (qual : Str) (st : Stmt) (body : MS) : Prop :=
  ∀ (f : Addr) (cdv : Value) (A : Around) (outer : List PySem.Env) (s : Shared) (H : Hp) (E : XK), Room k (A.deeper (envOfC qual (defScope st) s.heap.objs.size f cdv)) →
      SSs (cxOf (L2.CX P w) P w K mg base N qual (defScope st) f cdv A outer s H E) cl (wD E) (defBody st) body
theorem DefG.of (T : DefT K mg x qual st ps dms) (S : FnScope N ps (defScope st)) (h : BodyOk P w K mg base cl k N qual st body) : DefG P w K mg base cl (k + 1) x ps dms (fnM N.length ps.length body) := by
  obtain ⟨f, fd, ds, dvs, F, hm, hb, hd, hdm⟩ := T.ex
  exact ⟨f, fd, ds, dvs, FnG.of F S fun cdv A outer s H E hr => h f cdv A outer s H E hr, hm, F.kp, hb, hd, hdm⟩
theorem MethG.of (T : MethT K cl c x qual st ps dms) (S : FnScope N ps (defScope st)) (h : BodyOk P w K mg base cl k N qual st body) : MethG P w K mg base cl (k + 1) c x ps dms (fnM N.length ps.length body) := by
  obtain ⟨f, fd, ds, dvs, F, hm, hb, hd, hdm⟩ := T.ex
  exact ⟨f, fd, ds, dvs, FnG.of F S fun cdv A outer s H E hr => h f cdv A outer s H E hr, hm, hb, hd, hdm⟩
theorem InitG.of (T : InitT K mg cl c x qual st ps dms) (S : FnScope N ps (defScope st)) (h : BodyOk P w K mg base cl k N qual st body) : InitG P w K mg base cl (k + 1) c x ps dms (fnM N.length ps.length body) := by
  obtain ⟨f, fd, ds, dvs, F, hm, hM, hb, hd, hdm⟩ := T.ex
  exact ⟨f, fd, ds, dvs, FnG.of F S fun cdv A outer s H E hr => h f cdv A outer s H E hr, hm, hM, hb, hd, hdm⟩
end
section
variable {X : Cx} {cl : Nat → Addr} {W : WX} {e o : Expr} {es : List Expr} {m mo : ME} {r : MA} {k c : Nat} {ps : List Str} {fm : List MV → M MV} {dms : List MV} {x mt : Str} {p pos apos : Pos}
theorem se_callD (D : DefG X.prog X.w X.K X.mg X.base cl k x ps dms fm) (hr : Room k X.A) (hg : Gl X x) (tk : Takes X W)
    (ha : SA X cl W (e :: es) r) (hdb : (x == ("__debug__" : Str)) = false := by decide) (he : starEach (e :: es) X.env = (false, eval e X.env) :: starEach es X.env := by rfl) (hpl : (backTo pos (starEach es X.env)).any (·.1) = false := by rfl) :
    SE X cl W (.Call (.Name x p) (e :: es) [] pos) (mCallF fm r dms) := by
  obtain ⟨f, fd, ds, dvs, F, hm, hk, hb, hd, hdm⟩ := D.ex
  exact se_call F hr hg hm hk hb hd hdm tk ha hdb he hpl
theorem se_callD0 (D : DefG X.prog X.w X.K X.mg X.base cl k x ps dms fm) (hr : Room k X.A) (hg : Gl X x) (tk : Takes X W) (hdb : (x == ("__debug__" : Str)) = false := by decide) :
    SE X cl W (.Call (.Name x p) [] [] pos) (mCallF fm mNil dms) := by
  obtain ⟨f, fd, ds, dvs, F, hm, hk, hb, hd, hdm⟩ := D.ex
  exact se_call0 F hr hg hm hk hb hd hdm tk hdb
theorem se_methD (pl : Sem Bool) (D : MethG X.prog X.w X.K X.mg X.base cl k c mt ps dms fm) (hcl : Cls X.K (cl c)) (hr : Room k X.A) (tk : Takes X W) (he : SE X cl W o mo) (ha : SA X cl W (e :: es) r)
    (hst : starEach (e :: es) X.env = (false, eval e X.env) :: starEach es X.env := by rfl) (hpl : (backTo pos (starEach es X.env)).any (·.1) = false := by rfl)
    (ht : eval (.Call (.Attribute o mt apos) (e :: es) [] pos) X.env = (do
      let ov ← eval o X.env
      standAt apos.atName
      let (f, first) ← holding [ov] (getMethod ov mt pl)
      callWith pos f first (backTo pos (starEach (e :: es) X.env)) (backToKw pos (keywordEach [] X.env))) := by rfl) :
    SE X cl W (.Call (.Attribute o mt apos) (e :: es) [] pos) (mMeth c mt fm mo r dms) := by
  obtain ⟨f, fd, ds, dvs, F, hm, hb, hd, hdm⟩ := D.ex
  exact se_meth (pl := pl) he hcl hm F hr hb hd hdm tk ha hst hpl ht
theorem se_methD0 (pl : Sem Bool) (D : MethG X.prog X.w X.K X.mg X.base cl k c mt ps dms fm) (hcl : Cls X.K (cl c)) (hr : Room k X.A) (tk : Takes X W) (he : SE X cl W o mo)
    (ht : eval (.Call (.Attribute o mt apos) [] [] pos) X.env = (do
      let ov ← eval o X.env
      standAt apos.atName
      let (f, first) ← holding [ov] (getMethod ov mt pl)
      callWith pos f first (backTo pos (starEach [] X.env)) (backToKw pos (keywordEach [] X.env))) := by rfl) :
    SE X cl W (.Call (.Attribute o mt apos) [] [] pos) (mMeth c mt fm mo mNil dms) := by
  obtain ⟨f, fd, ds, dvs, F, hm, hb, hd, hdm⟩ := D.ex
  exact se_meth0 (pl := pl) he hcl hm F hr hb hd hdm tk ht
theorem se_makeD (D : InitG X.prog X.w X.K X.mg X.base cl k c x ps dms fm) (hr : Room (k + 1) X.A) (hg : Gl X x) (tk : Takes X W)
    (ha : SA X cl W (e :: es) r) (hdb : (x == ("__debug__" : Str)) = false := by decide) (he : starEach (e :: es) X.env = (false, eval e X.env) :: starEach es X.env := by rfl) (hpl : (backTo pos (starEach es X.env)).any (·.1) = false := by rfl) :
    SE X cl W (.Call (.Name x p) (e :: es) [] pos) (mMake c fm r dms) := by
  obtain ⟨f, fd, ds, dvs, F, hm, hM, hb, hd, hdm⟩ := D.ex
  exact se_make hM F hr hg hm hb hd hdm tk ha hdb he hpl
theorem se_makeD0 (D : InitG X.prog X.w X.K X.mg X.base cl k c x ps dms fm) (hr : Room (k + 1) X.A) (hg : Gl X x) (tk : Takes X W) (hdb : (x == ("__debug__" : Str)) = false := by decide) :
    SE X cl W (.Call (.Name x p) [] [] pos) (mMake c fm mNil dms) := by
  obtain ⟨f, fd, ds, dvs, F, hm, hM, hb, hd, hdm⟩ := D.ex
  exact se_make0 hM F hr hg hm hb hd hdm tk hdb
end

section
structure GlobT (K : PySem.W.Frag) (mg : Str → Option Value) (x : Str) (v : MV) : Prop where
  ex : ∃ u w, mg x = some u ∧ RelV w u ∧ RK K v w
structure KeysT (K : PySem.W.Frag) (w : World) (mg : Str → Option Value) (x : Str) (ks : List Str) : Prop where
  ex : ∃ d, mg x = some (.ref d) ∧ KKeys K w d ks
theorem ClsA.only {K : PySem.W.Frag} {cl : Nat → Addr} {cs : List Nat} {f : Str} {c : Nat} (h : ClsA K cl cs f) (hc : c ∈ cs) : ClsA K cl [c] f := fun d hd => h d (by
  have : d = c := by simpa using hd
  subst this
  exact hc)
variable {X : Cx} {cl : Nat → Addr} {W : WX} {a : Expr} {ma : ME} {x : Str} {v : MV} {ks : List Str} {p2 pos : Pos}
theorem se_globD (G : GlobT X.K X.mg x v) (hg : Gl X x) (hd : (x == ("__debug__" : Str)) = false := by decide) : SE X cl W (.Name x pos) (mC v) := by
  obtain ⟨u, w, h1, h2, h3⟩ := G.ex
  exact se_glob hg h1 h2 h3 hd
theorem se_inKD (G : KeysT X.K X.w X.mg x ks) (hg : Gl X x) (ha : SE X cl W a ma) (hb : behindInMarks .In (.Name x p2) = false := by rfl) (hd : (x == ("__debug__" : Str)) = false := by decide) : SE X cl W (.Compare a [.In] [.Name x p2] pos) (mUn (gInK false ks) ma) := by
  obtain ⟨d, h1, h2⟩ := G.ex
  exact se_inK h2 hg h1 ha hb hd
theorem se_notInKD (G : KeysT X.K X.w X.mg x ks) (hg : Gl X x) (ha : SE X cl W a ma) (hb : behindInMarks .NotIn (.Name x p2) = false := by rfl) (hd : (x == ("__debug__" : Str)) = false := by decide) : SE X cl W (.Compare a [.NotIn] [.Name x p2] pos) (mUn (gInK true ks) ma) := by
  obtain ⟨d, h1, h2⟩ := G.ex
  exact se_notInK h2 hg h1 ha hb hd
theorem st_inKD (G : KeysT X.K X.w X.mg x ks) (hg : Gl X x) (ha : SE X cl W a ma) (hb : behindInMarks .In (.Name x p2) = false := by rfl) (hd : (x == ("__debug__" : Str)) = false := by decide) : ST X cl W (.Compare a [.In] [.Name x p2] pos) (mTest (mUn (gInK false ks) ma)) := by
  obtain ⟨d, h1, h2⟩ := G.ex
  exact st_inK h2 hg h1 ha hb hd
theorem st_notInKD (G : KeysT X.K X.w X.mg x ks) (hg : Gl X x) (ha : SE X cl W a ma) (hb : behindInMarks .NotIn (.Name x p2) = false := by rfl) (hd : (x == ("__debug__" : Str)) = false := by decide) : ST X cl W (.Compare a [.NotIn] [.Name x p2] pos) (mTest (mUn (gInK true ks) ma)) := by
  obtain ⟨d, h1, h2⟩ := G.ex
  exact st_notInK h2 hg h1 ha hb hd
end
end BH

set_option Elab.async false
set_option linter.all false
set_option maxRecDepth 100000
set_option autoImplicit false
set_option maxHeartbeats 1000000
/-! The ends: what the top leaves, and the law's own row. -/
namespace BH
open PySem PySem.Spec PyProof.Rows L2

section
variable {w : World} {K : PySem.W.Frag} {mg : Str → Option Value} {h : Heap} {cl : Nat → Addr}
/-- how n plain parameters bind -/
abbrev BindsAll (x qual : Str) (st : Stmt) (ps : List Str) : Prop := ∀ (kV doc pm : Value) (an : Option Addr) (cdv ct : Value) (us : List Value), us.length = ps.length → bindArgs (PySem.W.fnOf x qual (defArgs st) (defBody st) (defScope st) .none kV doc pm an cdv ct) ⟨us, []⟩ = pure (ps.zip us)
theorem DefT.mk' {x qual : Str} {st : Stmt} {ps : List Str} {f : Addr} {oc kV doc pm cd ct : Value} {od an : Option Addr} {sl : Array (Option Value)} (hb : BindsAll x qual st ps) (X : K.In h) (G : h.Ns mainGlobals mg)
    (a : PySem.W.nsIn K mainGlobals x = some (some (.ref f))) (l : K.lookup f = some ⟨oc, od, .func (PySem.W.fnOf x qual (defArgs st) (defBody st) (defScope st) .none kV doc pm an cd ct), sl⟩) (c : PySem.W.codeIn K cd qual = true) (k : PySem.W.keepIn K (.ref f) = true) :
    DefT K mg x qual st ps [] := by
  have F := fun_mk (st := st) l c k
  exact ⟨f, _, [], [], F, PySem.W.mg_of X G a, F.binds hb, .nil, rks_nil⟩
theorem MethT.mk' {c0 : Nat} {x qual : Str} {st : Stmt} {ps : List Str} {f : Addr} {oc kV doc pm cd ct : Value} {od an : Option Addr} {sl : Array (Option Value)} (hb : BindsAll x qual st ps)
    (a : PySem.W.findIn K (.ref (cl c0)) x = some (some (.ref f))) (i : PySem.W.isFn K (.ref f) = true) (l : K.lookup f = some ⟨oc, od, .func (PySem.W.fnOf x qual (defArgs st) (defBody st) (defScope st) .none kV doc pm an cd ct), sl⟩) (c : PySem.W.codeIn K cd qual = true) (k : PySem.W.keepIn K (.ref f) = true) :
    MethT K cl c0 x qual st ps [] := by
  have F := fun_mk (st := st) l c k
  exact ⟨f, _, [], [], F, ⟨a, i, k⟩, F.binds hb, .nil, rks_nil⟩
theorem InitT.mk' {c0 : Nat} {x qual : Str} {st : Stmt} {ps : List Str} {f : Addr} {oc kV doc pm cd ct : Value} {od an : Option Addr} {sl : Array (Option Value)} (hb : BindsAll "__init__" qual st ps) (X : K.In h) (G : h.Ns mainGlobals mg)
    (a : PySem.W.nsIn K mainGlobals x = some (some (.ref (cl c0)))) (mk : PySem.W.makesIn K (cl c0) = true) (fi : PySem.W.findIn K (.ref (cl c0)) "__init__" = some (some (.ref f))) (i : PySem.W.isFn K (.ref f) = true) (kc : PySem.W.keepIn K (.ref (cl c0)) = true)
    (l : K.lookup f = some ⟨oc, od, .func (PySem.W.fnOf "__init__" qual (defArgs st) (defBody st) (defScope st) .none kV doc pm an cd ct), sl⟩) (c : PySem.W.codeIn K cd qual = true) (k : PySem.W.keepIn K (.ref f) = true) :
    InitT K mg cl c0 x qual st ps [] := by
  have F := fun_mk (st := st) l c k
  exact ⟨f, _, [], [], F, PySem.W.mg_of X G a, ⟨mk, fi, i, kc⟩, F.binds hb, .nil, rks_nil⟩
/-- constants -/
theorem GlobT.int {x : Str} {i : Int} {t : Tok} (X : K.In h) (G : h.Ns mainGlobals mg) (a : PySem.W.nsIn K mainGlobals x = some (some (.int i t))) : GlobT K mg x (.int i) := ⟨_, .int i, PySem.W.mg_of X G a, ⟨_, rfl⟩, fun _ _ => (show _ = _ from rfl)⟩
theorem GlobT.str {x : Str} {i : Str} {t : Tok} (X : K.In h) (G : h.Ns mainGlobals mg) (a : PySem.W.nsIn K mainGlobals x = some (some (.str i t))) : GlobT K mg x (.str i) := ⟨_, .str i, PySem.W.mg_of X G a, ⟨_, rfl⟩, fun _ _ => (show _ = _ from rfl)⟩
/-- a written value -/
def wrV : Value → Option (MV × V)
  | .none => some (.non, .non)
  | .bool b => some (.bl b, .bl b)
  | .int i _ => some (.int i, .int i)
  | .str x _ => some (.str x, .str x)
  | _ => none
theorem wrV_ok {u : Value} {v : MV} {x : V} (e : wrV u = some (v, x)) : RelV x u ∧ ∀ β H, RV K β H v x := by
  cases u <;> first | (cases e; exact ⟨rfl, fun _ _ => (show _ = _ from rfl)⟩) | (cases e; exact ⟨⟨_, rfl⟩, fun _ _ => (show _ = _ from rfl)⟩) | cases e
def wrVs : List Value → Option (List MV × List V)
  | [] => some ([], [])
  | u :: us => match wrV u, wrVs us with
    | some (v, x), some (vs, xs) => some (v :: vs, x :: xs)
    | _, _ => none
theorem wrVs_ok : ∀ {us : List Value} {vs : List MV} {xs : List V}, wrVs us = some (vs, xs) → Vals xs us ∧ ∀ β H, RVs K β H vs xs
  | [], _, _, e => by cases e; exact ⟨.nil, fun _ _ => rfl⟩
  | u :: us, vs, xs, e => by
    simp only [wrVs] at e
    split at e
    · rename_i v x vs' xs' h1 h2
      cases e
      obtain ⟨a1, a2⟩ := wrV_ok (K := K) h1
      obtain ⟨b1, b2⟩ := wrVs_ok h2
      exact ⟨.cons a1 b1, fun β H => ⟨x, xs', rfl, a2 β H, b2 β H⟩⟩
    · cases e
theorem GlobT.tup {x : Str} {p : Addr} {od : Option Addr} {its : Array Value} {n : Nat} {sl : Array (Option Value)} {vs : List MV} {xs : List V} (X : K.In h) (G : h.Ns mainGlobals mg) (a : PySem.W.nsIn K mainGlobals x = some (some (.ref p)))
    (l : K.lookup p = some ⟨.type "tuple", od, .seq its n, sl⟩) (e : wrVs its.toList = some (vs, xs)) (hz : its.size ≤ 1000) : GlobT K mg x (.tup vs) := by
  obtain ⟨h1, h2⟩ := wrVs_ok (K := K) e
  exact ⟨_, .ref p, PySem.W.mg_of X G a, rfl, fun β H => ⟨p, xs, rfl, .inr ⟨_, its, n, l, rfl, rfl, by rw [sizeLine_eq]; omega, h1⟩, h2 β H⟩⟩
/-- dicts with text keys -/
def keysOf : List DictEntry → Option (List Str)
  | [] => some []
  | e :: r => match e.key, keysOf r with
    | .str x _, some ks => some (x :: ks)
    | _, _ => none
theorem keysOf_find : ∀ {es : List DictEntry} {ks : List Str}, keysOf es = some ks → ∀ z : Str, (es.find? (·.key.isStr z)).isSome = decide (z ∈ ks) ∧ es.any (·.refKey) = false
  | [], _, e, z => by cases e; simp
  | d :: r, ks, e, z => by
    simp only [keysOf] at e
    split at e
    · rename_i x t ks' h1 h2
      cases e
      obtain ⟨i1, i2⟩ := keysOf_find h2 z
      have hr : d.refKey = false := by
        unfold DictEntry.refKey
        rw [h1]
      refine ⟨?_, by rw [List.any_cons, hr, i2]; rfl⟩
      rw [List.find?_cons]
      have hk : d.key.isStr z = decide (x = z) := by
        rw [h1]
        by_cases q : x = z
        · subst q
          simp [Value.isStr]
        · simp [Value.isStr, q]
      rw [hk]
      by_cases q : x = z
      · subst q; simp
      · have q' : ¬ z = x := fun z' => q z'.symm
        simp [q, q', i1]
    · cases e
theorem KeysT.mk' {x : Str} {d : Addr} {es : Array DictEntry} {n : Nat} {ks : List Str} (X : K.In h) (G : h.Ns mainGlobals mg) (a : PySem.W.nsIn K mainGlobals x = some (some (.ref d)))
    (l : K.lookup d = some ⟨.type "dict", none, .dict es n, #[]⟩) (e : keysOf es.toList = some ks) (lit : PySem.W.KeysLit w.params es.toList) (low : (d == sysModules) = false) : KeysT K w mg x ks := by
  refine ⟨d, PySem.W.mg_of X G a, es, n, ⟨l, lit, low⟩, fun z => ?_⟩
  obtain ⟨h1, h2⟩ := keysOf_find e z
  unfold PySem.W.nsIn
  rw [l]
  simp only
  cases q : es.toList.find? (·.key.isStr z) with
  | some en =>
    rw [q] at h1
    exact ⟨_, rfl, h1⟩
  | none =>
    rw [q] at h1
    simp only [h2, Bool.false_eq_true, if_false]
    exact ⟨_, rfl, h1⟩
end

theorem clsA_nil {K : PySem.W.Frag} {cl : Nat → Addr} {f : Str} : ClsA K cl [] f := fun c h => by cases h
theorem clsA_cons {K : PySem.W.Frag} {cl : Nat → Addr} {f : Str} {c : Nat} {cs : List Nat} (h1 : Cls K (cl c)) (h2 : NoAttr K (cl c) f) (h3 : ClsA K cl cs f) : ClsA K cl (c :: cs) f := fun d h => by
  rcases List.mem_cons.mp h with e | e
  · rw [e]; exact ⟨h1, h2⟩
  · exact h3 d e
/-! ### the law -/
def spL (K : PySem.W.Frag) : Sp := fun vs H Q _ => ∃ (a : Addr) (ns : List Int), vs = [.ref a] ∧ RoL K H a (ns.map V.int) ∧ ns.length ≤ 63 ∧ ∀ H', Q (.bl true) H'
theorem spL_of {K : PySem.W.Frag} {cl : Nat → Addr} {lm : List MV → M MV} (law : ∀ ns : List Int, ns.length ≤ 63 → ∃ st, lm [.ref 0] [.rol (ns.map .int)] = .ok (.bl true) st) :
    ∀ vs H Q E, spL K vs H Q E → spM K cl 1 lm vs H Q E := by
  intro vs H Q E ⟨a, ns, e, hr, hl, q⟩
  subst e
  obtain ⟨st, hst⟩ := law ns hl
  refine ⟨rfl, [a], [.ref 0], [.rol (ns.map .int)], ⟨.ref a, [], rfl, ⟨a, rfl, rfl⟩, rfl⟩, ⟨rfl, fun i o h => ?_, fun i j p o u h1 h2 h3 h4 m1 m2 => ?_⟩, ?_⟩
  · cases i with
    | zero => cases h; exact ⟨a, rfl, ns.map V.int, hr, rvs_map MV.int V.int (fun _ => (show _ = _ from rfl)) ns⟩
    | succ i => simp at h
  · cases i with
    | zero => cases h3; cases m1
    | succ i => simp at h3
  · rw [hst]
    exact fun β' H' e R w rw => by
      cases rw.bl_of
      exact q H'
/-- the law's def gives True at every script -/
theorem law_ends {l : PySem.W.OpenLaw} {q : Program} {loose : List Str} {XP : (Str → Option Value) → Heap → Prop} {YP : World → Heap → Prop} {d : DefRec} {K : Params → PySem.W.Frag} {k : Nat} {lm : List MV → M MV} (hn : l.most = some 63) (hdf : d.params.defaults = []) (hk : Room k callerA)
    (hY : ∀ (w : World) (h : Heap), YP w h → (K w.params).In h)
    (F : ∀ (w : World) (mg : Str → Option Value) (fa : Addr) (h : Heap), (K w.params).In h → h.Ns mainGlobals mg → mg d.name = some (.ref fa) →
      ∃ (cl : Nat → Addr) (fd : FuncData), (∀ (s : Shared) (u : Value), BindsTo s fd ⟨[u], []⟩ [("script", u)]) ∧ ∀ base : Heap, FnG l.prog w (K w.params) mg base cl k fa fd ["script"] lm)
    (law : ∀ ns : List Int, ns.length ≤ 63 → ∃ st, lm [.ref 0] [.rol (ns.map .int)] = .ok (.bl true) st) :
    PySem.W.WalkO q loose XP YP l.row.toRowW d [] (fun f vs => PySem.call f vs) := by
  refine L2.walk_of (n := 63) (k := k) (x := "script") (CX := fun w => L2.CX l.prog w) (sp := fun w => spL (K w.params)) hn (by decide) hdf hk hY (fun w mg fa h KX G hmg => ?_) (fun w H a ns hl hO hS => ?_) fun w H s e s' c => ?_
  · obtain ⟨cl, fd, hb, hF⟩ := F w mg fa h KX G hmg
    exact ⟨fd, hb, fun base _ _ => (hF base).ok.imp (spL_of law)⟩
  · refine ⟨a, ns, rfl, ?_, hl, fun _ => rfl⟩
    rcases hS with (hS | ⟨o, hS⟩) | hS
    · rcases hO a with z | ⟨o, xs, z⟩
      · rw [z] at hS; cases hS
      · rw [z] at hS; cases hS
    · exact .inl ⟨o, hS⟩
    · exact .inr hS
  · obtain ⟨_, _, _, _, _, _, _, _, _, _, _, _, z⟩ := c
    exact z.elim
end BH

set_option Elab.async false
set_option linter.all false
set_option maxRecDepth 100000
set_option autoImplicit false
/-! Defs that call themselves: a model with fuel; with none left it says nothing. -/
namespace BH
open PySem PySem.Spec PyProof.Rows L2
section
variable {P : Program} {w : World} {K : PySem.W.Frag} {mg : Str → Option Value} {base : Heap} {cl : Nat → Addr}
def badM : List MV → M MV := fun _ _ => .bad
theorem FnG.none {x qual : Str} {st : Stmt} {f : Addr} {fd : FuncData} {N ps : List Str} {k : Nat} (F : L2.Fun K x qual st f fd) (S : FnScope N ps (defScope st)) : FnG P w K mg base cl (k + 1) f fd ps badM := by
  refine ⟨Fun.okX F S (fun vs H Q E h => h.1) fun cdv A outer s H vs Q E hr h => ?_, fun us st _ => rfl⟩
  obtain ⟨hl, β, us, st0, rs, R, Fi⟩ := h
  exact Fi.elim
variable {N ps : List Str} {x qual : Str} {st : Stmt} {k c : Nat} {dms : List MV}
theorem DefG.none (T : DefT K mg x qual st ps dms) (S : FnScope N ps (defScope st)) : DefG P w K mg base cl (k + 1) x ps dms badM := by
  obtain ⟨f, fd, ds, dvs, F, hm, hb, hd, hdm⟩ := T.ex
  exact ⟨f, fd, ds, dvs, FnG.none F S, hm, F.kp, hb, hd, hdm⟩
theorem MethG.none (T : MethT K cl c x qual st ps dms) (S : FnScope N ps (defScope st)) : MethG P w K mg base cl (k + 1) c x ps dms badM := by
  obtain ⟨f, fd, ds, dvs, F, hm, hb, hd, hdm⟩ := T.ex
  exact ⟨f, fd, ds, dvs, FnG.none F S, hm, hb, hd, hdm⟩
theorem room200 : Room 200 callerA := ⟨rfl, by decide, by decide⟩
end
end BH
namespace BH
open PySem PySem.Spec PyProof.Rows L2
def maxI : List Int → Option Int
  | [] => none
  | [i] => some i
  | i :: r => (maxI r).map fun j => if j > i then j else i
theorem maxI_ok : ∀ (xs : List Int) (m : Int), maxI xs = some m → m ∈ xs ∧ ∀ y ∈ xs, y ≤ m
  | [], m, h => by cases h
  | [i], m, h => by cases h; simp
  | i :: j :: r, m, h => by
    simp only [maxI, Option.map_eq_some_iff] at h
    obtain ⟨k, h1, rfl⟩ := h
    obtain ⟨h2, h3⟩ := maxI_ok (j :: r) k h1
    by_cases e : k > i
    · rw [if_pos e]
      exact ⟨List.mem_cons_of_mem _ h2, fun y hy => by
        rcases List.mem_cons.mp hy with rfl | hy
        · omega
        · exact h3 y hy⟩
    · rw [if_neg e]
      exact ⟨List.mem_cons_self, fun y hy => by
        rcases List.mem_cons.mp hy with rfl | hy
        · omega
        · have := h3 y hy; omega⟩
def gMax : List MV → M MV
  | [.int i, .int j], st => .ok (.int (if j > i then j else i)) st
  | [.int i, .int j, .int k], st => .ok (.int (if k > (if j > i then j else i) then k else (if j > i then j else i))) st
  | [.ref a], st => match ((itemsOf st (.ref a)).bind optInts).bind maxI with
    | some m => .ok (.int m) st
    | none => .bad
  | [.tup xs], st => match (optInts xs).bind maxI with
    | some m => .ok (.int m) st
    | none => .bad
  | _, _ => .bad
def gMin : List MV → M MV
  | [.int i, .int j], st => .ok (.int (if j < i then j else i)) st
  | _, _ => .bad
section
variable {X : Cx} {cl : Nat → Addr}
theorem two_of' {K : PySem.W.Frag} {β : List Addr} {H : Hp} {x y : MV} {vs : List V} (r : RVs K β H [x, y] vs) : ∃ v w, vs = [v, w] ∧ RV K β H x v ∧ RV K β H y w := by
  obtain ⟨v, l, rfl, h1, h2⟩ := r
  obtain ⟨w, l', rfl, h3, h4⟩ := h2
  cases (show _ = _ from h4)
  exact ⟨v, w, rfl, h1, h3⟩
theorem CallR.or {f : Value} {r r' : List V → Hp → VK → Prop} (h : CallR X f r) (h' : CallR X f r') : CallR X f (fun vs H Q => r vs H Q ∨ r' vs H Q) :=
  fun pins s σ H xs us Q I rv q => q.elim (h pins s σ H xs us Q I rv) (h' pins s σ H xs us Q I rv)
theorem maxOf_ok : ∀ (xs : List Int) (x : Int), PySem.W.maxOf x xs ∈ x :: xs ∧ ∀ y ∈ x :: xs, y ≤ PySem.W.maxOf x xs
  | [], x => by simp [PySem.W.maxOf]
  | z :: zs, x => by
    have e : PySem.W.maxOf x (z :: zs) = PySem.W.maxOf (if x < z then z else x) zs := by
      simp only [PySem.W.maxOf, List.foldl_cons]
      congr 1
      simp [PySem.W.DatumOrd.lt]
    rw [e]
    obtain ⟨h1, h2⟩ := maxOf_ok zs (if x < z then z else x)
    refine ⟨?_, fun y hy => ?_⟩
    · rcases List.mem_cons.mp h1 with h | h
      · rw [h]; split <;> simp
      · simp [h]
    · have h3 := h2 (if x < z then z else x) List.mem_cons_self
      have h4 : ∀ m : Int, (if x < z then z else x) ≤ m → x ≤ m ∧ z ≤ m := fun m hm => by
        by_cases e : x < z
        · rw [if_pos e] at hm; omega
        · rw [if_neg e] at hm; omega
      rcases List.mem_cons.mp hy with e | hy
      · rw [e]; exact (h4 _ h3).1
      · rcases List.mem_cons.mp hy with e | hy
        · rw [e]; exact (h4 _ h3).2
        · exact h2 y (List.mem_cons_of_mem _ hy)
/-- max(t) of a tuple of ints -/
def rMaxTu (K : PySem.W.Frag) : List V → Hp → VK → Prop := fun vs H Q => ∃ (a : Addr) (ns : List Int), vs = [V.ref a] ∧ SqT K H a (ns.map V.int) ∧ 0 < ns.length ∧ ∀ m, m ∈ ns → (∀ y, y ∈ ns → y ≤ m) → Q (.int m) H
theorem holdAll_ints {h : Heap} : ∀ {ns : List Int} {us : List Value}, Vals (ns.map V.int) us → PySem.W.HoldAll h us ns
  | [], _, r => by cases r; exact ⟨_, .nil⟩
  | n :: ns, _, r => by
    cases r with
    | cons r1 r2 =>
      obtain ⟨t, rfl⟩ := r1
      obtain ⟨as, ra⟩ := holdAll_ints (h := h) r2
      exact ⟨_, .cons (.int n t) ra⟩
theorem cr_maxTu (hc : X.calm = true) (hu : X.A.units + 64 < cLine) : CallR X (.builtin "max") (rMaxTu X.K) := by
  intro pins s σ H vs us Q I r h
  obtain ⟨a, ns, rfl, hs, hne, q⟩ := h
  obtain ⟨its, rv, hl, _⟩ := I.tuple hs
  rw [Vals.ref1 r]
  cases ns with
  | nil => simp at hne
  | cons x xs =>
    refine PySem.W.max_tuple_datum (x := x) (xs := xs) (I.ok.hd hc) hl (holdAll_ints rv) ?_ fun i v h' tk hi hv hk => ?_
    · have := hu; show _ < _; simp [PySem.W.Datum.depth]; omega
    · obtain ⟨as, ra⟩ := hv
      obtain ⟨h1, h2⟩ := maxOf_ok xs x
      cases ra
      exact ⟨.int _, H, I.kept hk, ⟨_, rfl⟩, q _ h1 h2⟩
theorem cg_max (hc : X.calm = true) (hu : X.A.units + 64 < cLine) : CallG X cl (.builtin "max") gMax := by
  refine ⟨CallR.weaken (CallR.or (call_max2 hc) (CallR.or (call_max3Nu hc) (CallR.or (cr_max hc) (cr_maxTu hc hu)))) fun xs H Q ⟨β, us, st, rs, R, F⟩ => ?_, fun us st c fs st' h => ?_⟩
  · unfold gMax at F
    split at F
    · obtain ⟨v, w, rfl, r1, r2⟩ := two_of' rs
      cases r1.int_of
      cases r2.int_of
      exact .inl ⟨_, _, rfl, fin_val F R (show _ = _ from rfl)⟩
    · obtain ⟨v, l, rfl, h1, h2⟩ := rs
      obtain ⟨w, z, rfl, h3, h4⟩ := two_of' h2
      cases h1.int_of
      cases h3.int_of
      cases h4.int_of
      rename_i i j k _
      refine .inr (.inl ⟨.int i, .int j, .int k, .int (if k > (if j > i then j else i) then k else (if j > i then j else i)), rfl, ?_, fin_val F R (show _ = _ from rfl)⟩)
      have e1 : nuMax2 (.int i) (.int j) = some (.int (if j > i then j else i)) := by
        show some (if decide (i < j) = true then V.int j else V.int i) = _
        by_cases h : j > i
        · rw [if_pos (by simpa using h), if_pos h]
        · rw [if_neg (by simpa using h), if_neg h]
      have e2 : ∀ m : Int, nuMax2 (.int m) (.int k) = some (.int (if k > m then k else m)) := fun m => by
        show some (if decide (m < k) = true then V.int k else V.int m) = _
        by_cases h : k > m
        · rw [if_pos (by simpa using h), if_pos h]
        · rw [if_neg (by simpa using h), if_neg h]
      show (nuMax2 (.int i) (.int j)).bind (fun m => nuMax2 m (.int k)) = _
      rw [e1]
      exact e2 _
    · rename_i x
      obtain ⟨w, rfl, r⟩ := one_of rs
      split at F
      · rename_i m hm
        obtain ⟨bs, hb, hmx⟩ := Option.bind_eq_some_iff.mp hm
        obtain ⟨zs, hz, h1⟩ := Option.bind_eq_some_iff.mp hb
        obtain ⟨p, ys, rfl, hs, h2⟩ := items_ref R r hz
        rw [optInts_rv h1 h2] at hs
        obtain ⟨k1, k2⟩ := maxI_ok bs m hmx
        refine .inr (.inr (.inl ⟨p, bs, rfl, hs, List.length_pos_iff.mpr (fun e => by rw [e] at k1; cases k1), fun m' h3 h4 => ?_⟩))
        have e : m' = m := Int.le_antisymm (k2 m' h3) (h4 m k1)
        rw [e]
        exact fin_val F R (show _ = _ from rfl)
      · exact F.elim
    · rename_i xs
      obtain ⟨w, rfl, r⟩ := one_of rs
      split at F
      · rename_i m hm
        obtain ⟨bs, hb, hmx⟩ := Option.bind_eq_some_iff.mp hm
        obtain ⟨p, ys, rfl, hs, h2⟩ := r.tup_of
        rw [optInts_rv hb h2] at hs
        obtain ⟨k1, k2⟩ := maxI_ok bs m hmx
        refine .inr (.inr (.inr ⟨p, bs, rfl, hs, List.length_pos_iff.mpr (fun e => by rw [e] at k1; cases k1), fun m' h3 h4 => ?_⟩))
        have e : m' = m := Int.le_antisymm (k2 m' h3) (h4 m k1)
        rw [e]
        exact fin_val F R (show _ = _ from rfl)
      · exact F.elim
    · exact F.elim
  · unfold gMax at h
    repeat' (first | (split at h) | cases h)
theorem cg_min (hc : X.calm = true) : CallG X cl (.builtin "min") gMin := by
  refine ⟨CallR.weaken (call_min2 hc) fun xs H Q ⟨β, us, st, rs, R, F⟩ => ?_, fun us st c fs st' h => ?_⟩
  · unfold gMin at F
    split at F
    · obtain ⟨v, w, rfl, r1, r2⟩ := two_of' rs
      cases r1.int_of
      cases r2.int_of
      exact ⟨_, _, rfl, fin_val F R (show _ = _ from rfl)⟩
    · exact F.elim
  · unfold gMin at h
    split at h <;> cases h
end
end BH

set_option Elab.async false
set_option linter.all false
set_option maxRecDepth 100000
set_option autoImplicit false
set_option maxHeartbeats 1000000
/-! Exceptions: try .. except of one class; raise. -/
namespace BH
open PySem PySem.Spec PyProof.Rows L2
/-- try .. except of a class: which classes it takes (none: not told) -/
def sTry (sub : Nat → Option Bool) (body : MS) (suite : Nat → Mfs → MS) : MS := fun env st => (body env st).bind fun fl s1 => match fl with
  | .xc c fs env1 => match sub c with
    | some true => suite c fs env1 s1
    | some false => .ok (.xc c fs env1) s1
    | none => .bad
  | fl => .ok fl s1
/-- what the table of classes says -/
def SubOk (K : PySem.W.Frag) (cl : Nat → Addr) (C : Value) (sub : Nat → Option Bool) : Prop := ∀ c b, sub c = some b → PySem.W.exmOne K (.ref (cl c)) C = some b
section
variable {X : Cx} {cl : Nat → Addr} {W : WX} {x : Str} {C : Value} {body suite : List Stmt} {b₀ : Stmt} {np pos pos' : Pos} {mb ms : MS} {sub : Nat → Option Bool}
theorem try_read {K : PySem.W.Frag} {D : Ends} {σ : L2.St} {H : Hp} {msf : Nat → Mfs → MS} (W' : WX) (h : tS K cl W (sTry sub mb msf) D σ H)
    (hx : ∀ c fs env st β H σ d, REnv K β H env σ → RSt K cl β st H → RX K β H fs d → (match sub c with
      | some true => Fin K cl β H (msf c fs env st) (kS K cl W D) kNo
      | some false => W (.ref (cl c)) d σ H
      | none => False) → W' (.ref (cl c)) d σ H) : tS K cl W' mb D σ H := by
  obtain ⟨β, env, st, re, R, F⟩ := h
  refine ⟨β, env, st, re, R, ?_⟩
  unfold sTry at F
  cases hb : mb env st with
  | ex c fs st1 => rw [hb] at F; exact F
  | bad => rw [hb] at F; exact F
  | ok fl st1 =>
    rw [hb] at F
    simp only [Res.bind_ok] at F
    cases fl with
    | nx e1 => exact F
    | rt v => exact F
    | bk e1 => exact F
    | ct e1 => exact F
    | xc c fs e1 =>
      simp only at F
      intro β' H' ex R' σ' d re' hd
      refine hx c fs e1 st1 β' H' σ' d re' R' hd ?_
      cases hs : sub c with
      | none => rw [hs] at F; exact F
      | some b =>
        cases b with
        | true => rw [hs] at F; exact Fin.weak ex F
        | false =>
          rw [hs] at F
          exact F.at ex R' σ' d re' hd
theorem ss_tryOnly (hs : X.stack = X.env :: X.outer) (hf : X.env.frame = some X.env.locals) (hc : Names X x C) (tk : Takes X W) (hsub : SubOk X.K cl C sub)
    (hb : ∀ (W : WX) (pn : List (Addr × Obj)) (xe : Value → Shared → Prop), Takes (X.tr pn xe) W → PassesOwn (model X.prog X.w) X.A X.env xe → SSs (X.tr pn xe) cl W body mb)
    (hsu : ∀ (a : Addr) (pn : List (Addr × Obj)), SSs (X.suite a pn) cl W (b₀ :: suite) ms) :
    SS X cl W (.Try body [.ExceptHandler (some (.Name x np)) none (b₀ :: suite) pos'] [] [] pos) (sTry sub mb fun _ _ => ms) := by
  refine PS.weaken (ps_try_only (tb := fun W => tS X.K cl W mb) (ts := fun _ _ _ => tS X.K cl W ms) hs hf hc tk (fun W' pn xe tk' po => hb W' pn xe tk' po) fun a oe cls d pn _ _ => hsu a _) fun D σ H h => ?_
  refine try_read _ h fun c fs env st β H σ d re R hd F => ?_
  cases hs : sub c with
  | none => rw [hs] at F; exact F.elim
  | some b =>
    refine ⟨b, hsub c b hs, fun e a ha => ?_, fun e => ?_⟩
    · subst e
      rw [hs] at F
      exact ⟨β, env, st, re, R, F⟩
    · subst e
      rw [hs] at F
      exact F
end
end BH
namespace BH
open PySem PySem.Spec PyProof.Rows L2
def sRaiseS (c : Nat) : MS := fun env st => .ok (.xc c [] env) st
section
variable {X : Cx} {cl : Nat → Addr} {W : WX} {x m : Str} {c j : Nat} {p p2 pos pos' : Pos} {bmB : List Value} {B newId initId : String}
theorem ss_raiseS (hc : X.calm = true) (tk : Takes X W) (F : ExcBaseFacts B newId initId bmB) (q : PySem.W.excIn X.K (cl c) bmB newId = true) (gC : X.mg x = some (.ref (cl c))) (kC : PySem.W.keepIn X.K (.ref (cl c)) = true) (r : Raises X (.ref (cl c))) (hg : Gl X x)
    (hdb : (x == ("__debug__" : Str)) = false := by decide) : SS X cl W (.Raise (some (.Call (.Name x p) [.Constant (.str m) j p2] [] pos)) none pos') (sRaiseS c) := by
  refine PS.weaken (ps_raise hc tk (pmk_own F q gC kC r hg hdb)) fun D σ H ⟨β, env, st, re, R, Fi⟩ => ?_
  exact Fi β H .refl R σ none re rfl
end
end BH

set_option Elab.async false
set_option linter.all false
set_option maxRecDepth 100000
set_option autoImplicit false
set_option maxHeartbeats 1000000
/-! Dicts with keys that are ints and texts. -/
namespace BH
open PySem PySem.Spec PyProof.Rows L2
def keyM : MV → Option L2.Key
  | .int i => some (.inl i)
  | .str x => some (.inr x)
  | _ => none
def lookK (kvs : List (L2.Key × MV)) (k : L2.Key) : Option MV := (kvs.find? fun kv => decide (kv.1 = k)).map (·.2)
def putKM (kvs : List (L2.Key × MV)) (k : L2.Key) (v : MV) : List (L2.Key × MV) :=
  if (kvs.any fun kv => decide (kv.1 = k)) = true then kvs.map (fun kv => if kv.1 = k then (kv.1, v) else kv) else kvs ++ [(k, v)]
section
variable {K : PySem.W.Frag} {cl : Nat → Addr} {β : List Addr} {H : Hp}
theorem keyM_rv {v : MV} {w : V} {k : L2.Key} (r : RV K β H v w) (h : keyM v = some k) : w = L2.kV k := by
  cases v with
  | int i => cases h; exact (show _ = _ from r)
  | str x => cases h; exact (show _ = _ from r)
  | _ => cases h
theorem RDs.look {k : L2.Key} : ∀ {xs : List (L2.Key × MV)} {ys : List (L2.Key × V)}, RDs K β H xs ys →
    (∀ x, lookK xs k = some x → ∃ y, valV ys k = some y ∧ RV K β H x y) ∧ (lookK xs k = none → valV ys k = none)
  | [], _, h => by
    cases (show _ = _ from h)
    exact ⟨fun x e => (by cases e), fun _ => rfl⟩
  | (j, z) :: xs, _, ⟨y, r, e1, h1, h2⟩ => by
    subst e1
    have ih := RDs.look (k := k) h2
    by_cases e : j = k
    · have e1 : lookK ((j, z) :: xs) k = some z := by simp [lookK, List.find?_cons, e]
      rw [e1, valV_pos (p := (j, y)) e]
      exact ⟨fun x hx => by cases hx; exact ⟨y, rfl, h1⟩, fun hx => (by cases hx)⟩
    · have e1 : lookK ((j, z) :: xs) k = lookK xs k := by simp [lookK, List.find?_cons, e]
      rw [e1, valV_neg (p := (j, y)) e]
      exact ih
theorem RDs.any {k : L2.Key} : ∀ {xs : List (L2.Key × MV)} {ys : List (L2.Key × V)}, RDs K β H xs ys → (ys.any fun kv => decide (kv.1 = k)) = (xs.any fun kv => decide (kv.1 = k))
  | [], _, h => by cases (show _ = _ from h); rfl
  | (j, z) :: xs, _, ⟨y, r, e1, h1, h2⟩ => by
    subst e1
    rw [List.any_cons, List.any_cons, RDs.any h2]
theorem RDs.change {k : L2.Key} {v : MV} {w : V} (hv : RV K β H v w) : ∀ {xs : List (L2.Key × MV)} {ys : List (L2.Key × V)}, RDs K β H xs ys → RDs K β H (xs.map (fun kv => if kv.1 = k then (kv.1, v) else kv)) (ys.map (fun kv => if kv.1 = k then (kv.1, w) else kv))
  | [], _, h => by cases (show _ = _ from h); rfl
  | (j, z) :: xs, _, ⟨y, r, e1, h1, h2⟩ => by
    subst e1
    rw [List.map_cons, List.map_cons]
    by_cases e : j = k
    · rw [if_pos e, if_pos e]
      exact ⟨w, _, rfl, hv, RDs.change hv h2⟩
    · rw [if_neg e, if_neg e]
      exact ⟨y, _, rfl, h1, RDs.change hv h2⟩
theorem RDs.more {k : L2.Key} {v : MV} {w : V} (hv : RV K β H v w) : ∀ {xs : List (L2.Key × MV)} {ys : List (L2.Key × V)}, RDs K β H xs ys → RDs K β H (xs ++ [(k, v)]) (ys ++ [(k, w)])
  | [], _, h => by cases (show _ = _ from h); exact ⟨w, [], rfl, hv, rfl⟩
  | (j, z) :: xs, _, ⟨y, r, e1, h1, h2⟩ => by
    subst e1
    exact ⟨y, _, rfl, h1, RDs.more hv h2⟩
theorem RDs.put {k : L2.Key} {v : MV} {w : V} (hv : RV K β H v w) {xs : List (L2.Key × MV)} {ys : List (L2.Key × V)} (h : RDs K β H xs ys) : RDs K β H (putKM xs k v) (putK ys k w) := by
  unfold putKM putK
  rw [h.any]
  split
  · exact h.change hv
  · exact h.more hv
theorem RDs.length : ∀ {xs : List (L2.Key × MV)} {ys : List (L2.Key × V)}, RDs K β H xs ys → ys.length = xs.length
  | [], _, h => by cases (show _ = _ from h); rfl
  | (j, z) :: xs, _, ⟨y, r, e1, h1, h2⟩ => by
    subst e1
    simp [RDs.length h2]
variable {st : Mst} {Q : VK} {ke : Nat → Mfs → Mst → List Addr → Hp → Prop}
theorem fin_dnew {zs : List (L2.Key × MV)} {ys : List (L2.Key × V)} {p : Addr} (F : Fin K cl β H (.ok (.ref st.length) (st ++ [.dct zs])) (kV K Q) ke) (R : RSt K cl β st H) (h : RDs K β H zs ys) (hp : H p = none) : Q (.ref p) (upd H p (.dK ys)) :=
  F.at (.snoc hp) (R.snoc hp ⟨ys, upd_same, h.mono (.snoc hp)⟩) (.ref p) ⟨p, by rw [← R.len]; simp, rfl⟩
end
theorem u1 {n : Nat} (h : n + 64 < cLine) : n + 1 < cLine := by omega
/-! ### {} , d[k], d.get(k, x), k in d, d[k] = v, dict(d) -/
def mDNew : ME := fun _ st => .ok (.ref st.length) (st ++ [.dct []])
def dctOf (st : Mst) : MV → Option (List (L2.Key × MV))
  | .ref a => match st[a]? with
    | some (.dct kvs) => some kvs
    | _ => none
  | _ => none
def gDGet (x y : MV) : M MV := fun st => match dctOf st x, keyM y with
  | some kvs, some k => match lookK kvs k with
    | some v => .ok v st
    | none => .bad
  | _, _ => .bad
def gDIn (neg : Bool) (y x : MV) : M MV := fun st => match dctOf st x, keyM y with
  | some kvs, some k => .ok (.bl (if neg then !(lookK kvs k).isSome else (lookK kvs k).isSome)) st
  | _, _ => .bad
def mDGet2 (a b c : ME) : ME := fun env st => (a env st).bind fun x s1 => match dctOf s1 x with
  | none => .bad
  | some _ => (b env s1).bind fun y s2 => (c env s2).bind fun z s3 => match dctOf s3 x, keyM y with
    | some kvs, some k => .ok ((lookK kvs k).getD z) s3
    | _, _ => .bad
def gDSet (x y v : MV) : M Unit := fun st => match x, keyM y with
  | .ref a, some k => match st[a]? with
    | some (.dct kvs) => if kvs.length < 16777216 then .ok () (st.set a (.dct (putKM kvs k v))) else .bad
    | _ => .bad
  | _, _ => .bad
def sDSet (d i v : ME) : MS := fun env st => bindX env (v env st) fun z s1 => bindX env (d env s1) fun x s2 => bindX env (i env s2) fun y s3 => (gDSet x y z s3).bind fun _ s4 => .ok (.nx env) s4
def gDict : List MV → M MV
  | [x], st => match dctOf st x with
    | some kvs => .ok (.ref st.length) (st ++ [.dct kvs])
    | none => .bad
  | _, _ => .bad
section
variable {X : Cx} {cl : Nat → Addr} {W : WX} {o i e f value : Expr} {md mi mv me mf : ME} {pos pos' apos cpos : Pos}
theorem dct_at {K : PySem.W.Frag} {β : List Addr} {H : Hp} {st : Mst} {x : MV} {w : V} {kvs : List (L2.Key × MV)} (R : RSt K cl β st H) (r : RV K β H x w) (h : dctOf st x = some kvs) : ∃ a p ks, x = .ref a ∧ β[a]? = some p ∧ w = .ref p ∧ H p = some (.dK ks) ∧ RDs K β H kvs ks ∧ st[a]? = some (.dct kvs) := by
  cases x with
  | ref a =>
    simp only [dctOf] at h
    split at h
    · rename_i kvs' ho
      cases h
      obtain ⟨p, hp, rfl⟩ := r.ref_of
      obtain ⟨ks, h1, h2⟩ := R.get hp ho
      exact ⟨a, p, ks, rfl, hp, rfl, h1, h2, ho⟩
    · cases h
  | _ => cases h
theorem se_dnew : SE X cl W (.Dict [] [] pos) mDNew := by
  refine PE.weaken pe_dnewK fun σ H Q ⟨β, env, st, re, R, F⟩ p hp => ?_
  exact fin_dnew F R rfl hp
theorem se_dget (hu : X.A.units + 1 < cLine) (hs : NoSl i) (ho : SE X cl W o md) (hi : SE X cl W i mi) : SE X cl W (.Subscript o i pos) (mBin gDGet md mi) := by
  refine PE.weaken (pe_dget hu ho hi hs) fun σ H Q ⟨β, env, st, re, R, F⟩ => ?_
  refine tM_bind re R F fun x w β1 H1 st1 e1 rw re1 R1 F1 => ?_
  refine tM_bind re1 R1 F1 fun y z β2 H2 st2 e2 rz re2 R2 F2 => ?_
  have rw2 := rw.mono e2
  unfold gDGet at F2
  split at F2
  · rename_i kvs k hd hk
    obtain ⟨a, p, ks, rfl, hp, rfl, h1, h2, _⟩ := dct_at R2 rw2 hd
    cases keyM_rv rz hk
    split at F2
    · rename_i v hv
      obtain ⟨y, hy, ry⟩ := (h2.look (k := k)).1 v hv
      refine ⟨p, y, rfl, ?_, fin_val F2 R2 ry⟩
      rw [← hy]
      exact DGet.k h1
    · exact F2.elim
  · exact F2.elim
theorem isD_dct {H : Hp} {p : Addr} {ks : List (L2.Key × V)} (h : H p = some (.dK ks)) : IsD H p := .inl ⟨ks, .inl h⟩
theorem se_dget2 (hu : X.A.units + 1 < cLine) (m : M2 X o "get" apos e f cpos) (ho : SE X cl W o md) (he : SE X cl W e me) (hf : SE X cl W f mf) : SE X cl W (.Call (.Attribute o "get" apos) [e, f] [] cpos) (mDGet2 md me mf) := by
  refine PE.weaken (pe_dget2 hu ho he hf m) fun σ H Q ⟨β, env, st, re, R, F⟩ => ?_
  refine tM_bind re R F fun x w β1 H1 st1 e1 rw re1 R1 F1 => ?_
  split at F1
  · exact F1.elim
  · rename_i kvs0 hd0
    obtain ⟨a, p, ks0, rfl, hp0, rfl, h10, _, _⟩ := dct_at R1 rw hd0
    refine ⟨p, rfl, isD_dct h10, ?_⟩
    refine tM_bind re1 R1 F1 fun y z β2 H2 st2 e2 rz re2 R2 F2 => ?_
    refine tM_bind re2 R2 F2 fun u w3 β3 H3 st3 e3 ru re3 R3 F3 => ?_
    split at F3
    · rename_i kvs k hd hk
      obtain ⟨a', p', ks, ea, hp, ew, h1, h2, _⟩ := dct_at R3 ((rw.mono e2).mono e3) hd
      cases ew
      cases keyM_rv (rz.mono e3) hk
      cases hl : lookK kvs k with
      | some v =>
        rw [hl] at F3
        obtain ⟨y, hy, ry⟩ := (h2.look (k := k)).1 v hl
        exact ⟨some y, by rw [← hy]; exact DGet.k h1, fin_val F3 R3 ry⟩
      | none =>
        rw [hl] at F3
        exact ⟨none, by rw [← (h2.look (k := k)).2 hl]; exact DGet.k h1, fin_val F3 R3 ru⟩
    · exact F3.elim
theorem ss_dput (hu : X.A.units + 1 < cLine) (ho : SE X cl W o md) (hi : SE X cl W i mi) (hv : SE X cl W value mv) (hs : swapsWith value (some (.Subscript o i pos')) pos.line X.env = pure false) : SS X cl W (.Assign [.Subscript o i pos'] value pos) (sDSet md mi mv) := by
  refine PS.weaken (ps_dput hu ho hi hv hs) fun D σ H ⟨β, env, st, re, R, F⟩ => ?_
  refine tMX (α := Unit) re R F fun v w β1 H1 st1 e1 rw re1 R1 F1 => ?_
  refine tMX (α := Unit) re1 R1 F1 fun x wx β2 H2 st2 e2 rx re2 R2 F2 => ?_
  refine tMX (α := Unit) re2 R2 F2 fun y wy β3 H3 st3 e3 ry re3 R3 F3 => ?_
  unfold gDSet at F3
  split at F3
  · rename_i a k hk
    split at F3
    · rename_i kvs hd
      split at F3
      · rename_i hlen
        obtain ⟨p, hp, rfl⟩ := (rx.mono e3).ref_of
        obtain ⟨ks, h1, h2⟩ := R3.get hp hd
        cases keyM_rv ry hk
        have hm : Mut (H3 p) := ((R3.get hp hd).mut_at rfl).1
        have hp2 := h2.put ((rw.mono e2).mono e3) (k := k)
        refine ⟨p, _, rfl, DPut.k h1 (by rw [h2.length, sizeLine_eq]; exact hlen), ?_⟩
        exact F3 β3 _ (.upd (.inr hm)) (R3.set hp hd rfl rfl ⟨_, upd_same, hp2.mono (.upd (.inr hm))⟩) σ (re3.mono (.upd (.inr hm)))
      · exact F3.elim
    · exact F3.elim
  · exact F3.elim
theorem cg_dict : CallG X cl (.type "dict") gDict := by
  refine ⟨CallR.weaken call_dictD fun xs H Q ⟨β, us, st, rs, R, F⟩ => ?_, fun us st c fs st' h => ?_⟩
  · unfold gDict at F
    split at F
    · obtain ⟨w, rfl, r⟩ := one_of rs
      split at F
      · rename_i kvs hd
        obtain ⟨a, p, ks, rfl, hp, rfl, h1, h2, _⟩ := dct_at R r hd
        exact ⟨p, ks, rfl, .inl h1, fun q hq => fin_dnew F R h2 hq⟩
      · exact F.elim
    · exact F.elim
  · unfold gDict at h
    repeat' (first | (split at h) | cases h)
end
end BH

set_option Elab.async false
set_option linter.all false
set_option maxRecDepth 100000
set_option autoImplicit false
set_option maxHeartbeats 1000000
/-! match over a tuple: patterns that are sequences of texts and names. -/
namespace BH
open PySem PySem.Spec PyProof.Rows L2
inductive IP where
  | lit (m : Str)
  | cap (i : Nat)
/-- the patterns, as they stand in the program -/
inductive PatsOk (X : Cx) : List Pattern → List IP → Prop where
  | nil : PatsOk X [] []
  | lit {m : Str} {j : Nat} {cp pp : Pos} {ps : List Pattern} {ips : List IP} (h : PatsOk X ps ips) : PatsOk X (.MatchValue (.Constant (.str m) j cp) pp :: ps) (.lit m :: ips)
  | cap {n : Str} {i : Nat} {pp : Pos} {ps : List Pattern} {ips : List IP} (hi : X.N[i]? = some n) (hx : Loc X.env.scope n) (hf : X.fn n = true ∨ X.env.scope.names.lookup n = some .local) (h : PatsOk X ps ips) : PatsOk X (.MatchAs none (some n) pp :: ps) (.cap i :: ips)
def eachV : List IP → List V → Option (Option (List (Nat × V)))
  | [], [] => some (some [])
  | .lit m :: ips, .str a :: xs => if a = m then eachV ips xs else some none
  | .cap i :: ips, x :: xs => (eachV ips xs).map fun o => o.map fun l => (i, x) :: l
  | _, _ => none
/-- bindings, on both sides -/
inductive BindsR (X : Cx) : List (Nat × V) → List (Str × Value) → Prop where
  | nil : BindsR X [] []
  | cons {i : Nat} {n : Str} {x : V} {v : Value} {l : List (Nat × V)} {bs : List (Str × Value)} (hi : X.N[i]? = some n) (hx : Loc X.env.scope n) (hf : X.fn n = true ∨ X.env.scope.names.lookup n = some .local) (r : RelV x v) (h : BindsR X l bs) : BindsR X ((i, x) :: l) ((n, v) :: bs)
section
variable {X : Cx} {pins : List (Addr × Obj)} {σ : L2.St} {H : Hp}
theorem each_run {ps : List Pattern} {ips : List IP} (P : PatsOk X ps ips) : ∀ {xs : List V} {vs : List Value} {s : Shared} {r : Option (List (Nat × V))} {Q : Option (List (Str × Value)) → Shared → Prop} {E : Value → Shared → Prop}, Vals xs vs → Inv X pins σ H s → eachV ips xs = some r →
    (∀ s', Inv X pins σ H s' → (r = none → Q none s') ∧ (∀ l, r = some l → ∀ bs, BindsR X l bs → Q (some bs) s')) → wpAny (model X.prog X.w) X.A (matchEach ps X.env vs) Q X.xe s := by
  induction P with
  | nil =>
    intro xs vs s r Q E rv I h k
    cases rv with
    | nil =>
      cases h
      exact wpAny_matchEach_nil ((k s I).2 [] rfl [] .nil)
    | cons _ _ => cases h
  | @lit m j cp pp ps ips hp ih =>
    intro xs vs s r Q E rv I h k
    cases rv with
    | nil => cases h
    | @cons x v xs vs hx hxs =>
      cases x with
      | str a =>
        simp only [eachV] at h
        refine wpAny_matchEach_cons (wpAny_matchPattern_Value ?_)
        refine thn (pe_str (X := X) (x := m) (j := j) (pos := cp) |>.run pins s σ H (fun y H1 => y = .str m ∧ H1 = H) I ⟨rfl, rfl⟩) fun u s1 ⟨y, H1, I1, ry, e1, e2⟩ => ?_
        subst e1
        subst e2
        refine thn (op_eq (X := X) pins s1 σ H1 (.str a) (.str m) v u (fun y H2 => y = .bl (decide ((V.str a) = .str m)) ∧ H2 = H1) I1 hx ry ⟨rfl, rfl, rfl⟩) fun c s2 ⟨y, H2, I2, rc, e1, e2⟩ => ?_
        subst e1
        subst e2
        obtain rfl : c = Value.bool (decide ((V.str a) = .str m)) := rc
        refine wpAny_truthy_bool ?_
        by_cases e : a = m
        · rw [if_pos e] at h
          subst e
          simp only [decide_true, if_true]
          refine wpAny_mono (ih hxs I2 h (Q := fun r' s' => match r' with | none => Q none s' | some more => Q (some ([] ++ more)) s') (E := X.xe) fun s' I' => ?_) (fun _ _ q => q) fun _ _ q => q
          exact k s' I'
        · rw [if_neg e] at h
          cases h
          rw [decide_eq_false (fun z => e (by cases z; rfl))]
          simp only [Bool.false_eq_true, if_false]
          exact (k s2 I2).1 rfl
      | _ => cases h
  | @cap n i pp ps ips hi hxl hf hp ih =>
    intro xs vs s r Q E rv I h k
    cases rv with
    | nil => cases h
    | @cons x v xs vs hx hxs =>
      simp only [eachV, Option.map_eq_some_iff] at h
      obtain ⟨o, h1, h2⟩ := h
      refine wpAny_matchEach_cons (wpAny_matchPattern_Capture ?_)
      refine wpAny_mono (ih hxs I h1 (Q := fun r' s' => match r' with | none => Q none s' | some more => Q (some ([(n, v)] ++ more)) s') (E := X.xe) fun s' I' => ?_) (fun _ _ q => q) fun _ _ q => q
      refine ⟨fun e => ?_, fun l e bs hb => ?_⟩
      · subst e
        exact (k s' I').1 h2.symm
      · subst e
        exact (k s' I').2 _ h2.symm _ (.cons hi hxl hf hx hb)
def bindAll : L2.St → List (Nat × V) → L2.St
  | σ, [] => σ
  | σ, (i, x) :: l => bindAll (σ.set i (some x)) l
theorem binds_run (hN : X.N.Nodup) {l : List (Nat × V)} {bs : List (Str × Value)} (B : BindsR X l bs) : ∀ {σ : L2.St} {s : Shared} {Q : Unit → Shared → Prop}, Inv X pins σ H s → (∀ s', Inv X pins (bindAll σ l) H s' → Q () s') →
    wpAny (model X.prog X.w) X.A (assignInOrder (bs.map fun (n, _) => bindName X.env n) (bs.map (·.2))) Q X.xe s := by
  induction B with
  | nil => exact fun I k => wpAny_assignInOrder_none (k _ I)
  | @cons i n x v l bs hi hx hf r h ih =>
    intro σ s Q I k
    refine wpAny_assignInOrder_more (wpAny_bindName ?_)
    exact store_ok I hN hi hx r (fun s' I' => ih I' k) hf
/-- the cases of a match over a tuple -/
abbrev TMc := List V → TS
structure MC (X : Cx) (cs : List MatchCase) (t : TMc) : Prop where
  run : ∀ (pins : List (Addr × Obj)) (s : Shared) (σ : L2.St) (H : Hp) (D : Ends) (a : Addr) (xs : List V) (first : Bool), Inv X pins σ H s → SqT X.K H a xs → t xs D σ H → wpAny (model X.prog X.w) X.A (matchCases cs X.env (.ref a) first) (SP X pins D) X.xe s
theorem mc_nil : MC X [] (fun _ D σ H => D.nx σ H) := ⟨fun pins s σ H D a xs first I _ h => wpAny_matchCases_nil ⟨σ, H, I, h⟩⟩
def tMc (n : Nat) (ips : List IP) (tb : TS) (tr : TMc) : TMc := fun xs D σ H => if xs.length = n then ∃ r, eachV ips xs = some r ∧ (r = none → tr xs D σ H) ∧ (∀ l, r = some l → tb D (bindAll σ l) H) else tr xs D σ H
theorem mc_seq {ps : List Pattern} {ips : List IP} {pp : Pos} {body : List Stmt} {rest : List MatchCase} {tb : TS} {tr : TMc} {n : Nat} (hc : X.calm = true) (hN : X.N.Nodup) (hp : PatsOk X ps ips) (hb : PSs X body tb) (hr : MC X rest tr) (hn : ps.length = n)
    (hstar : ps.findIdx? (·.isStar) = none := by rfl) (hwild : (ps.all fun p => p.isWildcard || (p.isStar && p.names.isEmpty)) = false := by rfl) :
    MC X (⟨.MatchSequence ps pp, none, body⟩ :: rest) (tMc n ips tb tr) := by
  refine ⟨fun pins s σ H D a xs first I hq h => ?_⟩
  subst hn
  refine wpAny_matchCases_cons ?_
  obtain ⟨its, rv, ht, hz⟩ := I.tuple hq
  have hsz : its.toArray.size = xs.length := by simp [rv.length]
  have hfit : (its.toArray.size : Int) < 2 ^ 63 := by
    rw [sizeLine_eq] at hz
    rw [hsz]
    omega
  unfold tMc at h
  by_cases hl : xs.length = ps.length
  · rw [if_pos hl] at h
    obtain ⟨r, he, h1, h2⟩ := h
    refine matchSeq_tuple_hit ht hfit (hsz.trans hl) ?_ hstar hwild
    rw [← hl, ← hsz]
    refine unpackItems_tuple (I.ok.hd hc) ht fun h' hx => ?_
    have I1 : Inv X pins σ H { s with heap := h', toks := s.toks + 1 + 1 } := I.kept (t' := s.toks + 1 + 1) fun b o e => hx b o (Nat.ne_of_lt (Heap.lt_size e)) e
    refine each_run (E := X.xe) hp (by simpa using rv) I1 he fun s' I' => ⟨fun e => ?_, fun l e bs B => ?_⟩
    · exact hr.run pins s' σ H D a xs false I' hq (h1 e)
    · exact binds_run hN B I' fun s2 I2 => hb.run pins s2 _ H D I2 (h2 l e)
  · rw [if_neg hl] at h
    refine matchSeq_tuple_miss ht hfit (fun e => hl (hsz.symm.trans e)) ?_ hstar hwild
    exact hr.run pins _ σ H D a xs false (I.tok _) hq h
theorem ps_match {subject : Expr} {cs : List MatchCase} {te : TE} {t : TMc} {pos : Pos} (he : PE X subject te) (hm : MC X cs t) : PS X (.Match subject cs pos) (fun D σ H => te σ H fun x H1 => ∃ a xs, x = .ref a ∧ SqT X.K H1 a xs ∧ t xs D σ H1) := by
  refine ⟨fun pins s σ H D I h => ?_⟩
  refine wpAny_Match (thn (he.run pins s σ H _ I h) fun v s1 ⟨x, H1, I1, r1, a, xs, e, hq, h1⟩ => ?_)
  subst e
  obtain rfl : v = Value.ref a := r1
  exact hm.run pins s1 σ H1 D a xs true I1 hq h1
end
/-! ### on the plain machine -/
def eachM : List IP → List MV → Option (Option (List (Nat × MV)))
  | [], [] => some (some [])
  | .lit m :: ips, .str a :: xs => if a = m then eachM ips xs else some none
  | .cap i :: ips, x :: xs => (eachM ips xs).map fun o => o.map fun l => (i, x) :: l
  | _, _ => none
def bindE : BH.Env → List (Nat × MV) → BH.Env
  | env, [] => env
  | env, (i, x) :: l => bindE (env.set i (some x)) l
abbrev MMc := List MV → MS
def mcNil : MMc := fun _ env st => .ok (.nx env) st
def mcSeq (n : Nat) (ips : List IP) (body : MS) (rest : MMc) : MMc := fun xs env st => if xs.length = n then match eachM ips xs with
  | none => .bad
  | some none => rest xs env st
  | some (some l) => body (bindE env l) st
  else rest xs env st
def sMatch (m : ME) (mc : MMc) : MS := fun env st => bindX env (m env st) fun v s1 => match v with
  | .tup xs => mc xs env s1
  | _ => .bad
section
variable {K : PySem.W.Frag} {cl : Nat → Addr} {W : WX} {β : List Addr} {H : Hp}
def tMC (K : PySem.W.Frag) (cl : Nat → Addr) (W : WX) (mc : MMc) : TMc := fun ws D σ H => ∃ β us env st, RVs K β H us ws ∧ REnv K β H env σ ∧ RSt K cl β st H ∧ Fin K cl β H (mc us env st) (kS K cl W D) kNo
/-- bindings related -/
inductive RBs (K : PySem.W.Frag) (β : List Addr) (H : Hp) : List (Nat × MV) → List (Nat × V) → Prop where
  | nil : RBs K β H [] []
  | cons {i : Nat} {x : MV} {y : V} {l : List (Nat × MV)} {l' : List (Nat × V)} (r : RV K β H x y) (h : RBs K β H l l') : RBs K β H ((i, x) :: l) ((i, y) :: l')
theorem each_rv : ∀ (ips : List IP) {us : List MV} {ws : List V}, RVs K β H us ws → (eachM ips us = some none → eachV ips ws = some none) ∧ (∀ l, eachM ips us = some (some l) → ∃ l', eachV ips ws = some (some l') ∧ RBs K β H l l')
  | [], [], _, r => by
    cases (show _ = _ from r)
    exact ⟨fun h => (by cases h), fun l h => by cases h; exact ⟨[], rfl, .nil⟩⟩
  | [], _ :: _, _, r => ⟨fun h => (by cases h), fun l h => by cases h⟩
  | .lit m :: ips, [], _, r => ⟨fun h => (by cases h), fun l h => by cases h⟩
  | .cap i :: ips, [], _, r => ⟨fun h => (by cases h), fun l h => by cases h⟩
  | .lit m :: ips, u :: us, _, ⟨w, ws, rfl, h1, h2⟩ => by
    cases u with
    | str a =>
      obtain rfl : w = V.str a := h1
      have ih := each_rv ips h2
      by_cases e : a = m
      · simp only [eachM, eachV, if_pos e]
        exact ih
      · have q1 : eachM (.lit m :: ips) (.str a :: us) = some none := by simp only [eachM, if_neg e]
        have q2 : eachV (.lit m :: ips) (.str a :: ws) = some none := by simp only [eachV, if_neg e]
        exact ⟨fun _ => q2, fun l h => by rw [q1] at h; cases h⟩
    | _ => exact ⟨fun h => (by cases h), fun l h => by cases h⟩
  | .cap i :: ips, u :: us, _, ⟨w, ws, rfl, h1, h2⟩ => by
    have ih := each_rv ips h2
    have q1 : eachM (.cap i :: ips) (u :: us) = (eachM ips us).map fun o => o.map fun l => (i, u) :: l := rfl
    have q2 : eachV (.cap i :: ips) (w :: ws) = (eachV ips ws).map fun o => o.map fun l => (i, w) :: l := rfl
    rw [q1, q2]
    cases ho : eachM ips us with
    | none => exact ⟨fun h => (by cases h), fun l h => by cases h⟩
    | some o =>
      cases o with
      | none =>
        rw [ih.1 ho]
        exact ⟨fun _ => rfl, fun l h => by cases h⟩
      | some l0 =>
        obtain ⟨l', e1, e2⟩ := ih.2 l0 ho
        rw [e1]
        exact ⟨fun h => (by cases h), fun l h => by cases h; exact ⟨_, rfl, .cons h1 e2⟩⟩
theorem binds_env {l : List (Nat × MV)} {l' : List (Nat × V)} (B : RBs K β H l l') : ∀ {env : BH.Env} {σ : L2.St}, REnv K β H env σ → REnv K β H (bindE env l) (bindAll σ l') := by
  induction B with
  | nil => exact fun r => r
  | cons r _ ih => exact fun re => ih (re.set r)
end
section
variable {X : Cx} {cl : Nat → Addr} {W : WX}
def SMc (X : Cx) (cl : Nat → Addr) (W : WX) (cs : List MatchCase) (mc : MMc) : Prop := MC X cs (tMC X.K cl W mc)
theorem MC.weaken {cs : List MatchCase} {t t' : TMc} (h : MC X cs t) (i : ∀ xs D σ H, t' xs D σ H → t xs D σ H) : MC X cs t' := ⟨fun pins s σ H D a xs first I hq hw => h.run pins s σ H D a xs first I hq (i _ _ _ _ hw)⟩
theorem sm_nil : SMc X cl W [] mcNil := MC.weaken mc_nil fun xs D σ H ⟨β, us, env, st, rs, re, R, F⟩ => F.at .refl R σ re
theorem sm_seq {ps : List Pattern} {ips : List IP} {pp : Pos} {body : List Stmt} {rest : List MatchCase} {mb : MS} {mr : MMc} {n : Nat} (hc : X.calm = true) (hN : X.N.Nodup) (hp : PatsOk X ps ips) (hb : SSs X cl W body mb) (hr : SMc X cl W rest mr) (hn : ps.length = n := by rfl)
    (hstar : ps.findIdx? (·.isStar) = none := by rfl) (hwild : (ps.all fun p => p.isWildcard || (p.isStar && p.names.isEmpty)) = false := by rfl) : SMc X cl W (⟨.MatchSequence ps pp, none, body⟩ :: rest) (mcSeq n ips mb mr) := by
  refine MC.weaken (mc_seq hc hN hp hb hr hn hstar hwild) fun xs D σ H ⟨β, us, env, st, rs, re, R, F⟩ => ?_
  unfold mcSeq at F
  unfold tMc
  rw [rs.length]
  by_cases hl : us.length = n
  · rw [if_pos hl] at F ⊢
    have ev := each_rv ips rs
    split at F
    · exact F.elim
    · rename_i he
      exact ⟨none, ev.1 he, fun _ => ⟨β, us, env, st, rs, re, R, F⟩, fun l e => (by cases e)⟩
    · rename_i l he
      obtain ⟨l', e1, e2⟩ := ev.2 l he
      refine ⟨some l', e1, fun e => (by cases e), fun l2 e => ?_⟩
      cases e
      exact ⟨β, _, st, binds_env e2 re, R, F⟩
  · rw [if_neg hl] at F ⊢
    exact ⟨β, us, env, st, rs, re, R, F⟩
theorem ss_match {subject : Expr} {cs : List MatchCase} {m : ME} {mc : MMc} {pos : Pos} (he : SE X cl W subject m) (hm : SMc X cl W cs mc) : SS X cl W (.Match subject cs pos) (sMatch m mc) := by
  refine PS.weaken (ps_match he hm) fun D σ H ⟨β, env, st, re, R, F⟩ => ?_
  refine tMX (α := Unit) re R F fun v w β1 H1 st1 e1 rw re1 R1 F1 => ?_
  split at F1
  · rename_i us
    obtain ⟨p, ys, rfl, hs, h2⟩ := rw.tup_of
    exact ⟨p, ys, rfl, hs, β1, us, env, st1, h2, re1, R1, F1⟩
  · exact F1.elim
end
end BH

set_option Elab.async false
set_option linter.all false
set_option maxRecDepth 100000
set_option autoImplicit false
set_option maxHeartbeats 1000000
/-! A sequence pattern whose last part is a star. -/
namespace BH
open PySem PySem.Spec PyProof.Rows L2
section
variable {prog : Program} {w : World} {A : Around} {E : Value → Shared → Prop} {s : Shared}
theorem restWalk (hh : A.handled = none) {it t : Addr} {k : Nat} {items : Array Value} (hne : t ≠ it) (hk : k ≤ items.size) :
    WalksS prog w A it [it, t] [it] Eq (items.size - k) (fun i v => items[k + i]? = some v) (fun i s => IsTupIter s.heap it t (k + i) ∧ IsTup s.heap t items) where
  sub := fun b hb => by simp at hb; simp [hb]
  grefl := fun _ => rfl
  gtrans := fun _ _ _ h h' => h.trans h'
  frame := fun i s h' tk ⟨⟨o, e, r⟩, ⟨o2, e2, r2⟩⟩ _ hb => ⟨⟨o, hb it (by simp) o e, r⟩, ⟨o2, hb t (by simp) o2 e2, r2⟩⟩
  item := fun i s Q E hi ⟨h1, h2⟩ k' => by
    have hx : items[k + i]? = some items[k + i] := by simp
    exact next_tuple_item h1 h2 hx fun h' h3 hs => k' _ _ hx ⟨h3, h2.extBut hs.extBut hne⟩ ⟨fun b o hb e => hs.extBut b o (by simpa using hb) e, rfl, rfl, rfl, Nat.le_refl _⟩
  done := fun s Q E ⟨h1, h2⟩ k' => next_tuple_end hh h1 h2 (Array.getElem?_eq_none (by omega)) fun h' hs => k' _ ⟨fun b o hb e => hs b o (by simpa using hb) e, rfl, rfl, rfl, Nat.le_refl _⟩
  self := fun i s Q E ⟨h1, _⟩ k' => wpAny_pyIter_tupleiter h1 k'
theorem unpack_star (hh : A.handled = none) {t : Addr} {items : Array Value} {k n : Nat} {Q : List Value → Shared → Prop} (ht : IsTup s.heap t items) (hk : k ≤ items.size) (hsz : items.size ≤ sizeLine) (hn : n = k + 1)
    (hQ : ∀ (h' : Heap) (tk : Nat), (∀ b o, s.heap.get? b = some o → h'.get? b = some o) → Q (items.toList.take k ++ [.ref h'.objs.size]) { s with heap := h'.push { cls := .type "list", data := .seq (items.toList.drop k).toArray }, toks := tk }) :
    wpAny (model prog w) A (unpackItems (.ref t) n (some k)) Q E s := by
  have hlt : t ≠ s.heap.objs.size := by obtain ⟨o, ho, _⟩ := ht; exact Nat.ne_of_lt (Heap.lt_size ho)
  subst hn
  unfold unpackItems
  refine wpAny_bind ?_
  unfold notIterableAtAll
  refine wpAny_bind (wpAny_specialOf ht.typeIs slot_tuple_iter.lookup ?_)
  refine wpAny_pure ?_
  simp only [Bool.false_eq_true, if_false]
  refine wpAny_bind (wpAny_holding (iter_tuple ht ?_))
  refine wpAny_bind (wpAny_holding (draw_tuple hlt k 0 _ _ ⟨_, Heap.get?_push_size _ rfl, rfl, rfl⟩ (ht.push _) (by omega) fun h₁ hit₁ hs₁ => ?_))
  have ht1 : IsTup h₁ t items := (ht.push _).extBut hs₁.extBut hlt
  have hl : ((items.toList.drop 0).take k).length = k := by simp; omega
  rw [hl, if_neg (Nat.lt_irrefl k)]
  refine wpAny_bind (wpAny_holding ?_)
  refine wpAny_collect_iter (.inr (.inr (.inr rfl))) (restWalk (A := A.in1) hh hlt hk) (fun i s h => ?_) ⟨by simpa using hit₁, ht1⟩ (fun b hb => ?_) (by simp) (fun s' acc hm hacc => ?_) (by omega)
  · obtain ⟨⟨o, e, c, _⟩, _⟩ := h
    exact ⟨o, e, c⟩
  · simp only [List.mem_cons, List.not_mem_nil, or_false] at hb
    rcases hb with rfl | rfl
    · obtain ⟨o, e, _⟩ := hit₁
      exact Heap.lt_size e
    · obtain ⟨o, e, _⟩ := ht1
      exact Heap.lt_size e
  · have hacc2 : acc.toList = items.toList.drop k := by
      refine List.ext_getElem? fun j => ?_
      by_cases hj : j < acc.size
      · have e : acc[j]? = some acc[j] := by simp
        rw [List.getElem?_drop, Array.getElem?_toList, Array.getElem?_toList, e]
        exact (hacc.2 j _ e).symm
      · rw [List.getElem?_eq_none (by simpa using hj), List.getElem?_eq_none (by have := hacc.1; simp; omega)]
    rw [hacc2]
    have e0 : k + 1 - 1 - k = 0 := by omega
    rw [e0, if_neg (Nat.not_lt_zero _), Nat.sub_zero, List.take_length, List.drop_length]
    refine wpAny_bind (wpAny_newList ?_ ?_)
    · refine wpAny_pure ?_
      obtain ⟨hp', gs', dr', tk', os'⟩ := s'
      have e1 := hm.gens
      have e2 := hm.drawn
      have e3 := hm.os
      simp only at e1 e2 e3
      subst e1
      subst e2
      subst e3
      rw [List.drop_zero, List.append_nil]
      refine hQ _ _ fun b o e => ?_
      have hb : b ≠ s.heap.objs.size := Nat.ne_of_lt (Heap.lt_size e)
      exact hm.heap b o (by simpa using hb) (hs₁.extBut b o hb (Heap.get?_push_of_some _ e))
    · simp
      omega
end
section
variable {X : Cx} {pins : List (Addr × Obj)} {σ : L2.St} {H : Hp}
def tMcStar (k : Nat) (ips : List IP) (j : Nat) (tb : TS) (tr : TMc) : TMc := fun xs D σ H => if xs.length < k then tr xs D σ H else ∃ l, eachV ips (xs.take k) = some (some l) ∧ ∀ p, H p = none → tb D ((bindAll σ l).set j (some (.ref p))) (upd H p (.lst (xs.drop k)))
theorem matchSeq_star {prog : Program} {w : World} {A : Around} {E : Value → Shared → Prop} {s : Shared} {ps : List Pattern} {pos : Pos} {env : PySem.Env} {t : Addr} {items : Array Value} {k : Nat} {Q : Option (List (Str × Value)) → Shared → Prop}
    (ht : IsTup s.heap t items) (hfit : (items.size : Int) < 2 ^ 63) (hk : 0 < k) (hn : ps.length = k + 1) (hstar : ps.findIdx? (·.isStar) = some k) (hnm : ((ps[k]?).elim [] (·.names)).isEmpty = false)
    (hwild : (ps.all fun p => p.isWildcard || (p.isStar && p.names.isEmpty)) = false)
    (hmiss : items.size < k → Q none { s with toks := s.toks + 1 + 1 })
    (h : k ≤ items.size → wpAny (model prog w) A (unpackItems (.ref t) ps.length (some k)) (fun vs s₃ => wpAny (model prog w) A (matchEach ps env vs) Q E s₃) E { s with toks := s.toks + 1 + 1 }) :
    wpAny (model prog w) A (matchPattern (.MatchSequence ps pos) env (.ref t)) Q E s := by
  rw [arm_matchPattern_MatchSequence]
  refine wpAny_bind (wpAny_standAt ?_)
  refine wpAny_bind (wpAny_collectionFlag ht.typeIs flag_seq_tuple ?_)
  simp only [Bool.not_true, Bool.false_eq_true, if_false, hstar]
  rw [if_pos (show ps.length > 1 by omega)]
  refine wpAny_bind (pyLen_tuple ht hfit ?_)
  by_cases hl : items.size < k
  · rw [if_pos (by omega)]
    exact wpAny_pure (hmiss hl)
  · rw [if_neg (by omega), hwild, hnm]
    simp only [Bool.false_eq_true, if_false]
    exact wpAny_bind (h (by omega))
/-- the patterns ahead of the star, then the star -/
theorem each_star {ps : List Pattern} {ips : List IP} (P : PatsOk X ps ips) {nm : Str} {pp : Pos} {L : Addr} : ∀ {xs : List V} {vs : List Value} {s : Shared} {r : Option (List (Nat × V))} {Q : Option (List (Str × Value)) → Shared → Prop}, Vals xs vs → Inv X pins σ H s → eachV ips xs = some r →
    (∀ s', Inv X pins σ H s' → (r = none → Q none s') ∧ (∀ l, r = some l → ∀ bs, BindsR X l bs → Q (some (bs ++ [(nm, .ref L)])) s')) → wpAny (model X.prog X.w) X.A (matchEach (ps ++ [.MatchStar (some nm) pp]) X.env (vs ++ [.ref L])) Q X.xe s := by
  induction P with
  | nil =>
    intro xs vs s r Q rv I h k
    cases rv with
    | nil =>
      cases h
      show wpAny (model X.prog X.w) X.A (matchEach [.MatchStar (some nm) pp] X.env [.ref L]) Q X.xe s
      rw [arm_matchEach_MatchStar]
      refine wpAny_bind (wpAny_holding (wpAny_matchEach_nil ?_))
      exact wpAny_pure ((k s I).2 [] rfl [] .nil)
    | cons _ _ => cases h
  | @lit m j cp pp' ps ips hp ih =>
    intro xs vs s r Q rv I h k
    cases rv with
    | nil => cases h
    | @cons x v xs vs hx hxs =>
      cases x with
      | str a =>
        simp only [eachV] at h
        refine wpAny_matchEach_cons (wpAny_matchPattern_Value ?_)
        refine thn (pe_str (X := X) (x := m) (j := j) (pos := cp) |>.run pins s σ H (fun y H1 => y = .str m ∧ H1 = H) I ⟨rfl, rfl⟩) fun u s1 ⟨y, H1, I1, ry, e1, e2⟩ => ?_
        subst e1
        subst e2
        refine thn (op_eq (X := X) pins s1 σ H1 (.str a) (.str m) v u (fun y H2 => y = .bl (decide ((V.str a) = .str m)) ∧ H2 = H1) I1 hx ry ⟨rfl, rfl, rfl⟩) fun c s2 ⟨y, H2, I2, rc, e1, e2⟩ => ?_
        subst e1
        subst e2
        obtain rfl : c = Value.bool (decide ((V.str a) = .str m)) := rc
        refine wpAny_truthy_bool ?_
        by_cases e : a = m
        · rw [if_pos e] at h
          subst e
          simp only [decide_true, if_true]
          refine wpAny_mono (ih hxs I2 h (Q := fun r' s' => match r' with | none => Q none s' | some more => Q (some ([] ++ more)) s') fun s' I' => ?_) (fun _ _ q => q) fun _ _ q => q
          exact k s' I'
        · rw [if_neg e] at h
          cases h
          rw [decide_eq_false (fun z => e (by cases z; rfl))]
          simp only [Bool.false_eq_true, if_false]
          exact (k s2 I2).1 rfl
      | _ => cases h
  | @cap n i pp' ps ips hi hxl hf hp ih =>
    intro xs vs s r Q rv I h k
    cases rv with
    | nil => cases h
    | @cons x v xs vs hx hxs =>
      simp only [eachV, Option.map_eq_some_iff] at h
      obtain ⟨o, h1, h2⟩ := h
      refine wpAny_matchEach_cons (wpAny_matchPattern_Capture ?_)
      refine wpAny_mono (ih hxs I h1 (Q := fun r' s' => match r' with | none => Q none s' | some more => Q (some ([(n, v)] ++ more)) s') fun s' I' => ?_) (fun _ _ q => q) fun _ _ q => q
      refine ⟨fun e => ?_, fun l e bs hb => ?_⟩
      · subst e
        exact (k s' I').1 h2.symm
      · subst e
        exact (k s' I').2 _ h2.symm _ (.cons hi hxl hf hx hb)
theorem BindsR.snoc {l : List (Nat × V)} {bs : List (Str × Value)} (B : BindsR X l bs) {i : Nat} {n : Str} {x : V} {v : Value} (hi : X.N[i]? = some n) (hx : Loc X.env.scope n) (hf : X.fn n = true ∨ X.env.scope.names.lookup n = some .local) (r : RelV x v) : BindsR X (l ++ [(i, x)]) (bs ++ [(n, v)]) := by
  induction B with
  | nil => exact .cons hi hx hf r .nil
  | cons a b c d _ ih => exact .cons a b c d ih
theorem bindAll_snoc (l : List (Nat × V)) (i : Nat) (x : V) : ∀ σ, bindAll σ (l ++ [(i, x)]) = (bindAll σ l).set i (some x) := by
  induction l with
  | nil => intro σ; rfl
  | cons a l ih => intro σ; exact ih _
theorem mc_star {ps : List Pattern} {ips : List IP} {pp pp' : Pos} {body : List Stmt} {rest : List MatchCase} {tb : TS} {tr : TMc} {k j : Nat} {nm : Str} (hc : X.calm = true) (hN : X.N.Nodup) (hp : PatsOk X ps ips) (hb : PSs X body tb) (hr : MC X rest tr) (hk : ps.length = k) (h0 : 0 < k)
    (hj : X.N[j]? = some nm) (hx : Loc X.env.scope nm) (hf : X.fn nm = true ∨ X.env.scope.names.lookup nm = some .local)
    (hstar : (ps ++ [Pattern.MatchStar (some nm) pp']).findIdx? (·.isStar) = some k := by rfl) (hnm : (((ps ++ [Pattern.MatchStar (some nm) pp'])[k]?).elim [] (·.names)).isEmpty = false := by rfl)
    (hwild : ((ps ++ [Pattern.MatchStar (some nm) pp']).all fun p => p.isWildcard || (p.isStar && p.names.isEmpty)) = false := by rfl) :
    MC X (⟨.MatchSequence (ps ++ [Pattern.MatchStar (some nm) pp']) pp, none, body⟩ :: rest) (tMcStar k ips j tb tr) := by
  refine ⟨fun pins s σ H D a xs first I hq h => ?_⟩
  refine wpAny_matchCases_cons ?_
  obtain ⟨its, rv, ht, hz⟩ := I.tuple hq
  have hsz : its.toArray.size = xs.length := by simp [rv.length]
  have hfit : (its.toArray.size : Int) < 2 ^ 63 := by
    rw [sizeLine_eq] at hz
    rw [hsz]
    omega
  unfold tMcStar at h
  refine matchSeq_star ht hfit h0 (by simp [hk]) hstar hnm hwild (fun hl => ?_) fun hl => ?_
  · rw [if_pos (by omega)] at h
    exact hr.run pins _ σ H D a xs false (I.tok _) hq h
  · rw [if_neg (by omega)] at h
    obtain ⟨l, he, hw⟩ := h
    refine unpack_star (I.ok.hd hc) ht hl (by rw [hsz]; exact hz) (by simp [hk]) fun h' tk hkp => ?_
    have I1 : Inv X pins σ H { s with heap := h', toks := tk } := I.kept (t' := tk) hkp
    have hp0 : H h'.objs.size = none := I1.hok.fresh (Nat.le_refl _)
    have I2 : Inv X pins σ (upd H h'.objs.size (.lst (xs.drop k))) { s with heap := h'.push { cls := .type "list", data := .seq (its.toArray.toList.drop k).toArray }, toks := tk } :=
      I1.laid (a := h'.objs.size) (o := .lst (xs.drop k)) (h' := h'.push { cls := .type "list", data := .seq (its.toArray.toList.drop k).toArray }) (t' := tk) (fun b o e => Heap.get?_push_of_some _ e) (Nat.le_refl _)
        ⟨by rw [List.length_drop]; omega, its.drop k, 0, rv.drop k, by rw [List.toList_toArray]; exact Heap.get?_push_size _ rfl⟩
    have rt : Vals (xs.take k) (its.take k) := rv.take k
    rw [List.toList_toArray]
    refine each_star hp rt I2 he fun s' I' => ⟨fun e => (by cases e), fun l2 e bs B => ?_⟩
    cases e
    refine binds_run hN (B.snoc hj hx hf (show RelV (V.ref h'.objs.size) (Value.ref h'.objs.size) from rfl)) I' fun s2 I2 => ?_
    rw [bindAll_snoc] at I2
    exact hb.run pins s2 _ _ D I2 (hw _ hp0)
end
def mcStar (k : Nat) (ips : List IP) (j : Nat) (body : MS) (rest : MMc) : MMc := fun xs env st => if xs.length < k then rest xs env st else match eachM ips (xs.take k) with
  | some (some l) => body ((bindE env l).set j (some (.ref st.length))) (st ++ [.lst (xs.drop k)])
  | _ => .bad
section
variable {X : Cx} {cl : Nat → Addr} {W : WX}
theorem sm_star {ps : List Pattern} {ips : List IP} {pp pp' : Pos} {body : List Stmt} {rest : List MatchCase} {mb : MS} {mr : MMc} {k j : Nat} {nm : Str} (hc : X.calm = true) (hN : X.N.Nodup) (hp : PatsOk X ps ips) (hb : SSs X cl W body mb) (hr : SMc X cl W rest mr) (h0 : 0 < k)
    (hj : X.N[j]? = some nm) (hx : Loc X.env.scope nm) (hf : X.fn nm = true ∨ X.env.scope.names.lookup nm = some .local) (hk : ps.length = k := by rfl)
    (hstar : (ps ++ [Pattern.MatchStar (some nm) pp']).findIdx? (·.isStar) = some k := by rfl) (hnm : (((ps ++ [Pattern.MatchStar (some nm) pp'])[k]?).elim [] (·.names)).isEmpty = false := by rfl)
    (hwild : ((ps ++ [Pattern.MatchStar (some nm) pp']).all fun p => p.isWildcard || (p.isStar && p.names.isEmpty)) = false := by rfl) : SMc X cl W (⟨.MatchSequence (ps ++ [Pattern.MatchStar (some nm) pp']) pp, none, body⟩ :: rest) (mcStar k ips j mb mr) := by
  refine MC.weaken (mc_star hc hN hp hb hr hk h0 hj hx hf hstar hnm hwild) fun xs D σ H ⟨β, us, env, st, rs, re, R, F⟩ => ?_
  unfold mcStar at F
  unfold tMcStar
  rw [rs.length]
  by_cases hl : us.length < k
  · rw [if_pos hl] at F ⊢
    exact ⟨β, us, env, st, rs, re, R, F⟩
  · rw [if_neg hl] at F ⊢
    have ev := each_rv ips (rs.take k)
    split at F
    · rename_i l he
      obtain ⟨l', e1, e2⟩ := ev.2 l he
      refine ⟨l', e1, fun p hp0 => ?_⟩
      have e := Ext.snoc (K := X.K) (β := β) (u := .lst (xs.drop k)) hp0
      refine ⟨β ++ [p], _, _, ((binds_env e2 re).mono e).set (v := .ref st.length) (w := .ref p) ⟨p, by rw [← R.len]; simp, rfl⟩, R.snoc (o := .lst (us.drop k)) hp0 ⟨xs.drop k, upd_same, (rs.drop k).mono e⟩, Fin.weak e F⟩
    · exact F.elim
end
end BH

set_option Elab.async false
set_option linter.all false
set_option maxRecDepth 100000
set_option autoImplicit false
set_option maxHeartbeats 1000000
/-! t[::-1] of a tuple. -/
namespace BH
open PySem PySem.Spec PyProof.Rows L2
section
variable {prog : Program} {w : World} {A : Around} {E : Value → Shared → Prop} {s : Shared}
theorem applied_rev {sl : Addr} {vl vu vs : Value} {n : Nat} {Q : Int × Int × Nat → Shared → Prop} (hs : s.heap.IsSliceOf sl vl vu vs) (pl : IsPart vl none) (pu : IsPart vu none) (ps : IsPart vs (some (-1)))
    (h : Q ((n : Int) - 1, -1, n) s) : wpAny (model prog w) A (Builtin.Slice.sliceApplied (.ref sl) (pure (n : Int))) Q E s := by
  obtain ⟨os, hos, hcs, hds⟩ := id hs
  unfold Builtin.Slice.sliceApplied Builtin.Slice.sliceFields
  refine wpAny_bind (wpAny_bind (wpAny_field hos hds (x := vl) rfl (wpAny_bind (wpAny_field hos hds (x := vu) rfl (wpAny_bind (wpAny_field hos hds (x := vs) rfl (wpAny_pure ?_)))))))
  refine wpAny_bind (HT.slicePart_ ps ?_)
  show wpAny _ _ (if ((-1 : Int) == 0) = true then _ else _) _ _ s
  rw [if_neg (by decide)]
  refine wpAny_bind (HT.slicePart_ pl (wpAny_bind (HT.slicePart_ pu (wpAny_bind (wpAny_pure ?_)))))
  show wpAny _ _ (pure (((n : Int) - 1), (-1 : Int), Builtin.Slice.slicePlaces ((n : Int) - 1) (-1) (-1))) _ _ s
  have e : Builtin.Slice.slicePlaces ((n : Int) - 1) (-1) (-1) = n := by
    unfold Builtin.Slice.slicePlaces
    simp
    omega
  rw [e]
  exact wpAny_pure h
theorem some_ix {α : Type} (g : Nat → Option α) : ∀ (xs : List α) (i : Nat), (∀ (j : Nat) x, xs[j]? = some x → g (i + j) = some x) → (List.range' i xs.length).filterMap g = xs
  | [], i, _ => by simp
  | x :: xs, i, e => by
    have e0 : g i = some x := e 0 x rfl
    rw [List.length_cons, List.range'_succ, List.filterMap_cons, e0, some_ix g xs (i + 1) (fun j y e' => by rw [Nat.add_assoc, Nat.add_comm 1 j]; exact e (j + 1) y e')]
theorem pick_rev (xs : Array Value) : ((List.range xs.size).filterMap fun (m : Nat) => xs[(((xs.size : Int) - 1) + (m : Int) * (-1)).toNat]?) = xs.toList.reverse := by
  have hl : xs.toList.reverse.length = xs.size := by simp
  have := some_ix (fun (m : Nat) => xs[(((xs.size : Int) - 1) + (m : Int) * (-1)).toNat]?) xs.toList.reverse 0 fun j x h => by
    have hj : j < xs.size := by rw [← hl]; exact (List.getElem?_eq_some_iff.mp h).1
    rw [List.getElem?_reverse (by simpa using hj)] at h
    have e : (((xs.size : Int) - 1) + ((0 + j : Nat) : Int) * (-1)).toNat = xs.toList.length - 1 - j := by
      rw [Array.length_toList]
      omega
    show xs[(((xs.size : Int) - 1) + ((0 + j : Nat) : Int) * (-1)).toNat]? = some x
    rw [e, ← h, Array.getElem?_toList]
  rw [hl] at this
  rw [List.range_eq_range']
  exact this
theorem getItem_tuple_rev {t sl : Addr} {items : Array Value} {vl vu vs : Value} {Q : Value → Shared → Prop} (ht : IsTup s.heap t items) (hs : s.heap.IsSliceOf sl vl vu vs) (pl : IsPart vl none) (pu : IsPart vu none) (ps : IsPart vs (some (-1)))
    (h : Q (.ref s.heap.objs.size) { s with heap := s.heap.push { cls := .type "tuple", data := .seq items.toList.reverse.toArray } })
    (hsz : items.size ≤ sizeLine) : wpAny (model prog w) A (getItem (.ref t) (.ref sl)) Q E s := by
  obtain ⟨os, hos, hcs, hds⟩ := id hs
  have hTs : s.TypeIs (.ref sl) "slice" := ⟨os, hos, hcs⟩
  have htk : sizeOk (.seq items.toList.reverse.toArray) := by
    show items.toList.reverse.toArray.size ≤ sizeLine
    simpa using hsz
  unfold getItem
  try with_reducible refine wpAny_holding ?_
  first | refine wpAny_bind (wpAny_pure ?_) | skip
  refine wpAny_bind (wpAny_sequenceKey ht.typeIs (by decide) ?_)
  refine wpAny_bind (wpAny_callSpecial?_slot (name := Str.ofString "__getitem__") ht.typeIs PyProof.Rows.slot_tuple_getitem
    (wpAny_call_entry PyProof.Rows.slot_tuple_getitem ht.typeIs entry_tuple_getitem ?_ (args_tuple_getitem _ _)))
  show wpAny _ _ (Builtin.Tuple.tupleItemsOf (.ref t) >>= _) _ _ s
  refine wpAny_bind (tupleItemsOf_ ht ?_)
  refine wpAny_bind (wpAny_typeOf hTs ?_)
  rw [if_pos (by decide)]
  refine wpAny_bind (applied_rev hs pl pu ps ?_)
  show wpAny _ _ (if (((items.size : Int) - 1) == 0 && (-1 : Int) == 1 && items.size == items.size) = true then _ else _) _ _ s
  rw [if_neg (by simp), pick_rev]
  first
    | exact wpAny_bind (m := Builtin.Tuple.tupleExact _) (wpAny_newObj_type (wpAny_pure ⟨_, rfl, wpAny_pure h⟩) htk)
    | exact wpAny_bind (m := Builtin.Tuple.tupleExact _) (wpAny_newObj_type (wpAny_bind (wpAny_pure (wpAny_pure ⟨_, rfl, wpAny_pure h⟩))) htk)
    | exact wpAny_bind (wpAny_bind (m := Builtin.Tuple.tupleExact _) (wpAny_newObj_type (wpAny_pure (wpAny_pure ⟨_, rfl, wpAny_pure h⟩)) htk))
    | exact wpAny_bind (wpAny_bind (m := Builtin.Tuple.tupleExact _) (wpAny_newObj_type (wpAny_pure ⟨_, rfl, wpAny_pure h⟩) htk))
end
def tRevT (K : PySem.W.Frag) (te : TE) : TE := fun σ H Q => te σ H fun x H1 => ∃ a xs, x = .ref a ∧ SqT K H1 a xs ∧ ∀ p, H1 p = none → Q (.ref p) (upd H1 p (.tup xs.reverse))
section
variable {X : Cx}
theorem pe_revT {e : Expr} {te : TE} {k : Nat} {p1 p2 p3 pos : Pos} (he : PE X e te) : PE X (.Subscript e (.Slice none none (some (.UnaryOp .USub (.Constant (.int 1) k p1) p2)) p3) pos) (tRevT X.K te) := by
  refine ⟨fun pins s σ H Q I h => ?_⟩
  refine Subscript_ (thn (he.run pins s σ H _ I h) fun v s1 ⟨x, H1, I1, r1, q1⟩ => ?_)
  obtain ⟨a, xs, ex, hx, q⟩ := q1
  subst ex
  cases r1
  have step : PO X (some (.UnaryOp .USub (.Constant (.int 1) k p1) p2)) (tPart (tUn (rU fun i => .int (-i)) (tC (.int 1)))) := po_some (pe_un un_neg pe_int)
  refine wpAny_Slice (thn (po_none.run pins s1 σ H1 (fun o H2 => o = none ∧ H2 = H1) I1 ⟨rfl, rfl⟩) fun lo s2 ⟨l, H2, I2, plo, el, e2⟩ => ?_)
  subst el e2
  refine thn (po_none.run pins s2 σ H2 (fun o H3 => o = none ∧ H3 = H2) I2 ⟨rfl, rfl⟩) fun hi s3 ⟨u, H3, I3, phi, eu, e3⟩ => ?_
  subst eu e3
  refine thn (step.run pins s3 σ H3 (fun o H4 => o = some (-1) ∧ H4 = H3) I3 ⟨1, rfl, -1, rfl, rfl, rfl⟩) fun by1 s4 ⟨o, H4, I4, pst, eo, e4⟩ => ?_
  subst eo e4
  have I5 : Inv X pins σ H4 { s4 with heap := s4.heap.push { cls := .type "slice", data := .fields #[lo, hi, by1] } } := I4.kept (t' := s4.toks) fun b ob z => Heap.get?_push_of_some _ z
  obtain ⟨its, r, ht, hz⟩ := I5.tuple hx
  show wpAny (model X.prog X.w) X.A (subscriptTail e (.Slice none none (some (.UnaryOp .USub (.Constant (.int 1) k p1) p2)) p3) (.ref a) (.ref s4.heap.objs.size)) (EP X pins σ Q) X.xe _
  refine tail_any (ops := [.ref a, .ref s4.heap.objs.size]) ht.typeIs PyProof.Rows.slot_tuple_getitem.lookup ?_ (by with_unfolding_all rfl)
  refine getItem_tuple_rev ht (Heap.IsSliceOf.new _ lo hi by1) plo phi pst ?_ (by rw [List.size_toArray, ← r.length]; exact hz)
  refine ⟨.ref _, _, I5.laid (t' := s4.toks) (o := .tup xs.reverse) (fun b ob z => Heap.get?_push_of_some _ z) (Nat.le_refl _) ?_, rfl, q _ (I5.hok.fresh (Nat.le_refl _))⟩
  exact ⟨by rw [List.length_reverse]; exact hz, _, r.reverse, IsTup.new _ _⟩
end
def gRevT : MV → M MV
  | .tup xs, st => .ok (.tup xs.reverse) st
  | _, _ => .bad
section
variable {X : Cx} {cl : Nat → Addr} {W : WX} {e : Expr} {m : ME} {k : Nat} {p1 p2 p3 pos : Pos}
theorem se_revT (he : SE X cl W e m) : SE X cl W (.Subscript e (.Slice none none (some (.UnaryOp .USub (.Constant (.int 1) k p1) p2)) p3) pos) (mUn gRevT m) := by
  refine PE.weaken (pe_revT he) fun σ H Q ⟨β, env, st, re, R, F⟩ => ?_
  refine tM_bind re R F fun x w β1 H1 st1 e1 rw re1 R1 F1 => ?_
  unfold gRevT at F1
  split at F1
  · rename_i xs _
    obtain ⟨p, ys, rfl, hs, h2⟩ := rw.tup_of
    exact ⟨p, ys, rfl, hs, fun q hq => fin_tup F1 R1 h2.reverse hq⟩
  · exact F1.elim
end
end BH

set_option Elab.async false
set_option linter.all false
set_option maxRecDepth 100000
set_option autoImplicit false
set_option maxHeartbeats 1000000
/-! for .. in reversed(a list or a tuple). -/
namespace BH
open PySem PySem.Spec PyProof.Rows L2 RT
def srcRev (a n : Nat) : Src := ⟨fun i st => (itemsOf st (.ref a)).bind fun xs => if i < n then (xs[n - 1 - i]?).map some else some none, n⟩
def revOf (v : MV) : M Src := fun st => match v with
  | .tup xs => .ok (srcItems xs.reverse) st
  | .ref a => match itemsOf st (.ref a) with
    | some xs => .ok (srcRev a xs.length) st
    | none => .bad
  | _ => .bad
def iRevM (m : ME) : MIter := fun env st => (m env st).bind revOf
section
variable {K : PySem.W.Frag} {cl : Nat → Addr} {β : List Addr} {H : Hp}
theorem rsrc_rev {a n : Nat} {p : Addr} (hp : β[a]? = some p) : RSrc K cl β H (srcRev a n) (Itv K p n) := by
  intro i β1 H1 st1 e R
  show match (itemsOf st1 (.ref a)).bind fun xs => if i < n then (xs[n - 1 - i]?).map some else some none with
    | none => True
    | some none => (Itv K p n).stop i H1
    | some (some x) => (Itv K p n).go i H1 ∧ ∀ w H2, (Itv K p n).yld i H1 w H2 → Ext K β1 β1 H1 H2 ∧ RSt K cl β1 st1 H2 ∧ RV K β1 H2 x w
  cases hx : itemsOf st1 (.ref a) with
  | none => trivial
  | some xs =>
    obtain ⟨ys, hs, h1⟩ := itemsL R (e.pre _ _ hp) hx
    rw [Option.bind_some]
    by_cases hi : i < n
    · rw [if_pos hi]
      cases hy : xs[n - 1 - i]? with
      | none => trivial
      | some x =>
        obtain ⟨y, hz, ry⟩ := h1.get hy
        refine ⟨⟨hi, ys, y, hs, hz⟩, fun w H2 yl => ?_⟩
        obtain ⟨rfl, yl⟩ := yl
        have q := yl ys hs
        rw [hz] at q
        cases q
        exact ⟨.refl, R, ry⟩
    · rw [if_neg hi]
      exact Nat.le_of_not_lt hi
theorem rsrc_revT {p : Addr} {xs : List MV} {ys : List V} (hs : SqT K H p ys) (h : RVs K β H xs ys) : RSrc K cl β H (srcItems xs.reverse) (ItvT K p ys.length) := by
  intro i β1 H1 st1 e R
  have hs1 := e.tup _ _ hs
  have h1 := h.mono e
  have hl := h.length
  show match some xs.reverse[i]? with
    | none => True
    | some none => (ItvT K p ys.length).stop i H1
    | some (some x) => (ItvT K p ys.length).go i H1 ∧ ∀ w H2, (ItvT K p ys.length).yld i H1 w H2 → Ext K β1 β1 H1 H2 ∧ RSt K cl β1 st1 H2 ∧ RV K β1 H2 x w
  by_cases hi : i < xs.length
  · rw [List.getElem?_reverse hi]
    obtain ⟨x, hx⟩ : ∃ x, xs[xs.length - 1 - i]? = some x := ⟨xs[xs.length - 1 - i]'(by omega), by simp⟩
    rw [hx]
    obtain ⟨y, hy, ry⟩ := h1.get hx
    have hy' : ys[ys.length - 1 - i]? = some y := by rw [hl]; exact hy
    refine ⟨⟨by omega, ys, y, hs1, hy'⟩, fun w H2 yl => ?_⟩
    obtain ⟨rfl, yl⟩ := yl
    have q := yl ys hs1
    rw [hy'] at q
    cases q
    exact ⟨.refl, R, ry⟩
  · rw [List.getElem?_eq_none (by simpa using hi)]
    exact (show ys.length ≤ i by omega)
end
section
variable {X : Cx} {cl : Nat → Addr} {W : WX} {tg e : Expr} {m : ME} {p pos : Pos}
theorem si_rev (hg : Gl X "reversed") (hm : X.mg "reversed" = none) (he : SE X cl W e m) (hs : starEach [e] X.env = (false, eval e X.env) :: starEach [] X.env := by rfl) : SI X cl W tg (.Call (.Name "reversed" p) [e] [] pos) (iRevM m) := by
  refine PI.weaken (pi_revA hg hm he hs) fun σ H Rr ⟨β, env, st, re, R, F⟩ => ?_
  refine tM_bind re R F fun x w β1 H1 st1 e1 rw re1 R1 F1 => ?_
  unfold revOf at F1
  split at F1
  · rename_i xs
    obtain ⟨q, ys, rfl, hs, h2⟩ := rw.tup_of
    exact ⟨q, ys, rfl, .inr ⟨hs, F1.at .refl R1 _ (rsrc_revT hs h2)⟩⟩
  · rename_i a
    obtain ⟨q, hq, rfl⟩ := rw.ref_of
    split at F1
    · rename_i xs hx
      obtain ⟨ys, hs, h1⟩ := itemsL R1 hq hx
      refine ⟨q, ys, rfl, .inl ⟨hs, ?_⟩⟩
      rw [h1.length]
      exact F1.at .refl R1 _ (rsrc_rev hq)
    · exact F1.elim
  · exact F1.elim
end
end BH

set_option Elab.async false
set_option linter.all false
set_option maxRecDepth 100000
set_option autoImplicit false
set_option maxHeartbeats 1000000
/-! t[::-1].index(x) of a tuple of texts. -/
namespace BH
open PySem PySem.Spec PyProof.Rows L2
section
variable {X : Cx}
/-- e[::-1], and that the new tuple has no dict of its own -/
theorem rev_new {e : Expr} {te : TE} {k : Nat} {p1 p2 p3 pos : Pos} (he : PE X e te) {pins : List (Addr × Obj)} {s : Shared} {σ : L2.St} {H : Hp} {R : Value → Shared → Prop} {G : VK} (I : Inv X pins σ H s) (h : te σ H G)
    (hG : ∀ x H1, G x H1 → ∃ a xs, x = .ref a ∧ SqT X.K H1 a xs ∧ ∀ p s1, H1 p = none → Inv X pins σ (upd H1 p (.tup xs.reverse)) s1 → s1.TypeIs (.ref p) "tuple" → (∃ ob, s1.heap.get? p = some ob ∧ ob.dict = none) → R (.ref p) s1) :
    wpAny (model X.prog X.w) X.A (eval (.Subscript e (.Slice none none (some (.UnaryOp .USub (.Constant (.int 1) k p1) p2)) p3) pos) X.env) R X.xe s := by
  refine Subscript_ (thn (he.run pins s σ H _ I h) fun v s1 ⟨x, H1, I1, r1, q1⟩ => ?_)
  obtain ⟨a, xs, ex, hx, q⟩ := hG x H1 q1
  subst ex
  cases r1
  have step : PO X (some (.UnaryOp .USub (.Constant (.int 1) k p1) p2)) (tPart (tUn (rU fun i => .int (-i)) (tC (.int 1)))) := po_some (pe_un un_neg pe_int)
  refine wpAny_Slice (thn (po_none.run pins s1 σ H1 (fun o H2 => o = none ∧ H2 = H1) I1 ⟨rfl, rfl⟩) fun lo s2 ⟨l, H2, I2, plo, el, e2⟩ => ?_)
  subst el e2
  refine thn (po_none.run pins s2 σ H2 (fun o H3 => o = none ∧ H3 = H2) I2 ⟨rfl, rfl⟩) fun hi s3 ⟨u, H3, I3, phi, eu, e3⟩ => ?_
  subst eu e3
  refine thn (step.run pins s3 σ H3 (fun o H4 => o = some (-1) ∧ H4 = H3) I3 ⟨1, rfl, -1, rfl, rfl, rfl⟩) fun by1 s4 ⟨o, H4, I4, pst, eo, e4⟩ => ?_
  subst eo e4
  have I5 : Inv X pins σ H4 { s4 with heap := s4.heap.push { cls := .type "slice", data := .fields #[lo, hi, by1] } } := I4.kept (t' := s4.toks) fun b ob z => Heap.get?_push_of_some _ z
  obtain ⟨its, r, ht, hz⟩ := I5.tuple hx
  show wpAny (model X.prog X.w) X.A (subscriptTail e (.Slice none none (some (.UnaryOp .USub (.Constant (.int 1) k p1) p2)) p3) (.ref a) (.ref s4.heap.objs.size)) R X.xe _
  refine tail_any (ops := [.ref a, .ref s4.heap.objs.size]) ht.typeIs PyProof.Rows.slot_tuple_getitem.lookup ?_ (by with_unfolding_all rfl)
  refine getItem_tuple_rev ht (Heap.IsSliceOf.new _ lo hi by1) plo phi pst ?_ (by rw [List.size_toArray, ← r.length]; exact hz)
  refine q _ _ (I5.hok.fresh (Nat.le_refl _)) (I5.laid (t' := s4.toks) (o := .tup xs.reverse) (fun b ob z => Heap.get?_push_of_some _ z) (Nat.le_refl _) ⟨by rw [List.length_reverse]; exact hz, _, r.reverse, IsTup.new _ _⟩) ⟨_, Heap.get?_push_size _ rfl, rfl⟩ ⟨_, Heap.get?_push_size _ rfl, rfl⟩
def tRevIx (K : PySem.W.Frag) (te ty : TE) : TE := fun σ H Q => te σ H fun x H1 => ∃ a, ∃ ys : List Str, x = .ref a ∧ SqT K H1 a (ys.map V.str) ∧ ∀ p, H1 p = none → ty σ (upd H1 p (.tup (ys.reverse.map V.str))) fun y H2 => ∃ z, ∃ j : Nat, y = .str z ∧ SqT K H2 p (ys.reverse.map V.str) ∧ ys.reverse[j]? = some z ∧ (∀ m, m < j → ys.reverse[m]? ≠ some z) ∧ Q (.int (j : Nat)) H2
theorem pe_revIx {e f : Expr} {te ty : TE} {k : Nat} {p1 p2 p3 pos apos cpos : Pos} (he : PE X e te) (hf : PE X f ty) (m : M1 X (.Subscript e (.Slice none none (some (.UnaryOp .USub (.Constant (.int 1) k p1) p2)) p3) pos) "index" apos f cpos) :
    PE X (.Call (.Attribute (.Subscript e (.Slice none none (some (.UnaryOp .USub (.Constant (.int 1) k p1) p2)) p3) pos) "index" apos) [f] [] cpos) (tRevIx X.K te ty) := by
  refine ⟨fun pins s σ H Q I h => ?_⟩
  refine wpAny_Call_method m.base m.few m.line PySem.F.plainAttrs_tuple PySem.F.slot_tuple_index PySem.F.type_tuple_index (rev_new he I h fun x H1 g => ?_)
  obtain ⟨a, ys, ex, hq, g⟩ := g
  refine ⟨a, _, ex, hq, fun p s1 hp I1 ty1 hd => ⟨ty1, fun b eb => ?_, ?_⟩⟩
  · cases eb
    exact hd
  · rw [m.trees]
    have er : (ys.map V.str).reverse = ys.reverse.map V.str := by rw [List.map_reverse]
    rw [er] at I1
    refine Calls.callWith_builtin rfl (Calls.evalArgs_plain (Calls.spliced_cons (thn (hf.run pins s1 σ _ _ I1 (g p hp)) fun iv s2 ⟨y, H2, I2, ry, z, j, ey, hq2, hj, hno, q2⟩ => Calls.spliced_nil ?_)))
    subst ey
    exact mt_tup_index pins s2 σ H2 (.ref p) [.str z] (.ref p) [iv] Q I2 rfl (.cons ry .nil) ⟨p, ys.reverse, z, j, rfl, rfl, hq2, hj, hno, q2⟩
end
def optStrs : List MV → Option (List Str)
  | [] => some []
  | .str x :: r => (optStrs r).map (x :: ·)
  | _ => none
def idxS : List Str → Str → Option Nat
  | [], _ => none
  | y :: ys, z => if y = z then some 0 else (idxS ys z).map (· + 1)
theorem idxS_ok : ∀ (ys : List Str) (z : Str) (j : Nat), idxS ys z = some j → ys[j]? = some z ∧ ∀ m, m < j → ys[m]? ≠ some z
  | [], _, _, h => by cases h
  | y :: ys, z, j, h => by
    unfold idxS at h
    by_cases e : y = z
    · rw [if_pos e] at h
      cases h
      exact ⟨by rw [← e]; rfl, fun m hm => absurd hm (Nat.not_lt_zero m)⟩
    · rw [if_neg e, Option.map_eq_some_iff] at h
      obtain ⟨i, h1, rfl⟩ := h
      obtain ⟨h2, h3⟩ := idxS_ok ys z i h1
      refine ⟨h2, fun m hm => ?_⟩
      cases m with
      | zero => exact fun q => e (Option.some.inj q)
      | succ m => exact h3 m (by omega)
theorem optStrs_rv {K : PySem.W.Frag} {β : List Addr} {H : Hp} : ∀ {xs : List MV} {bs : List Str} {ys : List V}, optStrs xs = some bs → RVs K β H xs ys → ys = bs.map V.str
  | [], _, _, h, r => by cases h; exact r
  | x :: xs, bs, _, h, ⟨y, r, rfl, h1, h2⟩ => by
    cases x with
    | str a =>
      simp only [optStrs, Option.map_eq_some_iff] at h
      obtain ⟨b, hb, rfl⟩ := h
      obtain rfl : y = V.str a := h1
      rw [optStrs_rv hb h2]
      rfl
    | _ => cases h
def mRevIx (a b : ME) : ME := fun env st => (a env st).bind fun x s1 => match x with
  | .tup xs => match optStrs xs with
    | some ys => (b env s1).bind fun y s2 => match y with
      | .str z => match idxS ys.reverse z with
        | some j => .ok (.int (j : Nat)) s2
        | none => .bad
      | _ => .bad
    | none => .bad
  | _ => .bad
section
variable {X : Cx} {cl : Nat → Addr} {W : WX} {e f : Expr} {me mf : ME} {k : Nat} {p1 p2 p3 pos apos cpos : Pos}
theorem se_revIx (m : M1 X (.Subscript e (.Slice none none (some (.UnaryOp .USub (.Constant (.int 1) k p1) p2)) p3) pos) "index" apos f cpos) (he : SE X cl W e me) (hf : SE X cl W f mf) :
    SE X cl W (.Call (.Attribute (.Subscript e (.Slice none none (some (.UnaryOp .USub (.Constant (.int 1) k p1) p2)) p3) pos) "index" apos) [f] [] cpos) (mRevIx me mf) := by
  refine PE.weaken (pe_revIx he hf m) fun σ H Q ⟨β, env, st, re, R, F⟩ => ?_
  refine tM_bind re R F fun x w β1 H1 st1 e1 rw re1 R1 F1 => ?_
  split at F1
  · rename_i xs
    split at F1
    · rename_i ys hys
      obtain ⟨q, zs, rfl, hs, h2⟩ := rw.tup_of
      rw [optStrs_rv hys h2] at hs
      refine ⟨q, ys, rfl, hs, fun p hp => ?_⟩
      have ex : Ext X.K β1 β1 H1 (upd H1 p (.tup (ys.reverse.map V.str))) := .upd (.inl hp)
      refine tM_bind (re1.mono ex) (R1.side hp) (Fin.weak ex F1) fun y w2 β2 H2 st2 e2 rw2 re2 R2 F2 => ?_
      split at F2
      · rename_i z
        split at F2
        · rename_i j hj
          obtain ⟨g1, g2⟩ := idxS_ok _ _ _ hj
          cases rw2.str_of
          exact ⟨z, j, rfl, e2.tup _ _ (SqT.of upd_same), g1, g2, fin_val F2 R2 (show _ = _ from rfl)⟩
        · exact F2.elim
      · exact F2.elim
    · exact F1.elim
  · exact F1.elim
end
end BH

set_option Elab.async false
set_option linter.all false
set_option maxRecDepth 100000
set_option autoImplicit false
set_option maxHeartbeats 1000000
/-! {'a': 1, ..}: a display of texts and ints that are written. -/
namespace BH
open PySem PySem.Spec PyProof.Rows L2
def mergeM (kvs more : List (L2.Key × MV)) : List (L2.Key × MV) := more.foldl (fun acc kv => putKM acc kv.1 kv.2) kvs
def mDC (kvs : List (Str × Int)) : ME := fun _ st => .ok (.ref st.length) (st ++ [.dct (mergeM [] (kvs.map fun kv => (.inr kv.1, .int kv.2)))])
section
variable {K : PySem.W.Frag} {β : List Addr} {H : Hp}
theorem merge_rv : ∀ (kvs : List (Str × Int)) {xs : List (L2.Key × MV)} {ys : List (L2.Key × V)}, RDs K β H xs ys → RDs K β H (mergeM xs (kvs.map fun kv => (.inr kv.1, .int kv.2))) (mergeK ys (kvs.map fun kv => (.inr kv.1, .int kv.2)))
  | [], _, _, h => h
  | kv :: kvs, xs, ys, h => merge_rv kvs (h.put (k := .inr kv.1) (v := .int kv.2) (w := .int kv.2) rfl)
theorem upd_twice {p : Addr} {a b : HO} : upd (upd H p a) p b = upd H p b := by
  funext q
  by_cases e : q = p
  · subst e
    rw [upd_same, upd_same]
  · rw [upd_ne e, upd_ne e, upd_ne e]
theorem tPairs_c (σ : L2.St) : ∀ (kvs : List (Str × Int)) {H : Hp} {G : List (V × V) → Hp → Prop}, G (kvs.map fun kv => (V.str kv.1, V.int kv.2)) H → tPairs (kvs.map fun kv => (tC (.str kv.1), tC (.int kv.2))) σ H G
  | [], _, _, h => h
  | kv :: kvs, _, _, h => tPairs_c σ kvs h
end
section
variable {X : Cx} {cl : Nat → Addr} {W : WX}
theorem se_disp {pos : Pos} {keys : List (Option Expr)} {values : List Expr} {kvs : List (Str × Int)} (h : PPs X pos keys values (kvs.map fun kv => (tC (.str kv.1), tC (.int kv.2)))) (hk : kvs.length ≤ 15) (hall : keys.all (·.isSome) = true := by rfl) (hl : keys.length = values.length := by rfl) (h0 : keys ≠ [] := by exact List.cons_ne_nil _ _)
    (h15 : keys.length ≤ 15 := by decide) : SE X cl W (.Dict keys values pos) (mDC kvs) := by
  refine PE.weaken (pe_disp h hall hl h0 h15) fun σ H Q ⟨β, env, st, re, R, F⟩ p hp => ?_
  refine tPairs_c σ kvs ?_
  refine ⟨upd_same, kvs.map fun kv => (.inr kv.1, .int kv.2), ?_, by rw [List.length_map]; exact hk, ?_⟩
  · rw [List.map_map]
    rfl
  · rw [upd_twice]
    exact fin_dnew F R (merge_rv kvs (xs := []) (ys := []) rfl) hp
end
end BH

set_option Elab.async false
namespace BH
end BH

set_option Elab.async false
set_option linter.all false
set_option maxRecDepth 100000
set_option autoImplicit false
/-! Reckoning with the plain machine. -/
namespace BH
open PySem
section
variable (i j : Nat) (v w : MV) (env : BH.Env) (st : Mst) (g g' : MV → MV → M MV) (a b c : ME) (r : MA) (t t' : MT) (p q : MS)
@[simp] theorem mVar_ap : mVar i env st = getO env[i]? st := (rfl)
@[simp] theorem mC_ap : mC v env st = .ok v st := (rfl)
@[simp] theorem mBin_ap : mBin g a b env st = (a env st).bind fun x s1 => (b env s1).bind fun y s2 => g x y s2 := (rfl)
@[simp] theorem mUn_ap (g : MV → M MV) : mUn g a env st = (a env st).bind fun x s1 => g x s1 := (rfl)
@[simp] theorem mTest_ap : mTest a env st = (a env st).bind toB := (rfl)
@[simp] theorem mTru_ap : mTru a env st = (a env st).bind truM := (rfl)
@[simp] theorem truM_bl (b : Bool) : truM (.bl b) st = .ok b st := (rfl)
@[simp] theorem mNil_ap : mNil env st = .ok [] st := (rfl)
@[simp] theorem mCons_ap : mCons a r env st = (a env st).bind fun x s1 => (r env s1).bind fun xs s2 => .ok (x :: xs) s2 := (rfl)
@[simp] theorem mTup_ap : mTup r env st = (r env st).bind fun xs s1 => if xs.length ≤ 16777216 then .ok (.tup xs) s1 else .bad := (rfl)
@[simp] theorem mLst_ap : mLst r env st = (r env st).bind fun xs s1 => newL xs s1 := (rfl)
@[simp] theorem mCallB_ap (g : List MV → M MV) : mCallB g r env st = (r env st).bind g := (rfl)
@[simp] theorem mCallF_ap (g : List MV → M MV) (ds : List MV) : mCallF g r ds env st = (r env st).bind fun vs s1 => g (vs ++ ds) s1 := (rfl)
@[simp] theorem mAnd_ap : mAnd t t' env st = (t env st).bind fun c s1 => if c = true then t' env s1 else .ok false s1 := (rfl)
@[simp] theorem mOr_ap : mOr t t' env st = (t env st).bind fun c s1 => if c = true then .ok true s1 else t' env s1 := (rfl)
@[simp] theorem mNot_ap : mNot t env st = (t env st).bind fun c s1 => .ok (!c) s1 := (rfl)
@[simp] theorem mIf_ap : mIf t a b env st = (t env st).bind fun k s1 => if k = true then a env s1 else b env s1 := (rfl)
@[simp] theorem mAndV_ap : mAndV a b env st = (a env st).bind fun v s1 => (toB v s1).bind fun c s2 => if c = true then b env s2 else .ok (.bl false) s2 := (rfl)
@[simp] theorem mOrV_ap : mOrV a b env st = (a env st).bind fun v s1 => (toB v s1).bind fun c s2 => if c = true then .ok (.bl true) s2 else b env s2 := (rfl)
@[simp] theorem mNotV_ap : mNotV a env st = (a env st).bind fun v s1 => (truM v s1).bind fun c s2 => .ok (.bl (!c)) s2 := (rfl)
@[simp] theorem mChain_ap : mChain g g' a b c env st = (a env st).bind fun x s1 => (b env s1).bind fun y s2 => (g x y s2).bind fun z s3 => (toB z s3).bind fun k s4 => if k = true then (c env s4).bind fun w s5 => g' y w s5 else .ok (.bl false) s4 := (rfl)
@[simp] theorem mNoPart_ap : mNoPart env st = .ok none st := (rfl)
@[simp] theorem mPart_ap : mPart a env st = (a env st).bind fun v s1 => match v with | .int i => .ok (some i) s1 | _ => .bad := (rfl)
@[simp] theorem mSl_ap (l h : MP) : mSl a l h env st = (a env st).bind fun x s1 => (l env s1).bind fun lo s2 => (h env s2).bind fun hi s3 => gSl x lo hi s3 := (rfl)
@[simp] theorem mFld_ap (cs : List Nat) (f : Str) : mFld cs f a env st = (a env st).bind fun x s1 => getF cs f x s1 := (rfl)
@[simp] theorem mMeth_ap (k : Nat) (mt : Str) (fm : List MV → M MV) (ds : List MV) : mMeth k mt fm a r ds env st = (a env st).bind fun x s1 => if clsOf k mt x s1 = true then (r env s1).bind fun vs s2 => fm (x :: (vs ++ ds)) s2 else .bad := (rfl)
@[simp] theorem mBM_ap (T : String) (g : MV → List MV → M MV) : mBM T g a r env st = (a env st).bind fun x s1 => if tyM T x s1 = true then (r env s1).bind fun vs s2 => g x vs s2 else .bad := (rfl)
@[simp] theorem mMake_ap (k : Nat) (init : List MV → M MV) (ds : List MV) : mMake k init r ds env st = (r env st).bind fun vs s1 => (init (.ref s1.length :: (vs ++ ds)) (s1 ++ [.ins k []])).bind fun v s2 => match v with | .non => .ok (.ref s1.length) s2 | _ => .bad := (rfl)
@[simp] theorem mYes_ap : mYes env st = .ok true st := (rfl)
@[simp] theorem sNext_ap : sNext env st = .ok (.nx env) st := (rfl)
@[simp] theorem sBreak_ap : sBreak env st = .ok (.bk env) st := (rfl)
@[simp] theorem sCont_ap : sCont env st = .ok (.ct env) st := (rfl)
@[simp] theorem sBad_ap : sBad env st = .bad := (rfl)
@[simp] theorem sSeq_ap : sSeq p q env st = (p env st).bind fun fl s1 => match fl with | .nx env1 => q env1 s1 | fl => .ok fl s1 := (rfl)
@[simp] theorem sExpr_ap : sExpr a env st = bindX env (a env st) fun _ s1 => .ok (.nx env) s1 := (rfl)
@[simp] theorem sRet_ap : sRet a env st = bindX env (a env st) fun v s1 => .ok (.rt v) s1 := (rfl)
@[simp] theorem sRetN_ap : sRetN env st = .ok (.rt .non) st := (rfl)
@[simp] theorem sIf_ap : sIf t p q env st = bindX env (t env st) fun k s1 => if k = true then p env s1 else q env s1 := (rfl)
@[simp] theorem gtName_ap : gtName i v env st = .ok (env.set i (some v)) st := (rfl)
@[simp] theorem gtNil_ap : gtNil [] env st = .ok env st := (rfl)
@[simp] theorem gtCons_ap (x : MG) (y : MGs) (vs : List MV) : gtCons x y (v :: vs) env st = (x v env st).bind fun env1 s1 => y vs env1 s1 := (rfl)
@[simp] theorem gtTup_ap (n : Nat) (y : MGs) (xs : List MV) : gtTup n y (.tup xs) env st = if xs.length = n then y xs env st else .bad := (rfl)
@[simp] theorem gtSub_ap : gtSub a b v env st = (noX (a env st)).bind fun ov s1 => (noX (b env s1)).bind fun iv s2 => (gSetIx ov iv v s2).bind fun _ s3 => .ok env s3 := (rfl)
@[simp] theorem noX_ok {α : Type} (x : α) : noX (.ok x st) = .ok x st := (rfl)
@[simp] theorem sAsg_ap (x : MG) : sAsg a x env st = bindX env (a env st) fun v s1 => (x v env s1).bind fun env1 s2 => .ok (.nx env1) s2 := (rfl)
@[simp] theorem sAug_ap : sAug i g a env st = match env[i]? with
  | some (some x) => bindX env (a env st) fun y s1 => (g x y s1).bind fun z s2 => .ok (.nx (env.set i (some z))) s2
  | _ => .bad := (rfl)
@[simp] theorem sFldM_ap (cs : List Nat) (f : Str) : sFldM cs f a b env st = bindX env (b env st) fun y s1 => bindX env (a env s1) fun x s2 => (putFM cs f x y s2).bind fun _ s3 => .ok (.nx env) s3 := (rfl)
@[simp] theorem sFldAugM_ap (k : Nat) (f : Str) : sFldAugM k f g a b env st = bindX env (a env st) fun x s1 => (getF [k] f x s1).bind fun old s2 => bindX env (b env s2) fun y s3 => (g old y s3).bind fun z s4 => (putFM [k] f x z s4).bind fun _ s5 => .ok (.nx env) s5 := (rfl)
@[simp] theorem sFor_ap (mi : MIter) (x : MG) : sFor mi x p env st = bindX env (mi env st) fun src s1 => forL src x p (src.size + 1) 0 env s1 := (rfl)
@[simp] theorem iRange1_ap : iRange1 r env st = (r env st).bind rngOf1 := (rfl)
@[simp] theorem iRange2_ap : iRange2 r env st = (r env st).bind rngOf2 := (rfl)
@[simp] theorem iOf_ap : iOf a env st = (a env st).bind srcOf := (rfl)
@[simp] theorem iEnumM_ap : iEnumM a env st = (a env st).bind fun v s1 => (srcSeq v s1).bind fun src s2 => .ok (srcEnum src) s2 := (rfl)
theorem fnM_ap (N n : Nat) (us : List MV) (h : us.length = n) : fnM N n p us st = finB (p (us.map some ++ List.replicate (N - n) none) st) := by unfold fnM; rw [if_pos h]
end
section
variable (i j : Int) (x y : Str) (st : Mst) (xs ys : List MV) (a b : Nat)
@[simp] theorem gAdd_int : gAdd (.int i) (.int j) st = .ok (.int (i + j)) st := (rfl)
@[simp] theorem gSub_int : gSub (.int i) (.int j) st = .ok (.int (i - j)) st := (rfl)
theorem gMul_l (h : small64 i = true) : gMul (.int i) (.int j) st = .ok (.int (i * j)) st := by simp [gMul, h]
theorem gMul_r (h : small64 j = true) : gMul (.int i) (.int j) st = .ok (.int (i * j)) st := by simp [gMul, h]
theorem gMod_int (h : 0 < j) : gMod (.int i) (.int j) st = .ok (.int (i % j)) st := by simp [gMod, h]
theorem gDiv_int (h : 0 < j ∧ j < 1073741824) : gDiv (.int i) (.int j) st = .ok (.int (i / j)) st := by simp [gDiv, h]
@[simp] theorem gLt_int : gLt (.int i) (.int j) st = .ok (.bl (decide (i < j))) st := (rfl)
@[simp] theorem gLe_int : gLe (.int i) (.int j) st = .ok (.bl (decide (i ≤ j))) st := (rfl)
@[simp] theorem gGt_int : gGt (.int i) (.int j) st = .ok (.bl (decide (j < i))) st := (rfl)
@[simp] theorem gGe_int : gGe (.int i) (.int j) st = .ok (.bl (decide (j ≤ i))) st := (rfl)
@[simp] theorem gIAdd_int : gIAdd (.int i) (.int j) st = .ok (.int (i + j)) st := (rfl)
@[simp] theorem gInt_int : gInt [.int i] st = .ok (.int i) st := (rfl)
@[simp] theorem gInt_bl (k : Bool) : gInt [.bl k] st = .ok (.int (if k then 1 else 0)) st := (rfl)
@[simp] theorem gAbs_int : gAbs [.int i] st = .ok (.int (if i < 0 then -i else i)) st := (rfl)
@[simp] theorem ofString_inj (s t : String) : (Str.ofString s = Str.ofString t) ↔ s = t := by
  rw [Str.ofString_eq_toList, Str.ofString_eq_toList]
  constructor
  · intro h
    have h1 : s.toList.map Char.toNat = t.toList.map Char.toNat := by simpa using h
    have h2 : ∀ (l m : List Char), l.map Char.toNat = m.map Char.toNat → l = m := by
      intro l
      induction l with
      | nil => intro m h; cases m with
        | nil => rfl
        | cons a b => cases h
      | cons a l ih => intro m h; cases m with
        | nil => cases h
        | cons b m =>
          rw [List.map_cons, List.map_cons] at h
          injection h with e1 e2
          rw [ih m e2, Char.toNat_inj.mp e1]
    exact String.toList_inj.mp (h2 _ _ h1)
  · intro h; rw [h]
@[simp] theorem ofString_beq (s t : String) : (Str.ofString s == Str.ofString t) = (s == t) := by
  rw [Bool.eq_iff_iff]
  simp
@[simp] theorem strOk_ofString (s : String) : PyData.strOk (Str.ofString s) = true := by
  rw [Str.ofString_eq_toList]
  unfold PyData.strOk
  simp only [List.all_toArray, List.all_map, List.all_eq_true]
  intro c _
  have h := c.valid
  simp only [Function.comp, decide_eq_true_eq]
  show c.val.toNat < 0x110000
  rcases h with h | h <;> omega
end
section
variable (N : Nat) (p : MS) (st : Mst) (a b c d e : MV)
@[simp] theorem fnM1 : fnM N 1 p [a] st = finB (p ([some a] ++ List.replicate (N - 1) none) st) := (rfl)
@[simp] theorem fnM2 : fnM N 2 p [a, b] st = finB (p ([some a, some b] ++ List.replicate (N - 2) none) st) := (rfl)
@[simp] theorem fnM3 : fnM N 3 p [a, b, c] st = finB (p ([some a, some b, some c] ++ List.replicate (N - 3) none) st) := (rfl)
@[simp] theorem fnM4 : fnM N 4 p [a, b, c, d] st = finB (p ([some a, some b, some c, some d] ++ List.replicate (N - 4) none) st) := (rfl)
@[simp] theorem fnM5 : fnM N 5 p [a, b, c, d, e] st = finB (p ([some a, some b, some c, some d, some e] ++ List.replicate (N - 5) none) st) := (rfl)
end
end BH

set_option Elab.async false
set_option linter.all false
set_option maxRecDepth 100000
set_option autoImplicit false
/-! Rules for loops, places, equality. -/
namespace BH
open PySem PyProof.Rows L2
/-! ### places -/
theorem matI_nat {xs : List MV} {i : Int} {k : Nat} {v : MV} (e : i = (k : Int)) (h : xs[k]? = some v) : matI xs i = some v := by
  have hk : k < xs.length := (List.getElem?_eq_some_iff.mp h).1
  unfold matI mixN
  subst e
  rw [if_pos (by omega), if_pos (by omega)]
  simpa using h
theorem gIx_tup {xs : List MV} {i : Int} {k : Nat} {v : MV} {st : Mst} (e : i = (k : Int)) (h : xs[k]? = some v) : gIx (.tup xs) (.int i) st = .ok v st := by
  simp only [gIx, itemsOf, matI_nat e h]
theorem gIx_lst {xs : List MV} {a : Nat} {i : Int} {k : Nat} {v : MV} {st : Mst} (ha : st[a]? = some (.lst xs)) (e : i = (k : Int)) (h : xs[k]? = some v) : gIx (.ref a) (.int i) st = .ok v st := by
  simp only [gIx, itemsOf, ha, matI_nat e h]
theorem gIx_rol {xs : List MV} {a : Nat} {i : Int} {k : Nat} {v : MV} {st : Mst} (ha : st[a]? = some (.rol xs)) (e : i = (k : Int)) (h : xs[k]? = some v) : gIx (.ref a) (.int i) st = .ok v st := by
  simp only [gIx, itemsOf, ha, matI_nat e h]
theorem mixN_nat {n : Nat} {i : Int} {k : Nat} (e : i = (k : Int)) (h : k < n) : mixN n i = some k := by
  unfold mixN
  subst e
  rw [if_pos (by omega), if_pos (by omega)]
  simp
@[simp] theorem gLen_tup (xs : List MV) (st : Mst) : gLen [.tup xs] st = .ok (.int xs.length) st := rfl
theorem gLen_lst {xs : List MV} {a : Nat} {st : Mst} (ha : st[a]? = some (.lst xs)) : gLen [.ref a] st = .ok (.int xs.length) st := by simp only [gLen, itemsOf, ha]
theorem gLen_rol {xs : List MV} {a : Nat} {st : Mst} (ha : st[a]? = some (.rol xs)) : gLen [.ref a] st = .ok (.int xs.length) st := by simp only [gLen, itemsOf, ha]
@[simp] theorem gTuple_tup (xs : List MV) (st : Mst) : gTuple [.tup xs] st = .ok (.tup xs) st := rfl
theorem gTuple_lst {xs : List MV} {a : Nat} {st : Mst} (ha : st[a]? = some (.lst xs)) : gTuple [.ref a] st = .ok (.tup xs) st := by simp only [gTuple, itemsOf, ha]
theorem gList_tup {xs : List MV} {st : Mst} (h : xs.length ≤ 16777216) : gList [.tup xs] st = .ok (.ref st.length) (st ++ [.lst xs]) := by simp only [gList, itemsOf, newL, if_pos h]
theorem gList_lst {xs : List MV} {a : Nat} {st : Mst} (ha : st[a]? = some (.lst xs)) (h : xs.length ≤ 16777216) : gList [.ref a] st = .ok (.ref st.length) (st ++ [.lst xs]) := by simp only [gList, itemsOf, ha, newL, if_pos h]
theorem gAppend_lst {xs : List MV} {a : Nat} {y : MV} {st : Mst} (ha : st[a]? = some (.lst xs)) (h : xs.length < 16777216) : gAppend (.ref a) [y] st = .ok .non (st.set a (.lst (xs ++ [y]))) := by simp only [gAppend, ha, if_pos h]
theorem tyM_lst {xs : List MV} {a : Nat} {st : Mst} (ha : st[a]? = some (.lst xs)) : tyM "list" (.ref a) st = true := by simp only [tyM, ha]; rfl
theorem gSetIx_lst {xs : List MV} {a : Nat} {i : Int} {k : Nat} {v : MV} {st : Mst} (ha : st[a]? = some (.lst xs)) (e : i = (k : Int)) (h : k < xs.length) : gSetIx (.ref a) (.int i) v st = .ok () (st.set a (.lst (xs.set k v))) := by
  simp only [gSetIx, ha, mixN_nat e h]
theorem getF_ins {a c : Nat} {fs : Mfs} {f : Str} {v : MV} {st : Mst} {cs : List Nat} (ha : st[a]? = some (.ins c fs)) (hc : c ∈ cs) (hf : fs.lookup f = some v) : getF cs f (.ref a) st = .ok v st := by
  simp only [getF, ha, if_pos hc, hf]
theorem putFM_ins {a c : Nat} {fs : Mfs} {f : Str} {v : MV} {st : Mst} {cs : List Nat} (ha : st[a]? = some (.ins c fs)) (hc : c ∈ cs) (hl : fs.length < 900) : putFM cs f (.ref a) v st = .ok () (st.set a (.ins c (mputF f v fs))) := by
  simp only [putFM, ha, if_pos (show c ∈ cs ∧ fs.length < 900 from ⟨hc, hl⟩)]
theorem clsOf_ins {a c : Nat} {fs : Mfs} {f : Str} {st : Mst} (ha : st[a]? = some (.ins c fs)) (hf : fs.lookup f = none) : clsOf c f (.ref a) st = true := by
  simp only [clsOf, ha, hf]
  simp
/-! ### sources -/
theorem srcOf_tup (xs : List MV) (st : Mst) : srcOf (.tup xs) st = .ok (srcItems xs) st := rfl
theorem srcOf_lst {xs : List MV} {a : Nat} {st : Mst} (ha : st[a]? = some (.lst xs)) : srcOf (.ref a) st = .ok (srcList a xs.length) st := by simp only [srcOf, itemsOf, ha]
theorem rngOf1_nat {j : Int} {n : Nat} {st : Mst} (e : j = (n : Int)) (h : n < 4611686018427387904) : rngOf1 [.int j] st = .ok (srcRange 0 n) st := by
  subst e
  simp only [rngOf1]
  rw [if_pos (by omega)]
  simp
theorem rngOf2_nat {i j : Int} {n : Nat} {st : Mst} (e : j - i = (n : Int)) (h1 : 0 ≤ i) (h : j < 4611686018427387904) : rngOf2 [.int i, .int j] st = .ok (srcRange i n) st := by
  simp only [rngOf2]
  rw [if_pos (by omega), e]
  simp
/-! ### for -/
/-- what a turn must do -/
def Turns (I : Env → Mst → Prop) (r : Res Fl) : Prop := ∃ env' st', (r = .ok (.nx env') st' ∨ r = .ok (.ct env') st') ∧ I env' st'
theorem for_rule {src : Src} {g : MG} {body : MS} {n : Nat} (I : Nat → Env → Mst → Prop) (hstop : ∀ env st, I n env st → src.next n st = some none)
    (step : ∀ i env st, i < n → I i env st → ∃ x env1 s1, src.next i st = some (some x) ∧ g x env st = .ok env1 s1 ∧ Turns (I (i + 1)) (body env1 s1)) :
    ∀ (m i : Nat) (env : Env) (st : Mst), i ≤ n → n - i < m → I i env st → ∃ env' st', forL src g body m i env st = .ok (.nx env') st' ∧ I n env' st'
  | 0, i, env, st, _, hm, _ => by omega
  | m + 1, i, env, st, hi, hm, h => by
    by_cases e : i = n
    · subst e
      exact ⟨env, st, by simp only [forL, hstop env st h], h⟩
    · obtain ⟨x, env1, s1, h1, h2, env2, s2, h3, h4⟩ := step i env st (by omega) h
      obtain ⟨env', st', h5, h6⟩ := for_rule I hstop step m (i + 1) env2 s2 (by omega) (by omega) h4
      refine ⟨env', st', ?_, h6⟩
      simp only [forL, h1, h2, Res.bind_ok]
      rcases h3 with h3 | h3
      · simp only [h3, Res.bind_ok, h5]
      · simp only [h3, Res.bind_ok, h5]
theorem for_range {lo : Int} {n : Nat} {g : MG} {body : MS} {env : Env} {st : Mst} (I : Nat → Env → Mst → Prop) (h0 : I 0 env st)
    (step : ∀ i env st, i < n → I i env st → ∃ env1 s1, g (.int (lo + i)) env st = .ok env1 s1 ∧ Turns (I (i + 1)) (body env1 s1)) :
    ∃ env' st', forL (srcRange lo n) g body (n + 1) 0 env st = .ok (.nx env') st' ∧ I n env' st' := by
  refine for_rule I (fun env st _ => by simp [srcRange]) (fun i env st hi h => ?_) (n + 1) 0 env st (Nat.zero_le _) (by omega) h0
  obtain ⟨env1, s1, h1, h2⟩ := step i env st hi h
  exact ⟨_, env1, s1, by simp [srcRange, hi], h1, h2⟩
theorem for_items {xs : List MV} {g : MG} {body : MS} {env : Env} {st : Mst} (I : Nat → Env → Mst → Prop) (h0 : I 0 env st)
    (step : ∀ i x env st, xs[i]? = some x → I i env st → ∃ env1 s1, g x env st = .ok env1 s1 ∧ Turns (I (i + 1)) (body env1 s1)) :
    ∃ env' st', forL (srcItems xs) g body (xs.length + 1) 0 env st = .ok (.nx env') st' ∧ I xs.length env' st' := by
  refine for_rule I (fun env st _ => by simp [srcItems]) (fun i env st hi h => ?_) (xs.length + 1) 0 env st (Nat.zero_le _) (by omega) h0
  have hx : xs[i]? = some xs[i] := by simp [hi]
  obtain ⟨env1, s1, h1, h2⟩ := step i xs[i] env st hx h
  exact ⟨_, env1, s1, by simp [srcItems, hx], h1, h2⟩
theorem for_list {a : Nat} {xs : List MV} {g : MG} {body : MS} {env : Env} {st : Mst} (I : Nat → Env → Mst → Prop) (hr : ∀ i env st, I i env st → itemsOf st (.ref a) = some xs) (h0 : I 0 env st)
    (step : ∀ i x env st, xs[i]? = some x → I i env st → ∃ env1 s1, g x env st = .ok env1 s1 ∧ Turns (I (i + 1)) (body env1 s1)) :
    ∃ env' st', forL (srcList a xs.length) g body (xs.length + 1) 0 env st = .ok (.nx env') st' ∧ I xs.length env' st' := by
  refine for_rule I (fun env st h => by simp only [srcList, hr _ _ _ h]; simp) (fun i env st hi h => ?_) (xs.length + 1) 0 env st (Nat.zero_le _) (by omega) h0
  have hx : xs[i]? = some xs[i] := by simp [hi]
  obtain ⟨env1, s1, h1, h2⟩ := step i xs[i] env st hx h
  exact ⟨_, env1, s1, by simp only [srcList, hr _ _ _ h, Option.map_some, hx], h1, h2⟩
/-! ### comprehensions whose element makes nothing -/
theorem lc_rule {src : Src} {t : Tgt} {test : MT} {elt : ME} {env : Env} {st : Mst} {D n : Nat} (y : Nat → Option MV)
    (hstop : ∀ acc, src.next n (st ++ [.lst acc]) = some none) (hD : D = st.length) (hlen : n < 16777216)
    (step : ∀ i acc, i < n → ∃ x env1, src.next i (st ++ [.lst acc]) = some (some x) ∧ t.put x env = some env1 ∧ match y i with
      | some v => test env1 (st ++ [.lst acc]) = .ok true (st ++ [.lst acc]) ∧ elt env1 (st ++ [.lst acc]) = .ok v (st ++ [.lst acc])
      | none => test env1 (st ++ [.lst acc]) = .ok false (st ++ [.lst acc])) :
    ∀ (m i : Nat) (acc : List MV), i ≤ n → n - i < m → acc.length ≤ i → lcL src t test elt env D m i (st ++ [.lst acc]) = .ok (.ref D) (st ++ [.lst (acc ++ (List.range' i (n - i)).filterMap y)])
  | 0, i, acc, _, hm, _ => by omega
  | m + 1, i, acc, hi, hm, ha => by
    by_cases e : i = n
    · subst e
      simp only [lcL, hstop acc]
      simp
    · obtain ⟨x, env1, h1, h2, h3⟩ := step i acc (by omega)
      have hr : List.range' i (n - i) = i :: List.range' (i + 1) (n - (i + 1)) := by
        rw [show n - i = (n - (i + 1)) + 1 by omega, List.range'_succ]
      cases hy : y i with
      | none =>
        rw [hy] at h3
        simp only [lcL, h1, h2, h3, noX_ok, Res.bind_ok, Bool.false_eq_true, if_false]
        rw [lc_rule y hstop hD hlen step m (i + 1) acc (by omega) (by omega) (by omega), hr, List.filterMap_cons, hy]
      | some v =>
        rw [hy] at h3
        have hl : lappend D v (st ++ [.lst acc]) = .ok () (st ++ [.lst (acc ++ [v])]) := by
          subst hD
          have hg : (st ++ [MO.lst acc])[st.length]? = some (.lst acc) := by simp
          simp only [lappend, hg, if_pos (show acc.length < 16777216 by omega)]
          simp
        simp only [lcL, h1, h2, h3.1, h3.2, noX_ok, Res.bind_ok, if_true, hl]
        rw [lc_rule y hstop hD hlen step m (i + 1) (acc ++ [v]) (by omega) (by omega) (by simp; omega), hr, List.filterMap_cons, hy]
        simp
/-! ### equality -/
mutual
theorem dat_can (st : Mst) : ∀ (n : Nat) (v : MV) (d : PyData), dat st n v = some d → d.canLay0 = true
  | 0, _, _, h => by cases h
  | n + 1, .non, _, h => by cases h; simp [PyData.canLay0]
  | n + 1, .bl b, _, h => by cases h; simp [PyData.canLay0]
  | n + 1, .int b, _, h => by cases h; simp [PyData.canLay0]
  | n + 1, .str b, _, h => by
    simp only [dat] at h
    split at h
    · rename_i ok
      cases h
      simp [PyData.canLay0, ok]
    · cases h
  | n + 1, .tup xs, d, h => by
    simp only [dat, Option.map_eq_some_iff] at h
    obtain ⟨ds, h1, rfl⟩ := h
    simp only [PyData.canLay0]
    exact dats_can st n xs ds (optAll_mem h1)
  | n + 1, .ref a, d, h => by
    simp only [dat] at h
    split at h
    · obtain ⟨ds, h1, rfl⟩ := Option.map_eq_some_iff.mp h
      simp only [PyData.canLay0]
      exact dats_can st n _ ds (optAll_mem h1)
    · obtain ⟨ds, h1, rfl⟩ := Option.map_eq_some_iff.mp h
      simp only [PyData.canLay0]
      exact dats_can st n _ ds (optAll_mem h1)
    · cases h
  | n + 1, .ty _, _, h => by cases h
  termination_by n _ => (n, 0)
theorem dats_can (st : Mst) : ∀ (n : Nat) (xs : List MV) (ds : List PyData), Paired (fun x y => dat st n x = some y) xs ds → PyData.canLayAll0 ds = true
  | n, [], ds, h => by
    cases h
    simp [PyData.canLayAll0]
  | n, x :: xs, ds, h => by
    cases h with
    | cons h1 h2 => simp [PyData.canLayAll0, dat_can st n x _ h1, dats_can st n xs _ h2]
  termination_by n xs => (n, xs.length + 1)
end
theorem gEq_same {x y : MV} {d : PyData} {st : Mst} (h1 : dat st 64 x = some d) (h2 : dat st 64 y = some d) : gEq x y st = .ok (.bl true) st := by
  simp only [gEq, h1, h2, SeqAt.eqv_refl d (dat_can st 64 x d h1)]
theorem gNe_same {x y : MV} {d : PyData} {st : Mst} (h1 : dat st 64 x = some d) (h2 : dat st 64 y = some d) : gNe x y st = .ok (.bl false) st := by
  simp only [gNe, h1, h2, SeqAt.eqv_refl d (dat_can st 64 x d h1)]
  rfl
@[simp] theorem gEq_int (i j : Int) (st : Mst) : gEq (.int i) (.int j) st = .ok (.bl (i == j)) st := by simp [gEq, dat, PyData.eqv]
@[simp] theorem gNe_int (i j : Int) (st : Mst) : gNe (.int i) (.int j) st = .ok (.bl (!(i == j))) st := by simp [gNe, dat, PyData.eqv]
theorem gEq_str {x y : Str} {st : Mst} (hx : PyData.strOk x = true) (hy : PyData.strOk y = true) : gEq (.str x) (.str y) st = .ok (.bl (x == y)) st := by simp [gEq, dat, PyData.eqv, hx, hy]
theorem gNe_str {x y : Str} {st : Mst} (hx : PyData.strOk x = true) (hy : PyData.strOk y = true) : gNe (.str x) (.str y) st = .ok (.bl (!(x == y))) st := by simp [gNe, dat, PyData.eqv, hx, hy]
@[simp] theorem gEq_lit (x y : String) (st : Mst) : gEq (.str (Str.ofString x)) (.str (Str.ofString y)) st = .ok (.bl (x == y)) st := by simp [gEq_str]
@[simp] theorem gNe_lit (x y : String) (st : Mst) : gNe (.str (Str.ofString x)) (.str (Str.ofString y)) st = .ok (.bl (!(x == y))) st := by simp [gNe_str]
theorem optAll_map {α γ δ : Type} {f : α → Option γ} {g : δ → α} {k : δ → γ} (h : ∀ x, f (g x) = some (k x)) : ∀ xs : List δ, optAll f (xs.map g) = some (xs.map k)
  | [] => rfl
  | x :: xs => by simp only [List.map_cons, optAll, h x, optAll_map h xs]
/-- a tuple of ints -/
def itup (xs : List Int) : MV := .tup (xs.map .int)
theorem dat_itup (st : Mst) (n : Nat) (xs : List Int) : dat st (n + 2) (itup xs) = some (.tuple (xs.map .int)) := by
  simp only [itup, dat]
  rw [optAll_map (f := dat st (n + 1)) (g := MV.int) (k := PyData.int) (fun x => rfl)]
  rfl

/-! ### the store -/
theorem up {st g : Mst} {a : Nat} {o : MO} (h : st[a]? = some o) : (st ++ g)[a]? = some o := by
  rw [List.getElem?_append_left (List.getElem?_eq_some_iff.mp h).1]; exact h
theorem lt_of {st : Mst} {a : Nat} {o : MO} (h : st[a]? = some o) : a < st.length := (List.getElem?_eq_some_iff.mp h).1
theorem itemsOf_up {st g : Mst} {v : MV} {xs : List MV} (h : itemsOf st v = some xs) : itemsOf (st ++ g) v = some xs := by
  cases v with
  | tup ys => exact h
  | ref a =>
    simp only [itemsOf] at h ⊢
    split at h
    · rename_i ys ho
      rw [up ho]; exact h
    · rename_i ys ho
      rw [up ho]; exact h
    · cases h
  | _ => exact h
theorem gIx_of {xs : List MV} {v : MV} {i : Int} {k : Nat} {x : MV} {st : Mst} (hv : itemsOf st v = some xs) (e : i = (k : Int)) (h : xs[k]? = some x) : gIx v (.int i) st = .ok x st := by
  cases v with
  | str s => cases hv
  | _ => simp only [gIx, hv, matI_nat e h]
theorem last_snoc {st : Mst} {o : MO} : (st ++ [o])[st.length]? = some o := by simp
theorem set_last {st : Mst} {o o' : MO} : (st ++ [o]).set st.length o' = st ++ [o'] := by simp
/-- a turn that goes on -/
theorem Turns.nx {I : Env → Mst → Prop} {r : Res Fl} {env : Env} {st : Mst} (h : r = .ok (.nx env) st) (hI : I env st) : Turns I r := ⟨env, st, .inl h, hI⟩
end BH

set_option Elab.async false
set_option linter.all false
set_option maxRecDepth 100000
set_option autoImplicit false
namespace BH
open PySem PyProof.Rows L2
section
variable (xs ys : List MV) (i : Int) (k : Nat) (st : Mst)
@[simp] theorem gIx_tup_ap : gIx (.tup xs) (.int i) st = match matI xs i with | some v => .ok v st | none => .bad := (rfl)
theorem gIx_lst_ap {a : Nat} (ha : st[a]? = some (.lst xs)) : gIx (.ref a) (.int i) st = match matI xs i with | some v => .ok v st | none => .bad := by simp only [gIx, itemsOf, ha] <;> rfl
theorem gIx_rol_ap {a : Nat} (ha : st[a]? = some (.rol xs)) : gIx (.ref a) (.int i) st = match matI xs i with | some v => .ok v st | none => .bad := by simp only [gIx, itemsOf, ha] <;> rfl
@[simp] theorem matI_cast : matI xs (k : Int) = xs[k]? := by
  unfold matI mixN
  by_cases h : k < xs.length
  · rw [if_pos (by omega), if_pos (by omega)]; simp
  · rw [if_pos (by omega), if_neg (by omega), List.getElem?_eq_none (by omega)]; rfl
@[simp] theorem matI_zero : matI xs 0 = xs[0]? := matI_cast xs 0
@[simp] theorem matI_one : matI xs 1 = xs[1]? := matI_cast xs 1
@[simp] theorem matI_2 : matI xs 2 = xs[2]? := matI_cast xs 2
@[simp] theorem matI_3 : matI xs 3 = xs[3]? := matI_cast xs 3
theorem matI_eq {j : Int} {n : Nat} (e : j = (n : Int)) : matI xs j = xs[n]? := by rw [e]; exact matI_cast xs n
@[simp] theorem gIn_tup_ap (n : Bool) (x : MV) : gIn n x (.tup ys) st = if mflat x = true ∧ ys.all mflat = true then .ok (.bl (if n then !ys.any (fun z => meq z x) else ys.any (fun z => meq z x))) st else .bad := (rfl)
@[simp] theorem mflat_str (s : Str) : mflat (.str s) = true := (rfl)
@[simp] theorem mflat_int (s : Int) : mflat (.int s) = true := (rfl)
@[simp] theorem meq_str (s t : Str) : meq (.str s) (.str t) = (s == t) := (rfl)
@[simp] theorem meq_int (s t : Int) : meq (.int s) (.int t) = (s == t) := (rfl)
@[simp] theorem gSl_tup_ap (lo hi : Option Int) : gSl (.tup xs) lo hi st = .ok (.tup (mcut xs lo hi)) st := (rfl)
theorem gSl_lst_ap {a : Nat} (ha : st[a]? = some (.lst xs)) (lo hi : Option Int) : gSl (.ref a) lo hi st = .ok (.ref st.length) (st ++ [.lst (mcut xs lo hi)]) := by simp only [gSl, ha]
theorem gSl_rol_ap {a : Nat} (ha : st[a]? = some (.rol xs)) (lo hi : Option Int) : gSl (.ref a) lo hi st = .ok (.ref st.length) (st ++ [.lst (mcut xs lo hi)]) := by simp only [gSl, ha]
@[simp] theorem newL_ap : newL xs st = if xs.length ≤ 16777216 then .ok (.ref st.length) (st ++ [.lst xs]) else .bad := (rfl)
theorem mcut_to : mcut xs none (some (k : Int)) = xs.take k := by
  simp only [mcut, HT.sIx]
  rw [if_neg (by omega)]
  simp
theorem mcut_from : mcut xs (some (k : Int)) none = xs.drop k := by
  simp only [mcut, HT.sIx]
  rw [if_neg (by omega)]
  rw [List.take_of_length_le (by simp)]
  by_cases h : k ≤ xs.length
  · rw [show min (k : Int).toNat xs.length = k by omega]
  · rw [List.drop_eq_nil_of_le (by omega), List.drop_eq_nil_of_le (by omega)]
theorem take_snoc {α : Type} {xs : List α} {n : Nat} {x : α} (h : xs[n]? = some x) : xs.take (n + 1) = xs.take n ++ [x] := by
  rw [List.take_succ, h]; rfl
end
@[simp] theorem size_range (lo : Int) (n : Nat) : (srcRange lo n).size = n := (rfl)
@[simp] theorem size_items (xs : List MV) : (srcItems xs).size = xs.length := (rfl)
@[simp] theorem size_list (a n : Nat) : (srcList a n).size = n := (rfl)
/-- ends well, and so -/
def Post {α : Type} (r : Res α) (Q : α → Mst → Prop) : Prop := ∃ v st', r = .ok v st' ∧ Q v st'
theorem Post.ok {α : Type} {v : α} {st : Mst} {Q : α → Mst → Prop} (h : Q v st) : Post (.ok v st) Q := ⟨v, st, rfl, h⟩
@[simp] theorem post_ok {α : Type} {v : α} {st : Mst} {Q : α → Mst → Prop} : Post (.ok v st) Q ↔ Q v st := ⟨fun ⟨_, _, e, h⟩ => by cases e; exact h, .ok⟩
theorem Post.of {α : Type} {r : Res α} {v : α} {st : Mst} {Q : α → Mst → Prop} (e : r = .ok v st) (h : Q v st) : Post r Q := ⟨v, st, e, h⟩
theorem Post.bind {α γ : Type} {r : Res α} {f : α → M γ} {Q : γ → Mst → Prop} : Post r (fun v st => Post (f v st) Q) → Post (r.bind f) Q := by
  rintro ⟨v, st, rfl, h⟩
  exact h
theorem Post.imp {α : Type} {r : Res α} {Q Q' : α → Mst → Prop} (h : Post r Q) (k : ∀ v st, Q v st → Q' v st) : Post r Q' := by
  obtain ⟨v, st, e, h⟩ := h
  exact ⟨v, st, e, k v st h⟩
theorem Post.bindX {α : Type} {env : BH.Env} {r : Res α} {f : α → M Fl} {Q : Fl → Mst → Prop} : Post r (fun v st => Post (f v st) Q) → Post (bindX env r f) Q := by
  rintro ⟨v, st, rfl, h⟩
  exact h
theorem Post.finB {r : Res Fl} {Q : MV → Mst → Prop} : Post r (fun fl st => Post (finB (.ok fl st)) Q) → Post (finB r) Q := by
  rintro ⟨v, st, rfl, h⟩
  exact h
theorem Post.range {lo : Int} {n m : Nat} {g : MG} {body : MS} {env : BH.Env} {st : Mst} {Q : Fl → Mst → Prop} (I : Nat → BH.Env → Mst → Prop) (h0 : I 0 env st) (hm : m = n + 1)
    (step : ∀ i env st, i < n → I i env st → ∃ env1 s1, g (.int (lo + i)) env st = .ok env1 s1 ∧ Turns (I (i + 1)) (body env1 s1)) (hk : ∀ env st, I n env st → Q (.nx env) st) : Post (forL (srcRange lo n) g body m 0 env st) Q := by
  subst hm
  obtain ⟨env', st', h1, h2⟩ := for_range I h0 step
  exact ⟨_, _, h1, hk _ _ h2⟩
theorem Post.items {xs : List MV} {m : Nat} {g : MG} {body : MS} {env : BH.Env} {st : Mst} {Q : Fl → Mst → Prop} (I : Nat → BH.Env → Mst → Prop) (h0 : I 0 env st) (hm : m = xs.length + 1)
    (step : ∀ i x env st, xs[i]? = some x → I i env st → ∃ env1 s1, g x env st = .ok env1 s1 ∧ Turns (I (i + 1)) (body env1 s1)) (hk : ∀ env st, I xs.length env st → Q (.nx env) st) : Post (forL (srcItems xs) g body m 0 env st) Q := by
  subst hm
  obtain ⟨env', st', h1, h2⟩ := for_items I h0 step
  exact ⟨_, _, h1, hk _ _ h2⟩
theorem Post.list {a : Nat} {xs : List MV} {n m : Nat} {g : MG} {body : MS} {env : BH.Env} {st : Mst} {Q : Fl → Mst → Prop} (I : Nat → BH.Env → Mst → Prop) (hr : ∀ i env st, I i env st → itemsOf st (.ref a) = some xs) (h0 : I 0 env st) (hm : m = xs.length + 1) (hn : n = xs.length)
    (step : ∀ i x env st, xs[i]? = some x → I i env st → ∃ env1 s1, g x env st = .ok env1 s1 ∧ Turns (I (i + 1)) (body env1 s1)) (hk : ∀ env st, I xs.length env st → Q (.nx env) st) : Post (forL (srcList a n) g body m 0 env st) Q := by
  subst hm
  subst hn
  obtain ⟨env', st', h1, h2⟩ := for_list I hr h0 step
  exact ⟨_, _, h1, hk _ _ h2⟩
theorem Turns.of {I : BH.Env → Mst → Prop} {r : Res Fl} (h : Post r (fun fl st => ∃ env, fl = .nx env ∧ I env st)) : Turns I r := by
  obtain ⟨_, st, e, env, rfl, hI⟩ := h
  exact ⟨env, st, .inl e, hI⟩
@[simp] theorem turns_nx {I : BH.Env → Mst → Prop} {env : BH.Env} {st : Mst} : Turns I (.ok (.nx env) st) ↔ I env st := by
  constructor
  · rintro ⟨_, st, h | h, k⟩
    · cases h; exact k
    · cases h
  · intro h
    exact ⟨env, st, .inl rfl, h⟩
theorem get_of {α : Type} {xs : List α} {i : Nat} (h : i < xs.length) : ∃ x, xs[i]? = some x := ⟨xs[i], by simp [h]⟩
theorem gIx_it {xs : List MV} {v : MV} {st : Mst} (hv : itemsOf st v = some xs) (g : Mst) (i : Int) : gIx v (.int i) (st ++ g) = match matI xs i with | some x => .ok x (st ++ g) | none => .bad := by
  have h := itemsOf_up (g := g) hv
  cases v with
  | str s => cases hv
  | _ => simp only [gIx, h] <;> rfl
theorem itemsOf_itup (st : Mst) (xs : List Int) : itemsOf st (itup xs) = some (xs.map .int) := rfl
theorem itemsOf_lst {st : Mst} {a : Nat} {xs : List MV} (h : st[a]? = some (.lst xs)) : itemsOf st (.ref a) = some xs := by simp only [itemsOf, h]
theorem gList_it {xs : List MV} {v : MV} {st : Mst} (hv : itemsOf st v = some xs) (h : xs.length ≤ 16777216) (hs : ∀ s, v ≠ .str s) : gList [v] st = .ok (.ref st.length) (st ++ [.lst xs]) := by
  cases v with
  | str s => exact absurd rfl (hs s)
  | _ => simp only [gList, hv, newL, if_pos h]
theorem set_mid {α : Type} {xs : List α} {n : Nat} (h : n < xs.length) (x : α) : xs.take n ++ x :: xs.drop (n + 1) = xs.set n x := by
  rw [List.set_eq_take_append_cons_drop, if_pos h]
@[simp] theorem gAdd_tup_ap (xs ys : List MV) (st : Mst) : gAdd (.tup xs) (.tup ys) st = if xs.length + ys.length ≤ 16777216 then .ok (.tup (xs ++ ys)) st else .bad := (rfl)
theorem gAdd_lst {xs ys : List MV} {a b : Nat} {st : Mst} (ha : st[a]? = some (.lst xs)) (hb : st[b]? = some (.lst ys)) (h : xs.length + ys.length ≤ 16777216) : gAdd (.ref a) (.ref b) st = .ok (.ref st.length) (st ++ [.lst (xs ++ ys)]) := by
  simp only [gAdd, ha, hb, newL, List.length_append, if_pos h]
@[simp] theorem mLc_ap (mi : MIter) (vs : List Nat) (t : Tgt) (test : MT) (elt : ME) (env : BH.Env) (st : Mst) : mLc mi vs t test elt env st = (mi env st).bind fun src s1 => lcL src t test elt (mwipe env vs) s1.length (src.size + 1) 0 (s1 ++ [.lst []]) := (rfl)
@[simp] theorem mwipe_nil (env : BH.Env) : mwipe env [] = env := (rfl)
@[simp] theorem mwipe_cons (env : BH.Env) (v : Nat) (vs : List Nat) : mwipe env (v :: vs) = (mwipe env vs).set v none := (rfl)
@[simp] theorem put_nm (i : Nat) (x : MV) (env : BH.Env) : Tgt.put (.nm i) x env = some (env.set i (some x)) := (rfl)
theorem lc_range {lo : Int} {n m D : Nat} {t : Tgt} {test : MT} {elt : ME} {env : BH.Env} {st : Mst} (y : Nat → Option MV) (hn : n < 16777216) (hm : m = n + 1) (hD : D = st.length)
    (step : ∀ i acc, i < n → ∃ env1, t.put (.int (lo + i)) env = some env1 ∧ match y i with
      | some v => test env1 (st ++ [.lst acc]) = .ok true (st ++ [.lst acc]) ∧ elt env1 (st ++ [.lst acc]) = .ok v (st ++ [.lst acc])
      | none => test env1 (st ++ [.lst acc]) = .ok false (st ++ [.lst acc])) :
    lcL (srcRange lo n) t test elt env D m 0 (st ++ [.lst []]) = .ok (.ref D) (st ++ [.lst ((List.range n).filterMap y)]) := by
  subst hm
  have h := lc_rule (src := srcRange lo n) (t := t) (test := test) (elt := elt) (env := env) (st := st) (D := D) (n := n) y (fun acc => by simp [srcRange]) hD hn (fun i acc hi => by
    obtain ⟨env1, h1, h2⟩ := step i acc hi
    exact ⟨_, env1, by simp [srcRange, hi], h1, h2⟩) (n + 1) 0 [] (by omega) (by omega) (by simp)
  rw [h, List.range_eq_range']
  simp
theorem lc_items {xs : List MV} {m D : Nat} {t : Tgt} {test : MT} {elt : ME} {env : BH.Env} {st : Mst} (y : Nat → Option MV) (hn : xs.length < 16777216) (hm : m = xs.length + 1) (hD : D = st.length)
    (step : ∀ i x acc, xs[i]? = some x → ∃ env1, t.put x env = some env1 ∧ match y i with
      | some v => test env1 (st ++ [.lst acc]) = .ok true (st ++ [.lst acc]) ∧ elt env1 (st ++ [.lst acc]) = .ok v (st ++ [.lst acc])
      | none => test env1 (st ++ [.lst acc]) = .ok false (st ++ [.lst acc])) :
    lcL (srcItems xs) t test elt env D m 0 (st ++ [.lst []]) = .ok (.ref D) (st ++ [.lst ((List.range xs.length).filterMap y)]) := by
  subst hm
  have h := lc_rule (src := srcItems xs) (t := t) (test := test) (elt := elt) (env := env) (st := st) (D := D) (n := xs.length) y (fun acc => by simp [srcItems]) hD hn (fun i acc hi => by
    have hx : xs[i]? = some xs[i] := by simp [hi]
    obtain ⟨env1, h1, h2⟩ := step i xs[i] acc hx
    exact ⟨_, env1, by simp [srcItems, hx], h1, h2⟩) (xs.length + 1) 0 [] (by omega) (by omega) (by simp)
  rw [h, List.range_eq_range']
  simp
theorem lc_list {a : Nat} {xs : List MV} {n m D : Nat} {t : Tgt} {test : MT} {elt : ME} {env : BH.Env} {st : Mst} (ha : itemsOf st (.ref a) = some xs) (y : Nat → Option MV) (hl : n = xs.length) (hn : xs.length < 16777216) (hm : m = xs.length + 1) (hD : D = st.length)
    (step : ∀ i x acc, xs[i]? = some x → ∃ env1, t.put x env = some env1 ∧ match y i with
      | some v => test env1 (st ++ [.lst acc]) = .ok true (st ++ [.lst acc]) ∧ elt env1 (st ++ [.lst acc]) = .ok v (st ++ [.lst acc])
      | none => test env1 (st ++ [.lst acc]) = .ok false (st ++ [.lst acc])) :
    lcL (srcList a n) t test elt env D m 0 (st ++ [.lst []]) = .ok (.ref D) (st ++ [.lst ((List.range xs.length).filterMap y)]) := by
  subst hm
  subst hl
  have h := lc_rule (src := srcList a xs.length) (t := t) (test := test) (elt := elt) (env := env) (st := st) (D := D) (n := xs.length) y (fun acc => by simp [srcList, itemsOf_up ha]) hD hn (fun i acc hi => by
    have hx : xs[i]? = some xs[i] := by simp [hi]
    obtain ⟨env1, h1, h2⟩ := step i xs[i] acc hx
    exact ⟨_, env1, by simp only [srcList, itemsOf_up ha, Option.map_some, hx], h1, h2⟩) (xs.length + 1) 0 [] (by omega) (by omega) (by simp)
  rw [h, List.range_eq_range']
  simp
/-! ### two-clause comprehensions over lists, the element makes nothing -/
theorem lcI_rule {src : Src} {t : Tgt} {test : MT} {elt : ME} {env : BH.Env} {st : Mst} {D n b : Nat} (y : Nat → MV)
    (hstop : ∀ acc, src.next n (st ++ [.lst acc]) = some none) (hD : D = st.length)
    (step : ∀ i acc, i < n → ∃ x env1, src.next i (st ++ [.lst acc]) = some (some x) ∧ t.put x env = some env1 ∧ test env1 (st ++ [.lst acc]) = .ok true (st ++ [.lst acc]) ∧ elt env1 (st ++ [.lst acc]) = .ok (y i) (st ++ [.lst acc])) :
    ∀ (m i : Nat) (acc : List MV), i ≤ n → n - i < m → acc.length + (n - i) < 16777216 → lcI src t test elt env D m i (st ++ [.lst acc]) = .ok () (st ++ [.lst (acc ++ (List.range' i (n - i)).map y)])
  | 0, i, acc, _, hm, _ => by omega
  | m + 1, i, acc, hi, hm, ha => by
    by_cases e : i = n
    · subst e
      simp only [lcI, hstop acc]
      simp
    · obtain ⟨x, env1, h1, h2, h3, h4⟩ := step i acc (by omega)
      have hr : List.range' i (n - i) = i :: List.range' (i + 1) (n - (i + 1)) := by
        rw [show n - i = (n - (i + 1)) + 1 by omega, List.range'_succ]
      have hl : lappend D (y i) (st ++ [.lst acc]) = .ok () (st ++ [.lst (acc ++ [y i])]) := by
        subst hD
        have hg : (st ++ [MO.lst acc])[st.length]? = some (.lst acc) := by simp
        simp only [lappend, hg, if_pos (show acc.length < 16777216 by omega)]
        simp
      simp only [lcI, h1, h2, h3, h4, noX_ok, Res.bind_ok, if_true, hl]
      rw [lcI_rule (b := 0) y hstop hD step m (i + 1) (acc ++ [y i]) (by omega) (by omega) (by simp; omega), hr, List.map_cons]
      simp
theorem lc2_rule {src : Src} {t t1 : Tgt} {test test1 : MT} {mi1 : MIter} {vs1 : List Nat} {elt : ME} {env : BH.Env} {st : Mst} {D n : Nat} (z : Nat → List MV)
    (hstop : ∀ acc, src.next n (st ++ [.lst acc]) = some none)
    (step : ∀ i acc, i < n → ∃ x env1 src1, src.next i (st ++ [.lst acc]) = some (some x) ∧ t.put x env = some env1 ∧ test env1 (st ++ [.lst acc]) = .ok true (st ++ [.lst acc]) ∧ mi1 env1 (st ++ [.lst acc]) = .ok src1 (st ++ [.lst acc]) ∧
      (acc.length + (z i).length < 16777216 → lcI src1 t1 test1 elt (mwipe env1 vs1) D (src1.size + 1) 0 (st ++ [.lst acc]) = .ok () (st ++ [.lst (acc ++ z i)]))) :
    ∀ (m i : Nat) (acc : List MV), i ≤ n → n - i < m → (acc ++ (List.range' i (n - i)).flatMap z).length < 16777216 → lcL2 src t test mi1 vs1 t1 test1 elt env D m i (st ++ [.lst acc]) = .ok (.ref D) (st ++ [.lst (acc ++ (List.range' i (n - i)).flatMap z)])
  | 0, i, acc, _, hm, _ => by omega
  | m + 1, i, acc, hi, hm, ha => by
    by_cases e : i = n
    · subst e
      simp only [lcL2, hstop acc]
      simp
    · obtain ⟨x, env1, src1, h1, h2, h3, h4, h5⟩ := step i acc (by omega)
      have hr : List.range' i (n - i) = i :: List.range' (i + 1) (n - (i + 1)) := by
        rw [show n - i = (n - (i + 1)) + 1 by omega, List.range'_succ]
      rw [hr, List.flatMap_cons] at ha ⊢
      rw [← List.append_assoc] at ha ⊢
      have h6 := h5 (by simp at ha; omega)
      simp only [lcL2, h1, h2, h3, h4, h6, noX_ok, Res.bind_ok, if_true]
      exact lc2_rule z hstop step m (i + 1) (acc ++ z i) (by omega) (by omega) ha
theorem flat_ix {α γ : Type} (f : α → List γ) (g : Nat → List γ) : ∀ (xs : List α) (i : Nat), (∀ j x, xs[j]? = some x → g (i + j) = f x) → (List.range' i xs.length).flatMap g = xs.flatMap f
  | [], i, _ => by simp
  | x :: xs, i, h => by
    rw [List.length_cons, List.range'_succ, List.flatMap_cons, List.flatMap_cons, flat_ix f g xs (i + 1) (fun j y e => by rw [Nat.add_assoc, Nat.add_comm 1 j]; exact h (j + 1) y e)]
    rw [show g i = f x from h 0 x rfl]
theorem map_ix {α γ : Type} (f : α → γ) (g : Nat → γ) : ∀ (xs : List α) (i : Nat), (∀ j x, xs[j]? = some x → g (i + j) = f x) → (List.range' i xs.length).map g = xs.map f
  | [], i, _ => by simp
  | x :: xs, i, h => by
    rw [List.length_cons, List.range'_succ, List.map_cons, List.map_cons, map_ix f g xs (i + 1) (fun j y e => by rw [Nat.add_assoc, Nat.add_comm 1 j]; exact h (j + 1) y e)]
    rw [show g i = f x from h 0 x rfl]
@[simp] theorem mLc2_ap (mi : MIter) (vs : List Nat) (t : Tgt) (test : MT) (mi1 : MIter) (vs1 : List Nat) (t1 : Tgt) (test1 : MT) (elt : ME) (env : BH.Env) (st : Mst) : mLc2 mi vs t test mi1 vs1 t1 test1 elt env st = (mi env st).bind fun src s1 => lcL2 src t test mi1 vs1 t1 test1 elt (mwipe env vs) s1.length (src.size + 1) 0 (s1 ++ [.lst []]) := (rfl)
/-- over two lists -/
theorem lc2_lists {F O m D nf : Nat} {fs os : List MV} {t t1 : Tgt} {mi1 : MIter} {vs1 : List Nat} {elt : ME} {env : BH.Env} {st : Mst} (z : MV → MV → MV) (hF : st[F]? = some (.lst fs)) (hO : st[O]? = some (.lst os)) (hnf : nf = fs.length) (hm : m = fs.length + 1) (hD : D = st.length)
    (hlen : (fs.flatMap fun f => os.map fun o => z f o).length < 16777216)
    (step : ∀ f acc, f ∈ fs → ∃ env1, t.put f env = some env1 ∧ mi1 env1 (st ++ [.lst acc]) = .ok (srcList O os.length) (st ++ [.lst acc]) ∧ ∀ o acc, o ∈ os → ∃ env2, t1.put o (mwipe env1 vs1) = some env2 ∧ elt env2 (st ++ [.lst acc]) = .ok (z f o) (st ++ [.lst acc])) :
    lcL2 (srcList F nf) t mYes mi1 vs1 t1 mYes elt env D m 0 (st ++ [.lst []]) = .ok (.ref D) (st ++ [.lst (fs.flatMap fun f => os.map fun o => z f o)]) := by
  subst hm
  subst hnf
  have e0 := flat_ix (fun f => os.map fun o => z f o) (fun i => os.map fun o => z (fs[i]?.getD .non) o) fs 0 (fun j x h => by simp [h])
  have h := lc2_rule (src := srcList F fs.length) (t := t) (t1 := t1) (test := mYes) (test1 := mYes) (mi1 := mi1) (vs1 := vs1) (elt := elt) (env := env) (st := st) (D := D) (n := fs.length) (fun i => os.map fun o => z (fs[i]?.getD .non) o)
    (fun acc => by simp [srcList, itemsOf_up (itemsOf_lst hF)]) (fun i acc hi => by
    have hx : fs[i]? = some fs[i] := by simp [hi]
    obtain ⟨env1, h1, h2, h3⟩ := step fs[i] acc (by simp)
    refine ⟨fs[i], env1, srcList O os.length, by simp only [srcList, itemsOf_up (itemsOf_lst hF), Option.map_some, hx], h1, rfl, h2, fun hl => ?_⟩
    have h4 := lcI_rule (src := srcList O os.length) (t := t1) (test := mYes) (elt := elt) (env := mwipe env1 vs1) (st := st) (D := D) (n := os.length) (b := 0) (fun j => z fs[i] (os[j]?.getD .non))
      (fun acc => by simp [srcList, itemsOf_up (itemsOf_lst hO)]) hD (fun j acc hj => by
      have hy : os[j]? = some os[j] := by simp [hj]
      obtain ⟨env2, g1, g2⟩ := h3 os[j] acc (by simp)
      refine ⟨os[j], env2, by simp only [srcList, itemsOf_up (itemsOf_lst hO), Option.map_some, hy], g1, rfl, ?_⟩
      rw [hy]
      exact g2) (os.length + 1) 0 acc (by omega) (by omega) (by simp at hl; omega)
    rw [Nat.sub_zero, map_ix (fun o => z fs[i] o) _ os 0 (fun j x hx => by simp [hx])] at h4
    rw [hx]
    exact h4) (fs.length + 1) 0 [] (by omega) (by omega) (by simpa [e0] using hlen)
  rw [h, Nat.sub_zero, e0]
  rfl
end BH

set_option Elab.async false
set_option linter.all false
set_option maxRecDepth 100000
set_option autoImplicit false
/-! More reckoning: match, dicts, growth of the store. -/
namespace BH
open PySem PyProof.Rows L2
section
variable (m : ME) (mc rest : MMc) (body : MS) (env : BH.Env) (st : Mst) (n k j : Nat) (ips : List IP) (xs : List MV)
@[simp] theorem sMatch_ap : sMatch m mc env st = bindX env (m env st) fun v s1 => match v with | .tup xs => mc xs env s1 | _ => .bad := (rfl)
@[simp] theorem mcNil_ap : mcNil xs env st = .ok (.nx env) st := (rfl)
@[simp] theorem mcSeq_ap : mcSeq n ips body rest xs env st = if xs.length = n then match eachM ips xs with
  | none => .bad
  | some none => rest xs env st
  | some (some l) => body (bindE env l) st
  else rest xs env st := (rfl)
@[simp] theorem mcStar_ap : mcStar k ips j body rest xs env st = if xs.length < k then rest xs env st else match eachM ips (xs.take k) with
  | some (some l) => body ((bindE env l).set j (some (.ref st.length))) (st ++ [.lst (xs.drop k)])
  | _ => .bad := (rfl)
@[simp] theorem eachM_nil : eachM [] [] = some (some []) := (rfl)
@[simp] theorem eachM_lit (m a : Str) : eachM (.lit m :: ips) (.str a :: xs) = if a = m then eachM ips xs else some none := (rfl)
@[simp] theorem eachM_cap (i : Nat) (x : MV) : eachM (.cap i :: ips) (x :: xs) = (eachM ips xs).map fun o => o.map fun l => (i, x) :: l := (rfl)
@[simp] theorem bindE_nil : bindE env [] = env := (rfl)
@[simp] theorem bindE_cons (i : Nat) (x : MV) (l : List (Nat × MV)) : bindE env ((i, x) :: l) = bindE (env.set i (some x)) l := (rfl)
@[simp] theorem mDNew_ap : mDNew env st = .ok (.ref st.length) (st ++ [.dct []]) := (rfl)
@[simp] theorem mDGet2_ap (a b c : ME) : mDGet2 a b c env st = (a env st).bind fun x s1 => match dctOf s1 x with
  | none => .bad
  | some _ => (b env s1).bind fun y s2 => (c env s2).bind fun z s3 => match dctOf s3 x, keyM y with
    | some kvs, some k => .ok ((lookK kvs k).getD z) s3
    | _, _ => .bad := (rfl)
@[simp] theorem sDSet_ap (d i v : ME) : sDSet d i v env st = bindX env (v env st) fun z s1 => bindX env (d env s1) fun x s2 => bindX env (i env s2) fun y s3 => (gDSet x y z s3).bind fun _ s4 => .ok (.nx env) s4 := (rfl)
@[simp] theorem mDC_ap (kvs : List (Str × Int)) : mDC kvs env st = .ok (.ref st.length) (st ++ [.dct (mergeM [] (kvs.map fun kv => (.inr kv.1, .int kv.2)))]) := (rfl)
@[simp] theorem keyM_str (x : Str) : keyM (.str x) = some (.inr x) := (rfl)
@[simp] theorem keyM_int (x : Int) : keyM (.int x) = some (.inl x) := (rfl)
theorem dctOf_dct {a : Nat} {kvs : List (L2.Key × MV)} {st : Mst} (h : st[a]? = some (.dct kvs)) : dctOf st (.ref a) = some kvs := by simp only [dctOf, h]
theorem gDGet_dct {a : Nat} {kvs : List (L2.Key × MV)} {st : Mst} {y v : MV} {k : L2.Key} (h : st[a]? = some (.dct kvs)) (hy : keyM y = some k) (hv : lookK kvs k = some v) : gDGet (.ref a) y st = .ok v st := by
  simp only [gDGet, dctOf_dct h, hy, hv]
theorem gDSet_dct {a : Nat} {kvs : List (L2.Key × MV)} {st : Mst} {y v : MV} {k : L2.Key} (h : st[a]? = some (.dct kvs)) (hy : keyM y = some k) (hl : kvs.length < 16777216) : gDSet (.ref a) y v st = .ok () (st.set a (.dct (putKM kvs k v))) := by
  simp only [gDSet, hy, h, if_pos hl]
theorem gDict_dct {a : Nat} {kvs : List (L2.Key × MV)} {st : Mst} (h : st[a]? = some (.dct kvs)) : gDict [.ref a] st = .ok (.ref st.length) (st ++ [.dct kvs]) := by
  simp only [gDict, dctOf_dct h]
theorem lookK_put_same (kvs : List (L2.Key × MV)) (k : L2.Key) (v : MV) : lookK (putKM kvs k v) k = some v := by
  unfold putKM
  split
  · rename_i h
    induction kvs with
    | nil => simp at h
    | cons a r ih =>
      by_cases e : a.1 = k
      · simp [lookK, List.find?_cons, e]
      · have h' : (r.any fun kv => decide (kv.1 = k)) = true := by simpa [e] using h
        have := ih h'
        simpa [lookK, List.find?_cons, e] using this
  · rename_i h
    have : kvs.find? (fun kv => decide (kv.1 = k)) = none := by
      rw [List.find?_eq_none]
      intro x hx hk
      exact h (List.any_eq_true.mpr ⟨x, hx, hk⟩)
    simp [lookK, List.find?_append, this]
theorem lookK_put_other (kvs : List (L2.Key × MV)) (k j : L2.Key) (v : MV) (h : j ≠ k) : lookK (putKM kvs k v) j = lookK kvs j := by
  unfold putKM
  split
  · rename_i hany
    clear hany
    induction kvs with
    | nil => rfl
    | cons a r ih =>
      have ih' : lookK (r.map fun kv => if kv.1 = k then (kv.1, v) else kv) j = lookK r j := by
        clear ih
        induction r with
        | nil => rfl
        | cons b r ih =>
          by_cases e : b.1 = k
          · have : ¬ b.1 = j := fun e' => h (e'.symm.trans e)
            simpa [lookK, List.find?_cons, e, this, show ¬ k = j from fun e' => h e'.symm] using ih
          · by_cases e2 : b.1 = j
            · simp [lookK, List.find?_cons, e, e2, h]
            · simpa [lookK, List.find?_cons, e, e2] using ih
      by_cases e : a.1 = k
      · have : ¬ k = j := fun e' => h e'.symm
        simpa [lookK, List.find?_cons, e, this] using ih'
      · by_cases e2 : a.1 = j
        · simp [lookK, List.find?_cons, e, e2, h]
        · simpa [lookK, List.find?_cons, e, e2] using ih'
  · have : ¬ k = j := fun e' => h e'.symm
    simp [lookK, List.find?_append, this, List.find?_cons]
theorem putKM_length (kvs : List (L2.Key × MV)) (k : L2.Key) (v : MV) : (putKM kvs k v).length ≤ kvs.length + 1 := by
  unfold putKM; split <;> simp
end
/-- the store grows -/
def Gr (st st' : Mst) : Prop := ∃ g, st' = st ++ g
theorem Gr.refl (st : Mst) : Gr st st := ⟨[], by simp⟩
theorem Gr.trans {a b c : Mst} (h : Gr a b) (h' : Gr b c) : Gr a c := by
  obtain ⟨g, rfl⟩ := h
  obtain ⟨g', rfl⟩ := h'
  exact ⟨g ++ g', by simp⟩
theorem Gr.app (st g : Mst) : Gr st (st ++ g) := ⟨g, rfl⟩
theorem Gr.get {a b : Mst} (h : Gr a b) {i : Nat} {o : MO} (e : a[i]? = some o) : b[i]? = some o := by
  obtain ⟨g, rfl⟩ := h
  exact up e
theorem Gr.len {a b : Mst} (h : Gr a b) : a.length ≤ b.length := by
  obtain ⟨g, rfl⟩ := h
  simp
theorem Gr.set {a b : Mst} (h : Gr a b) {i : Nat} {o : MO} (hi : a.length ≤ i) : Gr a (b.set i o) := by
  obtain ⟨g, rfl⟩ := h
  refine ⟨g.set (i - a.length) o, ?_⟩
  rw [List.set_append, if_neg (by omega)]
theorem Gr.items {a b : Mst} (h : Gr a b) {v : MV} {xs : List MV} (e : itemsOf a v = some xs) : itemsOf b v = some xs := by
  obtain ⟨g, rfl⟩ := h
  exact itemsOf_up e
/-- places outside W stay -/
def Fr (W : List Nat) (st st' : Mst) : Prop := ∀ a o, a ∉ W → st[a]? = some o → st'[a]? = some o
theorem Fr.refl (W : List Nat) (st : Mst) : Fr W st st := fun _ _ _ h => h
theorem Fr.app (W : List Nat) (st g : Mst) : Fr W st (st ++ g) := fun _ _ _ h => up h
theorem Fr.gr (W : List Nat) {st st' : Mst} (h : Gr st st') : Fr W st st' := fun _ _ _ e => h.get e
theorem Fr.trans {W : List Nat} {st st' st'' : Mst} (h : Fr W st st') (h' : Fr W st' st'') : Fr W st st'' := fun a o n e => h' a o n (h a o n e)
theorem Fr.mono {W W' : List Nat} {st st' : Mst} (h : Fr W st st') (s : ∀ a, a ∉ W' → a ∉ W) : Fr W' st st' := fun a o n e => h a o (s a n) e
theorem Fr.put (p : Nat) (st : Mst) (o : MO) : Fr [p] st (st.set p o) := fun a o' n e => by
  rw [List.getElem?_set_ne (by simpa using Ne.symm (by simpa using n : a ≠ p))]; exact e
theorem Fr.get {W : List Nat} {st st' : Mst} (h : Fr W st st') {a : Nat} {o : MO} (e : st[a]? = some o) (n : a ∉ W) : st'[a]? = some o := h a o n e
theorem get_set {st : Mst} {a : Nat} {o o' : MO} (h : st[a]? = some o') : (st.set a o)[a]? = some o := by rw [List.getElem?_set_self (lt_of h)]
theorem get_set_ne {st : Mst} {a b : Nat} {o o' : MO} (h : st[a]? = some o) (n : b ≠ a) : (st.set b o')[a]? = some o := by rw [List.getElem?_set_ne n]; exact h
/-! ### texts -/
theorem strOk_append {a b : Str} (ha : PyData.strOk a = true) (hb : PyData.strOk b = true) : PyData.strOk (a ++ b) = true := by
  unfold PyData.strOk at *
  have e : (a ++ b).cps = a.cps ++ b.cps := rfl
  rw [e]
  simp [Array.all_append] at *
  exact ⟨ha, hb⟩
end BH

set_option Elab.async false
set_option linter.all false
set_option maxRecDepth 100000
set_option autoImplicit false
/-! A loop that may be left. -/
namespace BH
open PySem PyProof.Rows L2
theorem loop_rule {src : Src} {g : MG} {body : MS} {n : Nat} {Q : Fl → Mst → Prop} (I : Nat → BH.Env → Mst → Prop) (hstop : ∀ env st, I n env st → src.next n st = some none)
    (step : ∀ i env st, i < n → I i env st → ∃ x env1 s1, src.next i st = some (some x) ∧ g x env st = .ok env1 s1 ∧ Post (body env1 s1) (fun fl s2 => match fl with
      | .nx e => I (i + 1) e s2 | .ct e => I (i + 1) e s2 | .bk e => Q (.nx e) s2 | .rt v => Q (.rt v) s2 | .xc c f e => Q (.xc c f e) s2)) (hk : ∀ env st, I n env st → Q (.nx env) st) :
    ∀ (m i : Nat) (env : BH.Env) (st : Mst), i ≤ n → n - i < m → I i env st → Post (forL src g body m i env st) Q
  | 0, i, env, st, _, hm, _ => by omega
  | m + 1, i, env, st, hi, hm, h => by
    by_cases e : i = n
    · subst e
      exact ⟨.nx env, st, by simp only [forL, hstop env st h], hk _ _ h⟩
    · obtain ⟨x, env1, s1, h1, h2, fl, s2, h3, h4⟩ := step i env st (by omega) h
      have ef : forL src g body (m + 1) i env st = match fl with
        | .nx env2 => forL src g body m (i + 1) env2 s2 | .ct env2 => forL src g body m (i + 1) env2 s2 | .bk env2 => .ok (.nx env2) s2 | .rt v => .ok (.rt v) s2 | .xc c fs env2 => .ok (.xc c fs env2) s2 := by
        simp only [forL, h1, h2, h3, Res.bind_ok]
        cases fl <;> rfl
      rw [ef]
      cases fl with
      | nx e2 => exact loop_rule I hstop step hk m (i + 1) e2 s2 (by omega) (by omega) h4
      | ct e2 => exact loop_rule I hstop step hk m (i + 1) e2 s2 (by omega) (by omega) h4
      | bk e2 => exact ⟨_, _, rfl, h4⟩
      | rt v => exact ⟨_, _, rfl, h4⟩
      | xc c f e2 => exact ⟨_, _, rfl, h4⟩
/-- what one turn of a loop that may be left does -/
def Turn (I : BH.Env → Mst → Prop) (Q : Fl → Mst → Prop) (r : Res Fl) : Prop := Post r (fun fl s2 => match fl with
  | .nx e => I e s2 | .ct e => I e s2 | .bk e => Q (.nx e) s2 | .rt v => Q (.rt v) s2 | .xc c f e => Q (.xc c f e) s2)
@[simp] theorem turn_nx {I : BH.Env → Mst → Prop} {Q : Fl → Mst → Prop} {e : BH.Env} {st : Mst} : Turn I Q (.ok (.nx e) st) ↔ I e st := post_ok
@[simp] theorem turn_ct {I : BH.Env → Mst → Prop} {Q : Fl → Mst → Prop} {e : BH.Env} {st : Mst} : Turn I Q (.ok (.ct e) st) ↔ I e st := post_ok
@[simp] theorem turn_bk {I : BH.Env → Mst → Prop} {Q : Fl → Mst → Prop} {e : BH.Env} {st : Mst} : Turn I Q (.ok (.bk e) st) ↔ Q (.nx e) st := post_ok
@[simp] theorem turn_rt {I : BH.Env → Mst → Prop} {Q : Fl → Mst → Prop} {v : MV} {st : Mst} : Turn I Q (.ok (.rt v) st) ↔ Q (.rt v) st := post_ok
theorem Turn.of {I : BH.Env → Mst → Prop} {Q Q' : Fl → Mst → Prop} {r : Res Fl} (h : Post r Q') (k : ∀ fl s2, Q' fl s2 → match fl with
  | .nx e => I e s2 | .ct e => I e s2 | .bk e => Q (.nx e) s2 | .rt v => Q (.rt v) s2 | .xc c f e => Q (.xc c f e) s2) : Turn I Q r := h.imp k
theorem Post.rangeT {lo : Int} {n m : Nat} {g : MG} {body : MS} {env : BH.Env} {st : Mst} {Q : Fl → Mst → Prop} (I : Nat → BH.Env → Mst → Prop) (h0 : I 0 env st) (hm : m = n + 1)
    (step : ∀ i env st, i < n → I i env st → ∃ env1 s1, g (.int (lo + i)) env st = .ok env1 s1 ∧ Turn (I (i + 1)) Q (body env1 s1)) (hk : ∀ env st, I n env st → Q (.nx env) st) : Post (forL (srcRange lo n) g body m 0 env st) Q := by
  subst hm
  refine loop_rule I (fun env st _ => by simp [srcRange]) (fun i env st hi h => ?_) hk (n + 1) 0 env st (Nat.zero_le _) (by omega) h0
  obtain ⟨env1, s1, h1, h2⟩ := step i env st hi h
  exact ⟨_, env1, s1, by simp [srcRange, hi], h1, h2⟩
theorem Post.itemsT {xs : List MV} {m : Nat} {g : MG} {body : MS} {env : BH.Env} {st : Mst} {Q : Fl → Mst → Prop} (I : Nat → BH.Env → Mst → Prop) (h0 : I 0 env st) (hm : m = xs.length + 1)
    (step : ∀ i x env st, xs[i]? = some x → I i env st → ∃ env1 s1, g x env st = .ok env1 s1 ∧ Turn (I (i + 1)) Q (body env1 s1)) (hk : ∀ env st, I xs.length env st → Q (.nx env) st) : Post (forL (srcItems xs) g body m 0 env st) Q := by
  subst hm
  refine loop_rule I (fun env st _ => by simp [srcItems]) (fun i env st hi h => ?_) hk (xs.length + 1) 0 env st (Nat.zero_le _) (by omega) h0
  have hx : xs[i]? = some xs[i] := by simp [hi]
  obtain ⟨env1, s1, h1, h2⟩ := step i xs[i] env st hx h
  exact ⟨_, env1, s1, by simp [srcItems, hx], h1, h2⟩
theorem Post.enumT {xs : List MV} {m : Nat} {g : MG} {body : MS} {env : BH.Env} {st : Mst} {Q : Fl → Mst → Prop} (I : Nat → BH.Env → Mst → Prop) (h0 : I 0 env st) (hm : m = xs.length + 1)
    (step : ∀ i x env st, xs[i]? = some x → I i env st → ∃ env1 s1, g (.tup [.int (i : Nat), x]) env st = .ok env1 s1 ∧ Turn (I (i + 1)) Q (body env1 s1)) (hk : ∀ env st, I xs.length env st → Q (.nx env) st) : Post (forL (srcEnum (srcItems xs)) g body m 0 env st) Q := by
  subst hm
  refine loop_rule I (fun env st _ => by simp [srcItems, srcEnum]) (fun i env st hi h => ?_) hk (xs.length + 1) 0 env st (Nat.zero_le _) (by omega) h0
  have hx : xs[i]? = some xs[i] := by simp [hi]
  obtain ⟨env1, s1, h1, h2⟩ := step i xs[i] env st hx h
  exact ⟨_, env1, s1, by simp [srcItems, srcEnum, hx], h1, h2⟩
theorem Post.listT {a : Nat} {xs : List MV} {n m : Nat} {g : MG} {body : MS} {env : BH.Env} {st : Mst} {Q : Fl → Mst → Prop} (I : Nat → BH.Env → Mst → Prop) (hr : ∀ i env st, I i env st → itemsOf st (.ref a) = some xs) (h0 : I 0 env st) (hm : m = xs.length + 1) (hn : n = xs.length)
    (step : ∀ i x env st, xs[i]? = some x → I i env st → ∃ env1 s1, g x env st = .ok env1 s1 ∧ Turn (I (i + 1)) Q (body env1 s1)) (hk : ∀ env st, I xs.length env st → Q (.nx env) st) : Post (forL (srcList a n) g body m 0 env st) Q := by
  subst hm
  subst hn
  refine loop_rule I (fun env st h => by simp only [srcList, hr _ _ _ h]; simp) (fun i env st hi h => ?_) hk (xs.length + 1) 0 env st (Nat.zero_le _) (by omega) h0
  have hx : xs[i]? = some xs[i] := by simp [hi]
  obtain ⟨env1, s1, h1, h2⟩ := step i xs[i] env st hx h
  exact ⟨_, env1, s1, by simp only [srcList, hr _ _ _ h, Option.map_some, hx], h1, h2⟩
@[simp] theorem size_enum (s : Src) : (srcEnum s).size = s.size := (rfl)
@[simp] theorem srcOf_tup' (xs : List MV) (st : Mst) : srcOf (.tup xs) st = .ok (srcItems xs) st := (rfl)
@[simp] theorem srcSeq_tup (xs : List MV) (st : Mst) : srcSeq (.tup xs) st = .ok (srcItems xs) st := (rfl)
section
variable (xs : List MV)
@[simp] theorem matI_4 : matI xs 4 = xs[4]? := matI_cast xs 4
@[simp] theorem matI_5 : matI xs 5 = xs[5]? := matI_cast xs 5
@[simp] theorem matI_6 : matI xs 6 = xs[6]? := matI_cast xs 6
@[simp] theorem matI_7 : matI xs 7 = xs[7]? := matI_cast xs 7
@[simp] theorem matI_8 : matI xs 8 = xs[8]? := matI_cast xs 8
@[simp] theorem matI_9 : matI xs 9 = xs[9]? := matI_cast xs 9
@[simp] theorem matI_10 : matI xs 10 = xs[10]? := matI_cast xs 10
@[simp] theorem matI_11 : matI xs 11 = xs[11]? := matI_cast xs 11
theorem matI_neg (j : Nat) (h0 : 0 < j) (h : j ≤ xs.length) : matI xs (-(j : Int)) = xs[xs.length - j]? := by
  unfold matI mixN
  rw [if_neg (by omega), if_pos (by omega)]
  have : (-(j : Int) + xs.length).toNat = xs.length - j := by omega
  simp [this]
end
theorem range_filterMap {α γ : Type} (f : α → Option γ) : ∀ (xs : List α), (List.range xs.length).filterMap (fun i => xs[i]?.bind f) = xs.filterMap f
  | [] => rfl
  | x :: xs => by
    have ih := range_filterMap f xs
    rw [List.length_cons, List.range_succ_eq_map, List.filterMap_cons, List.filterMap_cons, List.filterMap_map]
    have e : ((fun i => (x :: xs)[i]?.bind f) ∘ Nat.succ) = fun i => xs[i]?.bind f := by funext i; simp
    rw [e, ih]
    simp
theorem lc_itemsF {xs : List MV} {m D : Nat} {t : Tgt} {test : MT} {elt : ME} {env : BH.Env} {st : Mst} (f : MV → Option MV) (hn : xs.length < 16777216) (hm : m = xs.length + 1) (hD : D = st.length)
    (step : ∀ x acc, x ∈ xs → ∃ env1, t.put x env = some env1 ∧ match f x with
      | some v => test env1 (st ++ [.lst acc]) = .ok true (st ++ [.lst acc]) ∧ elt env1 (st ++ [.lst acc]) = .ok v (st ++ [.lst acc])
      | none => test env1 (st ++ [.lst acc]) = .ok false (st ++ [.lst acc])) :
    lcL (srcItems xs) t test elt env D m 0 (st ++ [.lst []]) = .ok (.ref D) (st ++ [.lst (xs.filterMap f)]) := by
  rw [lc_items (fun i => xs[i]?.bind f) hn hm hD (fun i x acc hx => by
    obtain ⟨env1, h1, h2⟩ := step x acc (List.mem_of_getElem? hx)
    refine ⟨env1, h1, ?_⟩
    simp only [hx, Option.bind_some]
    exact h2), range_filterMap]
theorem lc_listF {a : Nat} {xs : List MV} {n m D : Nat} {t : Tgt} {test : MT} {elt : ME} {env : BH.Env} {st : Mst} (ha : itemsOf st (.ref a) = some xs) (f : MV → Option MV) (hl : n = xs.length) (hn : xs.length < 16777216) (hm : m = xs.length + 1) (hD : D = st.length)
    (step : ∀ x acc, x ∈ xs → ∃ env1, t.put x env = some env1 ∧ match f x with
      | some v => test env1 (st ++ [.lst acc]) = .ok true (st ++ [.lst acc]) ∧ elt env1 (st ++ [.lst acc]) = .ok v (st ++ [.lst acc])
      | none => test env1 (st ++ [.lst acc]) = .ok false (st ++ [.lst acc])) :
    lcL (srcList a n) t test elt env D m 0 (st ++ [.lst []]) = .ok (.ref D) (st ++ [.lst (xs.filterMap f)]) := by
  rw [lc_list ha (fun i => xs[i]?.bind f) hl hn hm hD (fun i x acc hx => by
    obtain ⟨env1, h1, h2⟩ := step x acc (List.mem_of_getElem? hx)
    refine ⟨env1, h1, ?_⟩
    simp only [hx, Option.bind_some]
    exact h2), range_filterMap]
theorem drop_at {α : Type} {xs : List α} {i : Nat} {x : α} (h : xs[i]? = some x) : xs.drop i = x :: xs.drop (i + 1) := by
  have hi : i < xs.length := (List.getElem?_eq_some_iff.mp h).1
  rw [List.drop_eq_getElem_cons hi]
  rw [List.getElem?_eq_getElem hi] at h
  rw [Option.some.inj h]
theorem Fr.new {A : Nat} {st st' : Mst} (h : Fr [A] st st') (l : st.length ≤ A) (W : List Nat) : Fr W st st' := fun a o _ e => h a o (by have := lt_of e; simp; omega) e
end BH

set_option linter.all false
set_option maxRecDepth 100000
set_option autoImplicit false
namespace K17
open PySem BH
def c_FLOWING : MV := (.tup [(.str "let"), (.str "if"), (.str "repeat"), (.str "call"), (.str "try")])
def c_GIVEN : MV := (.tup [(.str "put"), (.str "note")])
def c_LAYERED : MV := (.tup [(.str "get"), (.str "look"), (.str "fail"), (.str "ask")])
def c_LETTERS : MV := (.str "abcdefghijklmnopqrstuvwxyz")
def c_MOST_LAYERS : MV := (.int 5)
def c_MOST_STARTS : MV := (.int 12)
def c_PIECES : MV := (.tup [(.str "choose"), (.str "draw")])
def c_VARIED : MV := (.tup [(.str "cell"), (.str "setting")])
def k_CHOICES : List Str := [("none" : Str), ("choose" : Str), ("draw" : Str), ("spread" : Str), ("twochoose" : Str), ("twodraw" : Str), ("mixed" : Str)]
/-- Book.number_of: 0 self, 1 name, 2 at, 3 layer -/
def b_Book_number_of : MS :=
  (sSeq (sFor (iEnumM (mFld [1] "layers" (mVar 0))) (gtTup 2 (gtCons (gtName 2) (gtCons (gtName 3) gtNil))) (sIf (mTest (mBin gEq (mBin gIx (mVar 3) (mC (.int 1))) (mVar 1))) (sRet (mBin gAdd (mVar 2) (mC (.int 1)))) sNext))
    (sRet (mC (.int 0))))
def m_Book_number_of : List MV → M MV := fnM 4 2 b_Book_number_of
/-- Assembler.hole: 0 self -/
def b_Assembler_hole : MS :=
  (sSeq (sExpr (mBM "list" gAppend (mFld [0] "code" (mVar 0)) (mCons (mTup (mCons (mC (.str "jump")) (mCons (mC (.int 0)) mNil))) mNil)))
    (sRet (mBin gSub (mCallB gLen (mCons (mFld [0] "code" (mVar 0)) mNil)) (mC (.int 1)))))
def m_Assembler_hole : List MV → M MV := fnM 1 1 b_Assembler_hole
/-- Assembler.write: 0 self, 1 expression, 2 scope, 3 word -/
def b_Assembler_write (r_Assembler_write r_Assembler_write_flow r_Assembler_write_value : List MV → M MV) : MS :=
  (sSeq (sAsg (mBin gIx (mVar 1) (mC (.int 0))) (gtName 3))
    (sIf (mTest (mBin (gIn false) (mVar 3) (mC c_FLOWING))) (sExpr (mMeth 0 "write_flow" r_Assembler_write_flow (mVar 0) (mCons (mVar 1) (mCons (mVar 2) mNil)) [])) (sIf (mTest (mBin (gIn false) (mVar 3) (mC c_LAYERED))) (sExpr (mBM "list" gAppend (mFld [0] "code" (mVar 0)) (mCons (mBin gAdd (mTup (mCons (mVar 3) (mCons (mMeth 1 "number_of" m_Book_number_of (mFld [0] "book" (mVar 0)) (mCons (mBin gIx (mVar 1) (mC (.int 1))) mNil) []) mNil))) (mSl (mVar 1) (mPart (mC (.int 2))) mNoPart)) mNil))) (sIf (mTest (mBin (gIn false) (mVar 3) (mC c_PIECES))) (sExpr (mBM "list" gAppend (mFld [0] "code" (mVar 0)) (mCons (mVar 1) mNil))) (sIf (mTest (mBin (gIn false) (mVar 3) (mC c_GIVEN))) (sSeq (sExpr (mMeth 0 "write" r_Assembler_write (mVar 0) (mCons (mBin gIx (mVar 1) (mC (.int 2))) (mCons (mVar 2) mNil)) []))
    (sExpr (mBM "list" gAppend (mFld [0] "code" (mVar 0)) (mCons (mTup (mCons (mVar 3) (mCons (mMeth 1 "number_of" m_Book_number_of (mFld [0] "book" (mVar 0)) (mCons (mBin gIx (mVar 1) (mC (.int 1))) mNil) []) mNil))) mNil)))) (sExpr (mMeth 0 "write_value" r_Assembler_write_value (mVar 0) (mCons (mVar 1) (mCons (mVar 2) mNil)) [])))))))
/-- Assembler.write_flow: 0 self, 1 expression, 2 scope, 3 name, 4 first, 5 rest, 6 test, 7 yes, 8 no, 9 branch, 10 jump, 11 turns, 12 loop, 13 parts, 14 part, 15 kind, 16 body, 17 other, 18 start, 19 end -/
def b_Assembler_write_flow (r_Assembler_write r_Assembler_write_flow r_Assembler_write_value : List MV → M MV) : MS :=
  (sMatch (mVar 1) (mcSeq 4 [(.lit "let"), (.cap 3), (.cap 4), (.cap 5)]
    (sSeq (sExpr (mMeth 0 "write" r_Assembler_write (mVar 0) (mCons (mVar 4) (mCons (mVar 2) mNil)) []))
    (sSeq (sExpr (mBM "list" gAppend (mFld [0] "code" (mVar 0)) (mCons (mTup (mCons (mC (.str "bind")) mNil)) mNil)))
    (sSeq (sExpr (mMeth 0 "write" r_Assembler_write (mVar 0) (mCons (mVar 5) (mCons (mBin gAdd (mVar 2) (mTup (mCons (mVar 3) mNil))) mNil)) []))
    (sExpr (mBM "list" gAppend (mFld [0] "code" (mVar 0)) (mCons (mTup (mCons (mC (.str "unbind")) mNil)) mNil))))))
    (mcSeq 4 [(.lit "if"), (.cap 6), (.cap 7), (.cap 8)]
    (sSeq (sExpr (mMeth 0 "write" r_Assembler_write (mVar 0) (mCons (mVar 6) (mCons (mVar 2) mNil)) []))
    (sSeq (sAsg (mMeth 0 "hole" m_Assembler_hole (mVar 0) mNil []) (gtName 9))
    (sSeq (sExpr (mMeth 0 "write" r_Assembler_write (mVar 0) (mCons (mVar 7) (mCons (mVar 2) mNil)) []))
    (sSeq (sAsg (mMeth 0 "hole" m_Assembler_hole (mVar 0) mNil []) (gtName 10))
    (sSeq (sAsg (mTup (mCons (mC (.str "branch")) (mCons (mCallB gLen (mCons (mFld [0] "code" (mVar 0)) mNil)) mNil))) (gtSub (mFld [0] "code" (mVar 0)) (mVar 9)))
    (sSeq (sExpr (mMeth 0 "write" r_Assembler_write (mVar 0) (mCons (mVar 8) (mCons (mVar 2) mNil)) []))
    (sAsg (mTup (mCons (mC (.str "jump")) (mCons (mCallB gLen (mCons (mFld [0] "code" (mVar 0)) mNil)) mNil))) (gtSub (mFld [0] "code" (mVar 0)) (mVar 10)))))))))
    (mcSeq 5 [(.lit "repeat"), (.cap 11), (.cap 3), (.cap 4), (.cap 5)]
    (sSeq (sExpr (mMeth 0 "write" r_Assembler_write (mVar 0) (mCons (mVar 4) (mCons (mVar 2) mNil)) []))
    (sSeq (sExpr (mBM "list" gAppend (mFld [0] "code" (mVar 0)) (mCons (mTup (mCons (mC (.str "count")) (mCons (mVar 11) mNil))) mNil)))
    (sSeq (sAsg (mCallB gLen (mCons (mFld [0] "code" (mVar 0)) mNil)) (gtName 12))
    (sSeq (sExpr (mBM "list" gAppend (mFld [0] "code" (mVar 0)) (mCons (mTup (mCons (mC (.str "bind")) mNil)) mNil)))
    (sSeq (sExpr (mMeth 0 "write" r_Assembler_write (mVar 0) (mCons (mVar 5) (mCons (mBin gAdd (mVar 2) (mTup (mCons (mVar 3) mNil))) mNil)) []))
    (sSeq (sExpr (mBM "list" gAppend (mFld [0] "code" (mVar 0)) (mCons (mTup (mCons (mC (.str "unbind")) mNil)) mNil)))
    (sExpr (mBM "list" gAppend (mFld [0] "code" (mVar 0)) (mCons (mTup (mCons (mC (.str "again")) (mCons (mVar 12) mNil))) mNil)))))))))
    (mcSeq 3 [(.lit "call"), (.cap 3), (.cap 13)]
    (sSeq (sFor (iOf (mVar 13)) (gtName 14) (sExpr (mMeth 0 "write" r_Assembler_write (mVar 0) (mCons (mVar 14) (mCons (mVar 2) mNil)) [])))
    (sExpr (mBM "list" gAppend (mFld [0] "code" (mVar 0)) (mCons (mTup (mCons (mC (.str "call")) (mCons (mBin gDGet (mFld [0] "places" (mVar 0)) (mVar 3)) (mCons (mCallB gLen (mCons (mVar 13) mNil)) mNil)))) mNil))))
    (mcSeq 5 [(.lit "try"), (.cap 3), (.cap 15), (.cap 16), (.cap 17)]
    (sSeq (sAsg (mMeth 0 "hole" m_Assembler_hole (mVar 0) mNil []) (gtName 18))
    (sSeq (sExpr (mMeth 0 "write" r_Assembler_write (mVar 0) (mCons (mVar 16) (mCons (mVar 2) mNil)) []))
    (sSeq (sAsg (mMeth 0 "hole" m_Assembler_hole (mVar 0) mNil []) (gtName 19))
    (sSeq (sAsg (mTup (mCons (mC (.str "try")) (mCons (mMeth 1 "number_of" m_Book_number_of (mFld [0] "book" (mVar 0)) (mCons (mVar 3) mNil) []) (mCons (mVar 15) (mCons (mCallB gLen (mCons (mFld [0] "code" (mVar 0)) mNil)) mNil))))) (gtSub (mFld [0] "code" (mVar 0)) (mVar 18)))
    (sSeq (sExpr (mMeth 0 "write" r_Assembler_write (mVar 0) (mCons (mVar 17) (mCons (mVar 2) mNil)) []))
    (sAsg (mTup (mCons (mC (.str "untry")) (mCons (mCallB gLen (mCons (mFld [0] "code" (mVar 0)) mNil)) mNil))) (gtSub (mFld [0] "code" (mVar 0)) (mVar 19))))))))
    mcNil))))))
/-- Assembler.write_value: 0 self, 1 expression, 2 scope, 3 number, 4 name, 5 inner, 6 word, 7 parts, 8 part -/
def b_Assembler_write_value (r_Assembler_write r_Assembler_write_flow r_Assembler_write_value : List MV → M MV) : MS :=
  (sMatch (mVar 1) (mcSeq 2 [(.lit "num"), (.cap 3)]
    (sExpr (mBM "list" gAppend (mFld [0] "code" (mVar 0)) (mCons (mTup (mCons (mC (.str "push")) (mCons (mVar 3) mNil))) mNil)))
    (mcSeq 2 [(.lit "var"), (.cap 4)]
    (sExpr (mBM "list" gAppend (mFld [0] "code" (mVar 0)) (mCons (mTup (mCons (mC (.str "load")) (mCons (mRevIx (mVar 2) (mVar 4)) mNil))) mNil)))
    (mcSeq 3 [(.lit "mod"), (.cap 5), (.cap 3)]
    (sSeq (sExpr (mMeth 0 "write" r_Assembler_write (mVar 0) (mCons (mVar 5) (mCons (mVar 2) mNil)) []))
    (sExpr (mBM "list" gAppend (mFld [0] "code" (mVar 0)) (mCons (mTup (mCons (mC (.str "mod")) (mCons (mVar 3) mNil))) mNil))))
    (mcStar 1 [(.cap 6)] 7
    (sSeq (sFor (iOf (mVar 7)) (gtName 8) (sExpr (mMeth 0 "write" r_Assembler_write (mVar 0) (mCons (mVar 8) (mCons (mVar 2) mNil)) [])))
    (sExpr (mBM "list" gAppend (mFld [0] "code" (mVar 0)) (mCons (mTup (mCons (mVar 6) mNil)) mNil))))
    mcNil)))))
def fam_Assembler_write : Nat → (List MV → M MV) × (List MV → M MV) × (List MV → M MV)
  | 0 => (badM, badM, badM)
  | n + 1 => (fnM 4 3 (b_Assembler_write (fam_Assembler_write n).1 (fam_Assembler_write n).2.1 (fam_Assembler_write n).2.2), fnM 20 3 (b_Assembler_write_flow (fam_Assembler_write n).1 (fam_Assembler_write n).2.1 (fam_Assembler_write n).2.2), fnM 9 3 (b_Assembler_write_value (fam_Assembler_write n).1 (fam_Assembler_write n).2.1 (fam_Assembler_write n).2.2))
def m_Assembler_write (n : Nat) : List MV → M MV := (fam_Assembler_write n).1
def m_Assembler_write_flow (n : Nat) : List MV → M MV := (fam_Assembler_write n).2.1
def m_Assembler_write_value (n : Nat) : List MV → M MV := (fam_Assembler_write n).2.2
theorem m_Assembler_write_0 : m_Assembler_write 0 = badM := rfl
theorem m_Assembler_write_s (n : Nat) : m_Assembler_write (n + 1) = fnM 4 3 (b_Assembler_write (m_Assembler_write n) (m_Assembler_write_flow n) (m_Assembler_write_value n)) := rfl
theorem m_Assembler_write_flow_0 : m_Assembler_write_flow 0 = badM := rfl
theorem m_Assembler_write_flow_s (n : Nat) : m_Assembler_write_flow (n + 1) = fnM 20 3 (b_Assembler_write_flow (m_Assembler_write n) (m_Assembler_write_flow n) (m_Assembler_write_value n)) := rfl
theorem m_Assembler_write_value_0 : m_Assembler_write_value 0 = badM := rfl
theorem m_Assembler_write_value_s (n : Nat) : m_Assembler_write_value (n + 1) = fnM 9 3 (b_Assembler_write_value (m_Assembler_write n) (m_Assembler_write_flow n) (m_Assembler_write_value n)) := rfl
/-- Assembler.__init__: 0 self, 1 book -/
def b_Assembler_init : MS :=
  (sSeq (sFldM [0] "book" (mVar 0) (mVar 1))
    (sSeq (sFldM [0] "code" (mVar 0) (mLst mNil))
    (sFldM [0] "places" (mVar 0) mDNew)))
def m_Assembler_init : List MV → M MV := fnM 2 2 b_Assembler_init
/-- compiled: 0 book, 1 program, 2 functions, 3 main, 4 assembler, 5 entry, 6 name, 7 params, 8 body, 9 start, 10 param, 11 _ -/
def b_compiled : MS :=
  (sSeq (sAsg (mVar 1) (gtTup 2 (gtCons (gtName 2) (gtCons (gtName 3) gtNil))))
    (sSeq (sAsg (mMake 0 m_Assembler_init (mCons (mVar 0) mNil) []) (gtName 4))
    (sSeq (sAsg (mMeth 0 "hole" m_Assembler_hole (mVar 4) mNil []) (gtName 5))
    (sSeq (sFor (iOf (mVar 2)) (gtTup 3 (gtCons (gtName 6) (gtCons (gtName 7) (gtCons (gtName 8) gtNil)))) (sSeq (sAsg (mCallB gLen (mCons (mFld [0] "code" (mVar 4)) mNil)) (gtName 9))
    (sSeq (sExpr (mMeth 0 "write" (m_Assembler_write 60) (mVar 4) (mCons (mVar 8) (mCons (mCallB gTuple (mCons (mLc (iOf (mVar 7)) [10, 11] (.tp [10, 11]) mYes (mVar 10)) mNil)) mNil)) []))
    (sSeq (sExpr (mBM "list" gAppend (mFld [0] "code" (mVar 4)) (mCons (mTup (mCons (mC (.str "return")) (mCons (mCallB gLen (mCons (mVar 7) mNil)) mNil))) mNil)))
    (sDSet (mFld [0] "places" (mVar 4)) (mVar 6) (mVar 9))))))
    (sSeq (sAsg (mTup (mCons (mC (.str "jump")) (mCons (mCallB gLen (mCons (mFld [0] "code" (mVar 4)) mNil)) mNil))) (gtSub (mFld [0] "code" (mVar 4)) (mVar 5)))
    (sSeq (sExpr (mMeth 0 "write" (m_Assembler_write 60) (mVar 4) (mCons (mVar 3) (mCons (mTup mNil) mNil)) []))
    (sSeq (sExpr (mBM "list" gAppend (mFld [0] "code" (mVar 4)) (mCons (mTup (mCons (mC (.str "done")) mNil)) mNil)))
    (sRet (mCallB gTuple (mCons (mFld [0] "code" (mVar 4)) mNil))))))))))
def m_compiled : List MV → M MV := fnM 12 2 b_compiled
/-- is_name: 0 token, 1 sign -/
def b_is_name : MS :=
  (sSeq (sFor (iOf (mVar 0)) (gtName 1) (sIf (mTest (mBin (gIn true) (mVar 1) (mC c_LETTERS))) (sRet (mC (.bl false))) sNext))
    (sRet (mChain gLe gLe (mC (.int 1)) (mCallB gLen (mCons (mVar 0) mNil)) (mC (.int 6)))))
def m_is_name : List MV → M MV := fnM 2 1 b_is_name
/-- is_monoid: 0 table, 1 size, 2 row, 3 a, 4 b, 5 c, 6 member -/
def b_is_monoid : MS :=
  (sSeq (sAsg (mCallB gLen (mCons (mVar 0) mNil)) (gtName 1))
    (sSeq (sIf (mNot (mTest (mChain gLe gLe (mC (.int 2)) (mVar 1) (mC (.int 6))))) (sRet (mC (.bl false))) sNext)
    (sSeq (sFor (iOf (mVar 0)) (gtName 2) (sIf (mOr (mTest (mBin gNe (mCallB gLen (mCons (mVar 2) mNil)) (mVar 1))) (mNot (mTru (mCallB gAll (mCons (mLc (iOf (mVar 2)) [6] (.nm 6) mYes (mChain gLe gLt (mC (.int 0)) (mVar 6) (mVar 1))) mNil))))) (sRet (mC (.bl false))) sNext))
    (sSeq (sFor (iRange1 (mCons (mVar 1) mNil)) (gtName 3) (sSeq (sIf (mOr (mTest (mBin gNe (mBin gIx (mBin gIx (mVar 0) (mC (.int 0))) (mVar 3)) (mVar 3))) (mTest (mBin gNe (mBin gIx (mBin gIx (mVar 0) (mVar 3)) (mC (.int 0))) (mVar 3)))) (sRet (mC (.bl false))) sNext)
    (sFor (iRange1 (mCons (mVar 1) mNil)) (gtName 4) (sFor (iRange1 (mCons (mVar 1) mNil)) (gtName 5) (sIf (mTest (mBin gNe (mBin gIx (mBin gIx (mVar 0) (mBin gIx (mBin gIx (mVar 0) (mVar 3)) (mVar 4))) (mVar 5)) (mBin gIx (mBin gIx (mVar 0) (mVar 3)) (mBin gIx (mBin gIx (mVar 0) (mVar 4)) (mVar 5))))) (sRet (mC (.bl false))) sNext)))))
    (sRet (mC (.bl true)))))))
def m_is_monoid : List MV → M MV := fnM 7 1 b_is_monoid
/-- is_layer: 0 layer, 1 ways -/
def b_is_layer : MS :=
  (sSeq (sIf (mNot (mTru (mCallF m_is_name (mCons (mBin gIx (mVar 0) (mC (.int 1))) mNil) []))) (sRet (mC (.bl false))) sNext)
    (sSeq (sIf (mTest (mBin (gIn false) (mBin gIx (mVar 0) (mC (.int 0))) (mC c_VARIED))) (sRet (mChain gLe gLe (mC (.int 2)) (mBin gIx (mVar 0) (mC (.int 2))) (mC (.int 3)))) sNext)
    (sSeq (sIf (mTest (mBin gEq (mBin gIx (mVar 0) (mC (.int 0))) (mC (.str "fail")))) (sRet (mChain gLe gLe (mC (.int 1)) (mBin gIx (mVar 0) (mC (.int 2))) (mC (.int 3)))) sNext)
    (sSeq (sIf (mTest (mBin gEq (mBin gIx (mVar 0) (mC (.int 0))) (mC (.str "note")))) (sRet (mCallF m_is_monoid (mCons (mBin gIx (mVar 0) (mC (.int 2))) mNil) [])) sNext)
    (sSeq (sIf (mTest (mBin gEq (mBin gIx (mVar 0) (mC (.int 0))) (mC (.str "outside")))) (sRet (mAndV (mChain gLe gLe (mC (.int 1)) (mCallB gLen (mCons (mBin gIx (mVar 0) (mC (.int 2))) mNil)) (mC (.int 2))) (mCallB gAll (mCons (mLc (iOf (mBin gIx (mVar 0) (mC (.int 2)))) [1] (.nm 1) mYes (mChain gLe gLe (mC (.int 1)) (mVar 1) (mC (.int 3)))) mNil)))) sNext)
    (sRet (mC (.bl false))))))))
def m_is_layer : List MV → M MV := fnM 2 1 b_is_layer
/-- _law_row: 0 script, 1 k, 2 count, 3 cell, 4 row, 5 at, 6 seed -/
def b_law_row : MS :=
  (sSeq (sAsg (mC (.int 0)) (gtName 3))
    (sSeq (sIf (mTest (mBin gLt (mVar 1) (mCallB gLen (mCons (mVar 0) mNil)))) (sAsg (mCallB gInt (mCons (mBin gIx (mVar 0) (mVar 1)) mNil)) (gtName 3)) sNext)
    (sSeq (sAsg (mLst mNil) (gtName 4))
    (sSeq (sIf (mTest (mBin gGe (mVar 3) (mBin gPow (mC (.int 10)) (mC (.int 18))))) (sSeq (sFor (iRange1 (mCons (mVar 2) mNil)) (gtName 5) (sSeq (sExpr (mBM "list" gAppend (mVar 4) (mCons (mBin gMod (mCallB gInt (mCons (mVar 3) mNil)) (mC (.int 1000))) mNil)))
    (sAsg (mBin gDiv (mVar 3) (mC (.int 1000))) (gtName 3))))
    (sRet (mVar 4))) sNext)
    (sSeq (sAsg (mBin gMod (mCallB gInt (mCons (mBin gAdd (mBin gAdd (mBin gMul (mVar 3) (mC (.int 48271))) (mBin gMul (mVar 1) (mC (.int 69621)))) (mC (.int 11))) mNil)) (mC (.int 2147483647))) (gtName 6))
    (sSeq (sFor (iRange1 (mCons (mVar 2) mNil)) (gtName 5) (sSeq (sAsg (mBin gMod (mCallB gInt (mCons (mBin gAdd (mBin gAdd (mBin gMul (mVar 6) (mC (.int 16807))) (mBin gMul (mVar 5) (mC (.int 7919)))) (mC (.int 101))) mNil)) (mC (.int 2147483647))) (gtName 6))
    (sExpr (mBM "list" gAppend (mVar 4) (mCons (mBin gMod (mBin gDiv (mVar 6) (mC (.int 65536))) (mC (.int 1000))) mNil)))))
    (sRet (mVar 4))))))))
def m_law_row : List MV → M MV := fnM 7 3 b_law_row
/-- _law_is_integer: 0 actual -/
def b_law_is_integer : MS :=
  (sRet (mAndV (mCallB gIsi (mCons (mVar 0) (mCons (mC (.ty "int")) mNil))) (mNotV (mCallB gIsi (mCons (mVar 0) (mCons (mC (.ty "bool")) mNil))))))
def m_law_is_integer : List MV → M MV := fnM 1 1 b_law_is_integer
/-- _law_layer: 0 word, 1 name, 2 pick, 3 room, 4 size, 5 menu -/
def b_law_layer : MS :=
  (sSeq (sIf (mAnd (mTest (mBin gLt (mVar 0) (mC (.int 2)))) (mTest (mBin gGe (mVar 3) (mC (.int 2))))) (sSeq (sAsg (mC (.int 2)) (gtName 4))
    (sSeq (sIf (mAnd (mTest (mBin gGe (mVar 3) (mC (.int 3)))) (mTest (mBin gEq (mBin gMod (mVar 2) (mC (.int 5))) (mC (.int 0))))) (sAsg (mC (.int 3)) (gtName 4)) sNext)
    (sRet (mTup (mCons (mBin gIx (mLst (mCons (mC (.str "cell")) (mCons (mC (.str "setting")) mNil))) (mVar 0)) (mCons (mVar 1) (mCons (mVar 4) mNil))))))) sNext)
    (sSeq (sIf (mTest (mBin gLt (mVar 0) (mC (.int 3)))) (sSeq (sAsg (mLst (mCons (mTup (mCons (mTup (mCons (mC (.int 0)) (mCons (mC (.int 1)) mNil))) (mCons (mTup (mCons (mC (.int 1)) (mCons (mC (.int 0)) mNil))) mNil))) (mCons (mTup (mCons (mTup (mCons (mC (.int 0)) (mCons (mC (.int 1)) mNil))) (mCons (mTup (mCons (mC (.int 1)) (mCons (mC (.int 1)) mNil))) mNil))) (mCons (mTup (mCons (mTup (mCons (mC (.int 0)) (mCons (mC (.int 1)) (mCons (mC (.int 2)) mNil)))) (mCons (mTup (mCons (mC (.int 1)) (mCons (mC (.int 2)) (mCons (mC (.int 0)) mNil)))) (mCons (mTup (mCons (mC (.int 2)) (mCons (mC (.int 0)) (mCons (mC (.int 1)) mNil)))) mNil)))) (mCons (mTup (mCons (mTup (mCons (mC (.int 0)) (mCons (mC (.int 1)) (mCons (mC (.int 2)) mNil)))) (mCons (mTup (mCons (mC (.int 1)) (mCons (mC (.int 1)) (mCons (mC (.int 1)) mNil)))) (mCons (mTup (mCons (mC (.int 2)) (mCons (mC (.int 2)) (mCons (mC (.int 2)) mNil)))) mNil)))) mNil))))) (gtName 5))
    (sRet (mTup (mCons (mC (.str "note")) (mCons (mVar 1) (mCons (mBin gIx (mVar 5) (mBin gMod (mCallB gInt (mCons (mVar 2) mNil)) (mC (.int 4)))) mNil)))))) sNext)
    (sSeq (sIf (mTest (mBin gEq (mVar 0) (mC (.int 3)))) (sRet (mTup (mCons (mC (.str "fail")) (mCons (mVar 1) (mCons (mBin gAdd (mC (.int 1)) (mBin gMod (mCallB gInt (mCons (mVar 2) mNil)) (mC (.int 2)))) mNil))))) sNext)
    (sRet (mTup (mCons (mC (.str "outside")) (mCons (mVar 1) (mCons (mBin gIx (mLst (mCons (mTup (mCons (mC (.int 1)) mNil)) (mCons (mTup (mCons (mC (.int 2)) mNil)) (mCons (mTup (mCons (mC (.int 2)) mNil)) (mCons (mTup (mCons (mC (.int 1)) (mCons (mC (.int 2)) mNil))) (mCons (mTup (mCons (mC (.int 2)) (mCons (mC (.int 1)) mNil))) mNil)))))) (mBin gMod (mCallB gInt (mCons (mVar 2) mNil)) (mC (.int 5)))) mNil))))))))
def m_law_layer : List MV → M MV := fnM 6 4 b_law_layer
/-- _law_book: 0 row, 1 room, 2 kernel, 3 layers, 4 at, 5 name, 6 layer -/
def b_law_book : MS :=
  (sSeq (sAsg (mBin gIx (mLst (mCons (mC (.str "none")) (mCons (mC (.str "choose")) (mCons (mC (.str "draw")) (mCons (mC (.str "spread")) (mCons (mC (.str "twochoose")) (mCons (mC (.str "twodraw")) (mCons (mC (.str "mixed")) mNil)))))))) (mBin gMod (mCallB gInt (mCons (mBin gIx (mVar 0) (mC (.int 0))) mNil)) (mC (.int 7)))) (gtName 2))
    (sSeq (sAsg (mLst mNil) (gtName 3))
    (sSeq (sFor (iRange1 (mCons (mBin gIx (mLst (mCons (mC (.int 0)) (mCons (mC (.int 1)) (mCons (mC (.int 2)) (mCons (mC (.int 2)) (mCons (mC (.int 3)) (mCons (mC (.int 3)) (mCons (mC (.int 3)) (mCons (mC (.int 4)) mNil))))))))) (mBin gMod (mCallB gInt (mCons (mBin gIx (mVar 0) (mC (.int 1))) mNil)) (mC (.int 8)))) mNil)) (gtName 4) (sSeq (sAsg (mBin gAdd (mBin gIx (mC (.str "pqrstuvw")) (mBin gMod (mCallB gInt (mCons (mBin gIx (mVar 0) (mC (.int 10))) mNil)) (mC (.int 8)))) (mBin gMul (mBin gIx (mC (.str "abcd")) (mVar 4)) (mBin gAdd (mC (.int 1)) (mBin gMod (mCallB gInt (mCons (mBin gAdd (mBin gIx (mVar 0) (mC (.int 11))) (mVar 4)) mNil)) (mC (.int 3)))))) (gtName 5))
    (sSeq (sAsg (mCallF m_law_layer (mCons (mBin gMod (mCallB gInt (mCons (mBin gIx (mVar 0) (mBin gAdd (mC (.int 2)) (mBin gMul (mC (.int 2)) (mVar 4)))) mNil)) (mC (.int 5))) (mCons (mVar 5) (mCons (mBin gIx (mVar 0) (mBin gAdd (mC (.int 3)) (mBin gMul (mC (.int 2)) (mVar 4)))) (mCons (mVar 1) mNil)))) []) (gtName 6))
    (sSeq (sIf (mOr (mTest (mBin gEq (mBin gIx (mVar 6) (mC (.int 0))) (mC (.str "cell")))) (mTest (mBin gEq (mBin gIx (mVar 6) (mC (.int 0))) (mC (.str "setting"))))) (sAsg (mBin gDiv (mVar 1) (mBin gIx (mVar 6) (mC (.int 2)))) (gtName 1)) sNext)
    (sExpr (mBM "list" gAppend (mVar 3) (mCons (mVar 6) mNil)))))))
    (sRet (mTup (mCons (mVar 2) (mCons (mCallB gTuple (mCons (mVar 3) mNil)) mNil)))))))
def m_law_book : List MV → M MV := fnM 7 2 b_law_book
/-- _law_leaves: 0 kernel, 1 layers, 2 items, 3 piece, 4 layer, 5 deed, 6 ways, 7 value -/
def b_law_leaves : MS :=
  (sSeq (sAsg (mLc (iRange1 (mCons (mC (.int 3)) mNil)) [7] (.nm 7) mYes (mLst (mCons (mTup (mCons (mC (.str "num")) (mCons (mVar 7) mNil))) (mCons (mBin gAdd (mVar 7) (mC (.int 1))) (mCons (mC (.int 1)) (mCons (mC (.int 1)) (mCons (mC (.int 0)) (mCons (mC (.int 0)) mNil)))))))) (gtName 2))
    (sSeq (sAsg (mBin gAdd (mVar 2) (mLst (mCons (mLst (mCons (mTup (mCons (mC (.str "var")) (mCons (mC (.str "x")) mNil))) (mCons (mC (.int 2)) (mCons (mC (.int 1)) (mCons (mC (.int 1)) (mCons (mC (.int 0)) (mCons (mC (.int 0)) mNil))))))) (mCons (mLst (mCons (mTup (mCons (mC (.str "var")) (mCons (mC (.str "y")) mNil))) (mCons (mC (.int 3)) (mCons (mC (.int 1)) (mCons (mC (.int 1)) (mCons (mC (.int 0)) (mCons (mC (.int 0)) mNil))))))) (mCons (mLst (mCons (mTup (mCons (mC (.str "var")) (mCons (mC (.str "z")) mNil))) (mCons (mTup (mCons (mC (.int 2)) (mCons (mC (.int 2)) mNil))) (mCons (mC (.int 1)) (mCons (mC (.int 1)) (mCons (mC (.int 0)) (mCons (mC (.int 0)) mNil))))))) mNil))))) (gtName 2))
    (sSeq (sFor (iRange1 (mCons (mDGet2 (mDC [("choose", 1), ("spread", 1), ("twochoose", 2), ("mixed", 1)]) (mVar 0) (mC (.int 0))) mNil)) (gtName 3) (sExpr (mBM "list" gAppend (mVar 2) (mCons (mLst (mCons (mTup (mCons (mC (.str "choose")) (mCons (mVar 3) mNil))) (mCons (mC (.int 2)) (mCons (mC (.int 3)) (mCons (mC (.int 2)) (mCons (mC (.int 0)) (mCons (mC (.int 1)) mNil))))))) mNil))))
    (sSeq (sFor (iRange1 (mCons (mDGet2 (mDC [("draw", 1), ("spread", 1), ("twodraw", 2), ("mixed", 1)]) (mVar 0) (mC (.int 0))) mNil)) (gtName 3) (sSeq (sExpr (mBM "list" gAppend (mVar 2) (mCons (mLst (mCons (mTup (mCons (mC (.str "draw")) (mCons (mVar 3) (mCons (mC (.int 1)) (mCons (mC (.int 2)) mNil))))) (mCons (mC (.int 2)) (mCons (mC (.int 3)) (mCons (mC (.int 2)) (mCons (mC (.int 0)) (mCons (mC (.int 1)) mNil))))))) mNil)))
    (sExpr (mBM "list" gAppend (mVar 2) (mCons (mLst (mCons (mTup (mCons (mC (.str "draw")) (mCons (mVar 3) (mCons (mC (.int 2)) (mCons (mC (.int 5)) mNil))))) (mCons (mC (.int 2)) (mCons (mC (.int 3)) (mCons (mC (.int 2)) (mCons (mC (.int 0)) (mCons (mC (.int 1)) mNil))))))) mNil)))))
    (sSeq (sFor (iOf (mVar 1)) (gtName 4) (sSeq (sIf (mTest (mBin gEq (mBin gIx (mVar 4) (mC (.int 0))) (mC (.str "cell")))) (sExpr (mBM "list" gAppend (mVar 2) (mCons (mLst (mCons (mTup (mCons (mC (.str "get")) (mCons (mBin gIx (mVar 4) (mC (.int 1))) mNil))) (mCons (mBin gIx (mVar 4) (mC (.int 2))) (mCons (mBin gAdd (mC (.int 1)) (mBin gIx (mVar 4) (mC (.int 2)))) (mCons (mBin gIx (mVar 4) (mC (.int 2))) (mCons (mC (.int 0)) (mCons (mC (.int 1)) mNil))))))) mNil))) sNext)
    (sSeq (sIf (mTest (mBin gEq (mBin gIx (mVar 4) (mC (.int 0))) (mC (.str "setting")))) (sExpr (mBM "list" gAppend (mVar 2) (mCons (mLst (mCons (mTup (mCons (mC (.str "look")) (mCons (mBin gIx (mVar 4) (mC (.int 1))) mNil))) (mCons (mBin gIx (mVar 4) (mC (.int 2))) (mCons (mBin gAdd (mC (.int 1)) (mBin gIx (mVar 4) (mC (.int 2)))) (mCons (mBin gIx (mVar 4) (mC (.int 2))) (mCons (mC (.int 0)) (mCons (mC (.int 1)) mNil))))))) mNil))) sNext)
    (sSeq (sIf (mTest (mBin gEq (mBin gIx (mVar 4) (mC (.int 0))) (mC (.str "fail")))) (sExpr (mBM "list" gAppend (mVar 2) (mCons (mLst (mCons (mTup (mCons (mC (.str "fail")) (mCons (mBin gIx (mVar 4) (mC (.int 1))) (mCons (mBin gSub (mBin gIx (mVar 4) (mC (.int 2))) (mC (.int 1))) mNil)))) (mCons (mC (.int 0)) (mCons (mC (.int 1)) (mCons (mC (.int 0)) (mCons (mC (.int 1)) (mCons (mC (.int 1)) mNil))))))) mNil))) sNext)
    (sIf (mTest (mBin gEq (mBin gIx (mVar 4) (mC (.int 0))) (mC (.str "outside")))) (sFor (iRange1 (mCons (mCallB gLen (mCons (mBin gIx (mVar 4) (mC (.int 2))) mNil)) mNil)) (gtName 5) (sSeq (sAsg (mBin gIx (mBin gIx (mVar 4) (mC (.int 2))) (mVar 5)) (gtName 6))
    (sExpr (mBM "list" gAppend (mVar 2) (mCons (mLst (mCons (mTup (mCons (mC (.str "ask")) (mCons (mBin gIx (mVar 4) (mC (.int 1))) (mCons (mVar 5) mNil)))) (mCons (mVar 6) (mCons (mBin gAdd (mC (.int 1)) (mVar 6)) (mCons (mVar 6) (mCons (mC (.int 0)) (mCons (mC (.int 1)) mNil))))))) mNil))))) sNext)))))
    (sRet (mVar 2)))))))
def m_law_leaves : List MV → M MV := fnM 8 2 b_law_leaves
/-- _law_number: 0 item, 1 below -/
def b_law_number : MS :=
  (sSeq (sIf (mTru (mCallB gIsi (mCons (mBin gIx (mVar 0) (mC (.int 1))) (mCons (mC (.ty "tuple")) mNil)))) (sRet (mTup (mCons (mC (.str "mod")) (mCons (mTup (mCons (mC (.str "first")) (mCons (mBin gIx (mVar 0) (mC (.int 0))) mNil))) (mCons (mVar 1) mNil))))) sNext)
    (sSeq (sIf (mTest (mBin gGt (mBin gIx (mVar 0) (mC (.int 1))) (mVar 1))) (sRet (mTup (mCons (mC (.str "mod")) (mCons (mBin gIx (mVar 0) (mC (.int 0))) (mCons (mVar 1) mNil))))) sNext)
    (sRet (mBin gIx (mVar 0) (mC (.int 0))))))
def m_law_number : List MV → M MV := fnM 2 2 b_law_number
/-- _law_unary: 0 row, 1 a, 2 layers, 3 way, 4 bounds, 5 targets, 6 below, 7 layer -/
def b_law_unary : MS :=
  (sSeq (sAsg (mBin gMod (mCallB gInt (mCons (mBin gIx (mVar 0) (mC (.int 2))) mNil)) (mC (.int 2))) (gtName 3))
    (sSeq (sAsg (mLst (mCons (mBin gAdd (mBin gIx (mVar 1) (mC (.int 2))) (mC (.int 1))) (mCons (mBin gIx (mVar 1) (mC (.int 3))) (mCons (mBin gIx (mVar 1) (mC (.int 4))) (mCons (mBin gAdd (mBin gIx (mVar 1) (mC (.int 5))) (mC (.int 1))) mNil))))) (gtName 4))
    (sSeq (sIf (mTru (mCallB gIsi (mCons (mBin gIx (mVar 1) (mC (.int 1))) (mCons (mC (.ty "tuple")) mNil)))) (sRet (mBin gAdd (mLst (mCons (mTup (mCons (mBin gIx (mLst (mCons (mC (.str "first")) (mCons (mC (.str "second")) mNil))) (mVar 3)) (mCons (mBin gIx (mVar 1) (mC (.int 0))) mNil))) (mCons (mBin gIx (mBin gIx (mVar 1) (mC (.int 1))) (mVar 3)) mNil))) (mVar 4))) sNext)
    (sSeq (sAsg (mLc (iOf (mVar 2)) [7] (.nm 7) (mOr (mTest (mBin gEq (mBin gIx (mVar 7) (mC (.int 0))) (mC (.str "cell")))) (mTest (mBin gEq (mBin gIx (mVar 7) (mC (.int 0))) (mC (.str "note"))))) (mVar 7)) (gtName 5))
    (sSeq (sIf (mOr (mTest (mBin gEq (mBin gMod (mBin gIx (mVar 0) (mC (.int 1))) (mC (.int 5))) (mC (.int 0)))) (mTest (mBin gEq (mVar 5) (mLst mNil)))) (sSeq (sAsg (mBin gAdd (mC (.int 1)) (mBin gMod (mCallB gInt (mCons (mBin gIx (mVar 0) (mC (.int 2))) mNil)) (mC (.int 3)))) (gtName 6))
    (sRet (mBin gAdd (mLst (mCons (mTup (mCons (mC (.str "mod")) (mCons (mBin gIx (mVar 1) (mC (.int 0))) (mCons (mVar 6) mNil)))) (mCons (mCallB gMin (mCons (mBin gIx (mVar 1) (mC (.int 1))) (mCons (mVar 6) mNil))) mNil))) (mVar 4)))) sNext)
    (sSeq (sAsg (mBin gIx (mVar 5) (mBin gMod (mCallB gInt (mCons (mBin gIx (mVar 0) (mC (.int 2))) mNil)) (mCallB gLen (mCons (mVar 5) mNil)))) (gtName 7))
    (sSeq (sAsg (mLst (mCons (mBin gAdd (mBin gAdd (mBin gIx (mVar 1) (mC (.int 2))) (mBin gIx (mVar 1) (mC (.int 3)))) (mC (.int 3))) (mCons (mBin gIx (mVar 1) (mC (.int 3))) (mCons (mBin gIx (mVar 1) (mC (.int 4))) (mCons (mBin gAdd (mBin gIx (mVar 1) (mC (.int 5))) (mC (.int 3))) mNil))))) (gtName 4))
    (sSeq (sIf (mTest (mBin gEq (mBin gIx (mVar 7) (mC (.int 0))) (mC (.str "cell")))) (sRet (mBin gAdd (mLst (mCons (mTup (mCons (mC (.str "put")) (mCons (mBin gIx (mVar 7) (mC (.int 1))) (mCons (mCallF m_law_number (mCons (mVar 1) (mCons (mBin gIx (mVar 7) (mC (.int 2))) mNil)) []) mNil)))) (mCons (mC (.int 1)) mNil))) (mVar 4))) sNext)
    (sRet (mBin gAdd (mLst (mCons (mTup (mCons (mC (.str "note")) (mCons (mBin gIx (mVar 7) (mC (.int 1))) (mCons (mCallF m_law_number (mCons (mVar 1) (mCons (mCallB gLen (mCons (mBin gIx (mVar 7) (mC (.int 2))) mNil)) mNil)) []) mNil)))) (mCons (mC (.int 1)) mNil))) (mVar 4)))))))))))
def m_law_unary : List MV → M MV := fnM 8 3 b_law_unary
/-- _law_binary: 0 row, 1 a, 2 b, 3 bounds, 4 plain -/
def b_law_binary : MS :=
  (sSeq (sAsg (mLst (mCons (mBin gAdd (mBin gAdd (mBin gIx (mVar 1) (mC (.int 2))) (mBin gMul (mCallB gMax (mCons (mC (.int 1)) (mCons (mBin gIx (mVar 1) (mC (.int 3))) mNil))) (mBin gIx (mVar 2) (mC (.int 2))))) (mC (.int 3))) (mCons (mBin gMul (mBin gIx (mVar 1) (mC (.int 3))) (mBin gIx (mVar 2) (mC (.int 3)))) (mCons (mBin gAdd (mBin gIx (mVar 1) (mC (.int 4))) (mBin gMul (mBin gIx (mVar 1) (mC (.int 3))) (mBin gIx (mVar 2) (mC (.int 4))))) (mCons (mBin gAdd (mCallB gMax (mCons (mBin gIx (mVar 1) (mC (.int 5))) (mCons (mBin gIx (mVar 2) (mC (.int 5))) mNil))) (mC (.int 3))) mNil))))) (gtName 3))
    (sSeq (sAsg (mAndV (mNotV (mCallB gIsi (mCons (mBin gIx (mVar 1) (mC (.int 1))) (mCons (mC (.ty "tuple")) mNil)))) (mNotV (mCallB gIsi (mCons (mBin gIx (mVar 2) (mC (.int 1))) (mCons (mC (.ty "tuple")) mNil))))) (gtName 4))
    (sSeq (sIf (mAnd (mTest (mBin gEq (mBin gMod (mBin gIx (mVar 0) (mC (.int 1))) (mC (.int 7))) (mC (.int 0)))) (mTru (mVar 4))) (sRet (mBin gAdd (mLst (mCons (mTup (mCons (mC (.str "pair")) (mCons (mBin gIx (mVar 1) (mC (.int 0))) (mCons (mBin gIx (mVar 2) (mC (.int 0))) mNil)))) (mCons (mTup (mCons (mBin gIx (mVar 1) (mC (.int 1))) (mCons (mBin gIx (mVar 2) (mC (.int 1))) mNil))) mNil))) (mVar 3))) sNext)
    (sSeq (sIf (mAnd (mTest (mBin gEq (mBin gMod (mBin gIx (mVar 0) (mC (.int 1))) (mC (.int 7))) (mC (.int 1)))) (mAnd (mTru (mVar 4)) (mTest (mBin gLe (mBin gAdd (mBin gIx (mVar 1) (mC (.int 1))) (mBin gIx (mVar 2) (mC (.int 1)))) (mC (.int 13)))))) (sRet (mBin gAdd (mLst (mCons (mTup (mCons (mC (.str "sum")) (mCons (mBin gIx (mVar 1) (mC (.int 0))) (mCons (mBin gIx (mVar 2) (mC (.int 0))) mNil)))) (mCons (mCallB gMax (mCons (mC (.int 0)) (mCons (mBin gSub (mBin gAdd (mBin gIx (mVar 1) (mC (.int 1))) (mBin gIx (mVar 2) (mC (.int 1)))) (mC (.int 1))) mNil))) mNil))) (mVar 3))) sNext)
    (sSeq (sIf (mAnd (mTest (mBin gEq (mBin gMod (mBin gIx (mVar 0) (mC (.int 1))) (mC (.int 7))) (mC (.int 2)))) (mTru (mVar 4))) (sRet (mBin gAdd (mLst (mCons (mTup (mCons (mC (.str "same")) (mCons (mBin gIx (mVar 1) (mC (.int 0))) (mCons (mBin gIx (mVar 2) (mC (.int 0))) mNil)))) (mCons (mC (.int 2)) mNil))) (mVar 3))) sNext)
    (sSeq (sIf (mAnd (mTru (mCallB gIsi (mCons (mBin gIx (mVar 1) (mC (.int 1))) (mCons (mC (.ty "tuple")) mNil)))) (mTest (mBin gLe (mCallB gMax (mCons (mBin gIx (mVar 1) (mC (.int 1))) mNil)) (mC (.int 2))))) (sRet (mBin gAdd (mLst (mCons (mTup (mCons (mC (.str "let")) (mCons (mC (.str "z")) (mCons (mBin gIx (mVar 1) (mC (.int 0))) (mCons (mBin gIx (mVar 2) (mC (.int 0))) mNil))))) (mCons (mBin gIx (mVar 2) (mC (.int 1))) mNil))) (mVar 3))) sNext)
    (sSeq (sIf (mTest (mBin gEq (mBin gMod (mBin gIx (mVar 0) (mC (.int 2))) (mC (.int 2))) (mC (.int 0)))) (sRet (mBin gAdd (mLst (mCons (mTup (mCons (mC (.str "let")) (mCons (mC (.str "x")) (mCons (mCallF m_law_number (mCons (mVar 1) (mCons (mC (.int 2)) mNil)) []) (mCons (mBin gIx (mVar 2) (mC (.int 0))) mNil))))) (mCons (mBin gIx (mVar 2) (mC (.int 1))) mNil))) (mVar 3))) sNext)
    (sRet (mBin gAdd (mLst (mCons (mTup (mCons (mC (.str "let")) (mCons (mC (.str "y")) (mCons (mCallF m_law_number (mCons (mVar 1) (mCons (mC (.int 3)) mNil)) []) (mCons (mBin gIx (mVar 2) (mC (.int 0))) mNil))))) (mCons (mBin gIx (mVar 2) (mC (.int 1))) mNil))) (mVar 3))))))))))
def m_law_binary : List MV → M MV := fnM 5 3 b_law_binary
/-- _law_both: 0 a, 1 b -/
def b_law_both : MS :=
  (sSeq (sIf (mAnd (mTru (mCallB gIsi (mCons (mBin gIx (mVar 0) (mC (.int 1))) (mCons (mC (.ty "tuple")) mNil)))) (mTru (mCallB gIsi (mCons (mBin gIx (mVar 1) (mC (.int 1))) (mCons (mC (.ty "tuple")) mNil))))) (sRet (mTup (mCons (mCallB gMax (mCons (mBin gIx (mBin gIx (mVar 0) (mC (.int 1))) (mC (.int 0))) (mCons (mBin gIx (mBin gIx (mVar 1) (mC (.int 1))) (mC (.int 0))) mNil))) (mCons (mCallB gMax (mCons (mBin gIx (mBin gIx (mVar 0) (mC (.int 1))) (mC (.int 1))) (mCons (mBin gIx (mBin gIx (mVar 1) (mC (.int 1))) (mC (.int 1))) mNil))) mNil)))) sNext)
    (sSeq (sIf (mOr (mTru (mCallB gIsi (mCons (mBin gIx (mVar 0) (mC (.int 1))) (mCons (mC (.ty "tuple")) mNil)))) (mTru (mCallB gIsi (mCons (mBin gIx (mVar 1) (mC (.int 1))) (mCons (mC (.ty "tuple")) mNil))))) (sRet (mC .non)) sNext)
    (sRet (mCallB gMax (mCons (mBin gIx (mVar 0) (mC (.int 1))) (mCons (mBin gIx (mVar 1) (mC (.int 1))) mNil))))))
def m_law_both : List MV → M MV := fnM 2 2 b_law_both
/-- _law_round: 0 row, 1 a, 2 b, 3 count, 4 tree, 5 leaves, 6 fails, 7 turn, 8 deep -/
def b_law_round : MS :=
  (sSeq (sAsg (mBin gAdd (mC (.int 1)) (mBin gMod (mCallB gInt (mCons (mBin gIx (mVar 0) (mC (.int 2))) mNil)) (mC (.int 3)))) (gtName 3))
    (sSeq (sAsg (mBin gAdd (mBin gIx (mVar 1) (mC (.int 2))) (mC (.int 3))) (gtName 4))
    (sSeq (sAsg (mBin gIx (mVar 1) (mC (.int 3))) (gtName 5))
    (sSeq (sAsg (mBin gIx (mVar 1) (mC (.int 4))) (gtName 6))
    (sSeq (sFor (iRange1 (mCons (mVar 3) mNil)) (gtName 7) (sSeq (sAsg (mBin gAdd (mVar 6) (mBin gMul (mVar 5) (mBin gIx (mVar 2) (mC (.int 4))))) (gtName 6))
    (sSeq (sAsg (mBin gAdd (mVar 4) (mBin gMul (mCallB gMax (mCons (mC (.int 1)) (mCons (mVar 5) mNil))) (mBin gAdd (mBin gIx (mVar 2) (mC (.int 2))) (mC (.int 2))))) (gtName 4))
    (sAsg (mBin gMul (mVar 5) (mBin gIx (mVar 2) (mC (.int 3)))) (gtName 5)))))
    (sSeq (sAsg (mBin gAdd (mCallB gMax (mCons (mBin gIx (mVar 1) (mC (.int 5))) (mCons (mBin gIx (mVar 2) (mC (.int 5))) mNil))) (mC (.int 3))) (gtName 8))
    (sRet (mLst (mCons (mTup (mCons (mC (.str "repeat")) (mCons (mVar 3) (mCons (mC (.str "x")) (mCons (mCallF m_law_number (mCons (mVar 1) (mCons (mC (.int 2)) mNil)) []) (mCons (mCallF m_law_number (mCons (mVar 2) (mCons (mC (.int 2)) mNil)) []) mNil)))))) (mCons (mC (.int 2)) (mCons (mVar 4) (mCons (mVar 5) (mCons (mVar 6) (mCons (mVar 8) mNil))))))))))))))
def m_law_round : List MV → M MV := fnM 9 3 b_law_round
/-- _law_try: 0 row, 1 a, 2 b, 3 layers, 4 tries, 5 many, 6 at, 7 kind, 8 layer, 9 expression, 10 tree, 11 leaves -/
def b_law_try : MS :=
  (sSeq (sAsg (mLst mNil) (gtName 4))
    (sSeq (sAsg (mC (.int 1)) (gtName 5))
    (sSeq (sFor (iRange1 (mCons (mCallB gLen (mCons (mVar 3) mNil)) mNil)) (gtName 6) (sSeq (sIf (mTest (mBin gEq (mBin gIx (mBin gIx (mVar 3) (mVar 6)) (mC (.int 0))) (mC (.str "outside")))) (sAsg (mLst mNil) (gtName 4)) sNext)
    (sSeq (sIf (mTest (mBin gEq (mBin gIx (mBin gIx (mVar 3) (mVar 6)) (mC (.int 0))) (mC (.str "fail")))) (sExpr (mBM "list" gAppend (mVar 4) (mCons (mBin gIx (mVar 3) (mVar 6)) mNil))) sNext)
    (sIf (mTest (mBin gEq (mBin gIx (mBin gIx (mVar 3) (mVar 6)) (mC (.int 0))) (mC (.str "cell")))) (sAsg (mBin gMul (mVar 5) (mBin gIx (mBin gIx (mVar 3) (mVar 6)) (mC (.int 2)))) (gtName 5)) sNext))))
    (sSeq (sAsg (mCallF m_law_both (mCons (mVar 1) (mCons (mVar 2) mNil)) []) (gtName 7))
    (sSeq (sIf (mOr (mTest (mBin gEq (mVar 4) (mLst mNil))) (mTest (mBin (gIs false) (mVar 7) (mC .non)))) (sRet (mC .non)) sNext)
    (sSeq (sAsg (mBin gIx (mVar 4) (mBin gMod (mCallB gInt (mCons (mBin gIx (mVar 0) (mC (.int 2))) mNil)) (mCallB gLen (mCons (mVar 4) mNil)))) (gtName 8))
    (sSeq (sAsg (mTup (mCons (mC (.str "try")) (mCons (mBin gIx (mVar 8) (mC (.int 1))) (mCons (mBin gMod (mCallB gInt (mCons (mBin gIx (mVar 0) (mC (.int 1))) mNil)) (mBin gIx (mVar 8) (mC (.int 2)))) (mCons (mBin gIx (mVar 1) (mC (.int 0))) (mCons (mBin gIx (mVar 2) (mC (.int 0))) mNil)))))) (gtName 9))
    (sSeq (sAsg (mBin gMul (mVar 5) (mBin gAdd (mBin gAdd (mBin gAdd (mC (.int 2)) (mBin gIx (mVar 1) (mC (.int 2)))) (mBin gMul (mC (.int 3)) (mBin gIx (mVar 1) (mC (.int 3))))) (mBin gMul (mBin gAdd (mC (.int 1)) (mBin gIx (mVar 1) (mC (.int 4)))) (mBin gAdd (mC (.int 3)) (mBin gIx (mVar 2) (mC (.int 2))))))) (gtName 10))
    (sSeq (sAsg (mBin gMul (mVar 5) (mBin gAdd (mBin gIx (mVar 1) (mC (.int 3))) (mBin gMul (mBin gIx (mVar 1) (mC (.int 4))) (mBin gIx (mVar 2) (mC (.int 3)))))) (gtName 11))
    (sRet (mLst (mCons (mVar 9) (mCons (mVar 7) (mCons (mVar 10) (mCons (mVar 11) (mCons (mBin gMul (mVar 5) (mBin gAdd (mBin gIx (mVar 1) (mC (.int 4))) (mBin gMul (mBin gIx (mVar 1) (mC (.int 4))) (mBin gIx (mVar 2) (mC (.int 4)))))) (mCons (mBin gAdd (mCallB gMax (mCons (mBin gIx (mVar 1) (mC (.int 5))) (mCons (mBin gIx (mVar 2) (mC (.int 5))) mNil))) (mC (.int 1))) mNil)))))))))))))))))
def m_law_try : List MV → M MV := fnM 12 4 b_law_try
/-- _law_if: 0 a, 1 b, 2 c, 3 kind, 4 tree, 5 bounds -/
def b_law_if : MS :=
  (sSeq (sAsg (mCallF m_law_both (mCons (mVar 1) (mCons (mVar 2) mNil)) []) (gtName 3))
    (sSeq (sIf (mOr (mTest (mBin (gIs false) (mVar 3) (mC .non))) (mTru (mCallB gIsi (mCons (mBin gIx (mVar 0) (mC (.int 1))) (mCons (mC (.ty "tuple")) mNil))))) (sRet (mC .non)) sNext)
    (sSeq (sAsg (mBin gAdd (mBin gAdd (mBin gIx (mVar 0) (mC (.int 2))) (mBin gMul (mCallB gMax (mCons (mC (.int 1)) (mCons (mBin gIx (mVar 0) (mC (.int 3))) mNil))) (mBin gAdd (mBin gIx (mVar 1) (mC (.int 2))) (mBin gIx (mVar 2) (mC (.int 2)))))) (mC (.int 1))) (gtName 4))
    (sSeq (sAsg (mLst (mCons (mVar 4) (mCons (mBin gMul (mBin gIx (mVar 0) (mC (.int 3))) (mCallB gMax (mCons (mBin gIx (mVar 1) (mC (.int 3))) (mCons (mBin gIx (mVar 2) (mC (.int 3))) mNil)))) (mCons (mBin gAdd (mBin gIx (mVar 0) (mC (.int 4))) (mBin gMul (mBin gIx (mVar 0) (mC (.int 3))) (mCallB gMax (mCons (mBin gIx (mVar 1) (mC (.int 4))) (mCons (mBin gIx (mVar 2) (mC (.int 4))) mNil))))) (mCons (mBin gAdd (mCallB gMax (mCons (mBin gIx (mVar 0) (mC (.int 5))) (mCons (mBin gIx (mVar 1) (mC (.int 5))) (mCons (mBin gIx (mVar 2) (mC (.int 5))) mNil)))) (mC (.int 1))) mNil))))) (gtName 5))
    (sRet (mBin gAdd (mLst (mCons (mTup (mCons (mC (.str "if")) (mCons (mBin gIx (mVar 0) (mC (.int 0))) (mCons (mBin gIx (mVar 1) (mC (.int 0))) (mCons (mBin gIx (mVar 2) (mC (.int 0))) mNil))))) (mCons (mVar 3) mNil))) (mVar 5)))))))
def m_law_if : List MV → M MV := fnM 6 3 b_law_if
/-- _law_call: 0 row, 1 a, 2 b, 3 functions, 4 name, 5 item, 6 leaves, 7 tree, 8 expression, 9 fails -/
def b_law_call : MS :=
  (sSeq (sAsg (mBin gIx (mVar 3) (mBin gMod (mCallB gInt (mCons (mBin gIx (mVar 0) (mC (.int 2))) mNil)) (mCallB gLen (mCons (mVar 3) mNil)))) (gtTup 2 (gtCons (gtName 4) (gtCons (gtName 5) gtNil))))
    (sSeq (sAsg (mBin gMul (mBin gIx (mVar 1) (mC (.int 3))) (mBin gIx (mVar 2) (mC (.int 3)))) (gtName 6))
    (sSeq (sAsg (mBin gAdd (mBin gAdd (mBin gIx (mVar 1) (mC (.int 2))) (mBin gMul (mCallB gMax (mCons (mC (.int 1)) (mCons (mBin gIx (mVar 1) (mC (.int 3))) mNil))) (mBin gAdd (mBin gIx (mVar 2) (mC (.int 2))) (mC (.int 5))))) (mBin gMul (mCallB gMax (mCons (mC (.int 1)) (mCons (mVar 6) mNil))) (mBin gIx (mVar 5) (mC (.int 2))))) (gtName 7))
    (sSeq (sAsg (mTup (mCons (mC (.str "call")) (mCons (mVar 4) (mCons (mTup (mCons (mCallF m_law_number (mCons (mVar 1) (mCons (mC (.int 2)) mNil)) []) (mCons (mCallF m_law_number (mCons (mVar 2) (mCons (mC (.int 3)) mNil)) []) mNil))) mNil)))) (gtName 8))
    (sSeq (sAsg (mBin gAdd (mBin gAdd (mBin gIx (mVar 1) (mC (.int 4))) (mBin gMul (mBin gIx (mVar 1) (mC (.int 3))) (mBin gIx (mVar 2) (mC (.int 4))))) (mBin gMul (mVar 6) (mBin gIx (mVar 5) (mC (.int 4))))) (gtName 9))
    (sRet (mLst (mCons (mVar 8) (mCons (mBin gIx (mVar 5) (mC (.int 1))) (mCons (mVar 7) (mCons (mBin gMul (mVar 6) (mBin gIx (mVar 5) (mC (.int 3)))) (mCons (mVar 9) (mCons (mBin gAdd (mCallB gMax (mCons (mBin gIx (mVar 1) (mC (.int 5))) (mCons (mBin gIx (mVar 2) (mC (.int 5))) mNil))) (mC (.int 3))) mNil)))))))))))))
def m_law_call : List MV → M MV := fnM 10 4 b_law_call
/-- _law_grown: 0 row, 1 pile, 2 layers, 3 functions, 4 word -/
def b_law_grown : MS :=
  (sSeq (sAsg (mBin gMod (mCallB gInt (mCons (mBin gIx (mVar 0) (mC (.int 0))) mNil)) (mC (.int 9))) (gtName 4))
    (sSeq (sIf (mAnd (mTest (mBin gEq (mVar 4) (mC (.int 1)))) (mTest (mBin gGe (mCallB gLen (mCons (mVar 1) mNil)) (mC (.int 1))))) (sRet (mTup (mCons (mC (.int 1)) (mCons (mCallF m_law_unary (mCons (mVar 0) (mCons (mBin gIx (mVar 1) (mUn gNeg (mC (.int 1)))) (mCons (mVar 2) mNil))) []) mNil)))) sNext)
    (sSeq (sIf (mAnd (mTest (mBin (gIn false) (mVar 4) (mTup (mCons (mC (.int 2)) (mCons (mC (.int 3)) (mCons (mC (.int 4)) mNil)))))) (mTest (mBin gGe (mCallB gLen (mCons (mVar 1) mNil)) (mC (.int 2))))) (sRet (mTup (mCons (mC (.int 2)) (mCons (mCallF m_law_binary (mCons (mVar 0) (mCons (mBin gIx (mVar 1) (mUn gNeg (mC (.int 2)))) (mCons (mBin gIx (mVar 1) (mUn gNeg (mC (.int 1)))) mNil))) []) mNil)))) sNext)
    (sSeq (sIf (mAnd (mTest (mBin gEq (mVar 4) (mC (.int 5)))) (mTest (mBin gGe (mCallB gLen (mCons (mVar 1) mNil)) (mC (.int 2))))) (sRet (mTup (mCons (mC (.int 2)) (mCons (mCallF m_law_round (mCons (mVar 0) (mCons (mBin gIx (mVar 1) (mUn gNeg (mC (.int 2)))) (mCons (mBin gIx (mVar 1) (mUn gNeg (mC (.int 1)))) mNil))) []) mNil)))) sNext)
    (sSeq (sIf (mAnd (mTest (mBin gEq (mVar 4) (mC (.int 6)))) (mTest (mBin gGe (mCallB gLen (mCons (mVar 1) mNil)) (mC (.int 2))))) (sRet (mTup (mCons (mC (.int 2)) (mCons (mCallF m_law_try (mCons (mVar 0) (mCons (mBin gIx (mVar 1) (mUn gNeg (mC (.int 2)))) (mCons (mBin gIx (mVar 1) (mUn gNeg (mC (.int 1)))) (mCons (mVar 2) mNil)))) []) mNil)))) sNext)
    (sSeq (sIf (mAnd (mTest (mBin gEq (mVar 4) (mC (.int 7)))) (mTest (mBin gGe (mCallB gLen (mCons (mVar 1) mNil)) (mC (.int 3))))) (sRet (mTup (mCons (mC (.int 3)) (mCons (mCallF m_law_if (mCons (mBin gIx (mVar 1) (mUn gNeg (mC (.int 3)))) (mCons (mBin gIx (mVar 1) (mUn gNeg (mC (.int 2)))) (mCons (mBin gIx (mVar 1) (mUn gNeg (mC (.int 1)))) mNil))) []) mNil)))) sNext)
    (sSeq (sIf (mAnd (mTest (mBin gEq (mVar 4) (mC (.int 8)))) (mAnd (mTest (mBin gGe (mCallB gLen (mCons (mVar 1) mNil)) (mC (.int 2)))) (mTest (mBin gNe (mVar 3) (mLst mNil))))) (sRet (mTup (mCons (mC (.int 2)) (mCons (mCallF m_law_call (mCons (mVar 0) (mCons (mBin gIx (mVar 1) (mUn gNeg (mC (.int 2)))) (mCons (mBin gIx (mVar 1) (mUn gNeg (mC (.int 1)))) (mCons (mVar 3) mNil)))) []) mNil)))) sNext)
    (sRet (mTup (mCons (mC (.int 0)) (mCons (mC .non) mNil)))))))))))
def m_law_grown : List MV → M MV := fnM 5 4 b_law_grown
/-- _law_item: 0 script, 1 k, 2 kernel, 3 layers, 4 functions, 5 count, 6 most, 7 pile, 8 leaves, 9 at, 10 row, 11 used, 12 item, 13 before, 14 longer -/
def b_law_item : MS :=
  (sSeq (sAsg (mLst mNil) (gtName 7))
    (sSeq (sAsg (mCallF m_law_leaves (mCons (mVar 2) (mCons (mVar 3) mNil)) []) (gtName 8))
    (sSeq (sFor (iRange1 (mCons (mVar 5) mNil)) (gtName 9) (sSeq (sAsg (mCallF m_law_row (mCons (mVar 0) (mCons (mBin gAdd (mVar 1) (mVar 9)) (mCons (mC (.int 3)) mNil))) []) (gtName 10))
    (sSeq (sAsg (mCallF m_law_grown (mCons (mVar 10) (mCons (mVar 7) (mCons (mVar 3) (mCons (mVar 4) mNil)))) []) (gtTup 2 (gtCons (gtName 11) (gtCons (gtName 12) gtNil))))
    (sIf (mOr (mTest (mBin (gIs false) (mVar 12) (mC .non))) (mOr (mTest (mBin gGt (mBin gIx (mVar 12) (mC (.int 2))) (mVar 6))) (mTest (mBin gGt (mBin gIx (mVar 12) (mC (.int 5))) (mC (.int 15)))))) (sExpr (mBM "list" gAppend (mVar 7) (mCons (mBin gIx (mVar 8) (mBin gMod (mCallB gInt (mCons (mBin gIx (mVar 10) (mC (.int 1))) mNil)) (mCallB gLen (mCons (mVar 8) mNil)))) mNil))) (sAsg (mBin gAdd (mSl (mVar 7) mNoPart (mPart (mBin gSub (mCallB gLen (mCons (mVar 7) mNil)) (mVar 11)))) (mLst (mCons (mVar 12) mNil))) (gtName 7))))))
    (sSeq (sAsg (mBin gIx (mVar 7) (mUn gNeg (mC (.int 1)))) (gtName 12))
    (sSeq (sFor (iRevM (mSl (mVar 7) mNoPart (mPart (mUn gNeg (mC (.int 1)))))) (gtName 13) (sSeq (sAsg (mCallF m_law_binary (mCons (mLst (mCons (mC (.int 0)) (mCons (mC (.int 6)) (mCons (mC (.int 0)) mNil)))) (mCons (mVar 13) (mCons (mVar 12) mNil))) []) (gtName 14))
    (sIf (mAnd (mTest (mBin gLe (mBin gIx (mVar 14) (mC (.int 2))) (mVar 6))) (mTest (mBin gLe (mBin gIx (mVar 14) (mC (.int 5))) (mC (.int 15))))) (sAsg (mVar 14) (gtName 12)) sNext)))
    (sRet (mVar 12)))))))
def m_law_item : List MV → M MV := fnM 15 7 b_law_item
/-- _law_program: 0 script, 1 k, 2 kernel, 3 layers, 4 count, 5 most, 6 row, 7 functions, 8 told, 9 at, 10 item, 11 body, 12 main -/
def b_law_program : MS :=
  (sSeq (sAsg (mCallF m_law_row (mCons (mVar 0) (mCons (mVar 1) (mCons (mC (.int 4)) mNil))) []) (gtName 6))
    (sSeq (sAsg (mLst mNil) (gtName 7))
    (sSeq (sAsg (mLst mNil) (gtName 8))
    (sSeq (sFor (iRange1 (mCons (mBin gMod (mCallB gInt (mCons (mBin gIx (mVar 6) (mC (.int 0))) mNil)) (mC (.int 3))) mNil)) (gtName 9) (sSeq (sAsg (mCallF m_law_item (mCons (mVar 0) (mCons (mBin gAdd (mBin gAdd (mVar 1) (mC (.int 1))) (mBin gMul (mC (.int 6)) (mVar 9))) (mCons (mVar 2) (mCons (mVar 3) (mCons (mVar 7) (mCons (mBin gAdd (mC (.int 4)) (mBin gMod (mCallB gInt (mCons (mBin gIx (mVar 6) (mC (.int 1))) mNil)) (mC (.int 3)))) (mCons (mBin gDiv (mVar 5) (mC (.int 3))) mNil))))))) []) (gtName 10))
    (sSeq (sAsg (mTup (mCons (mC (.str "let")) (mCons (mC (.str "z")) (mCons (mTup (mCons (mC (.str "pair")) (mCons (mTup (mCons (mC (.str "var")) (mCons (mC (.str "x")) mNil))) (mCons (mTup (mCons (mC (.str "num")) (mCons (mC (.int 1)) mNil))) mNil)))) (mCons (mBin gIx (mVar 10) (mC (.int 0))) mNil))))) (gtName 11))
    (sSeq (sAsg (mBin gAdd (mVar 7) (mLst (mCons (mTup (mCons (mBin gIx (mC (.str "fg")) (mVar 9)) (mCons (mBin gAdd (mLst (mCons (mVar 11) (mCons (mBin gIx (mVar 10) (mC (.int 1))) (mCons (mBin gAdd (mBin gIx (mVar 10) (mC (.int 2))) (mC (.int 4))) mNil)))) (mSl (mVar 10) (mPart (mC (.int 3))) mNoPart)) mNil))) mNil))) (gtName 7))
    (sExpr (mBM "list" gAppend (mVar 8) (mCons (mTup (mCons (mBin gIx (mC (.str "fg")) (mVar 9)) (mCons (mTup (mCons (mTup (mCons (mC (.str "x")) (mCons (mC (.int 2)) mNil))) (mCons (mTup (mCons (mC (.str "y")) (mCons (mC (.int 3)) mNil))) mNil))) (mCons (mVar 11) mNil)))) mNil)))))))
    (sSeq (sAsg (mCallF m_law_item (mCons (mVar 0) (mCons (mBin gAdd (mVar 1) (mC (.int 13))) (mCons (mVar 2) (mCons (mVar 3) (mCons (mVar 7) (mCons (mVar 4) (mCons (mVar 5) mNil))))))) []) (gtName 10))
    (sSeq (sAsg (mTup (mCons (mC (.str "let")) (mCons (mC (.str "z")) (mCons (mTup (mCons (mC (.str "pair")) (mCons (mTup (mCons (mC (.str "num")) (mCons (mBin gMod (mCallB gInt (mCons (mBin gIx (mVar 6) (mC (.int 2))) mNil)) (mC (.int 2))) mNil))) (mCons (mTup (mCons (mC (.str "var")) (mCons (mC (.str "x")) mNil))) mNil)))) (mCons (mBin gIx (mVar 10) (mC (.int 0))) mNil))))) (gtName 12))
    (sSeq (sAsg (mTup (mCons (mC (.str "let")) (mCons (mC (.str "x")) (mCons (mTup (mCons (mC (.str "num")) (mCons (mBin gMod (mCallB gInt (mCons (mBin gIx (mVar 6) (mC (.int 3))) mNil)) (mC (.int 2))) mNil))) (mCons (mTup (mCons (mC (.str "let")) (mCons (mC (.str "y")) (mCons (mTup (mCons (mC (.str "num")) (mCons (mBin gMod (mCallB gInt (mCons (mBin gIx (mVar 6) (mC (.int 2))) mNil)) (mC (.int 3))) mNil))) (mCons (mVar 12) mNil))))) mNil))))) (gtName 12))
    (sRet (mTup (mCons (mCallB gTuple (mCons (mVar 8) mNil)) (mCons (mVar 12) mNil)))))))))))
def m_law_program : List MV → M MV := fnM 13 6 b_law_program
/-- _law_more: 0 program, 1 row, 2 numbers, 3 pair, 4 way, 5 extra, 6 handed, 7 other, 8 same, 9 body, 10 at, 11 functions -/
def b_law_more : MS :=
  (sSeq (sAsg (mLc (iRange1 (mCons (mC (.int 3)) mNil)) [10] (.nm 10) mYes (mTup (mCons (mC (.str "num")) (mCons (mBin gMod (mCallB gInt (mCons (mBin gIx (mVar 1) (mVar 10)) mNil)) (mBin gAdd (mC (.int 2)) (mVar 10))) mNil)))) (gtName 2))
    (sSeq (sAsg (mTup (mCons (mC (.str "pair")) (mCons (mBin gIx (mVar 2) (mC (.int 1))) (mCons (mBin gIx (mVar 2) (mC (.int 2))) mNil)))) (gtName 3))
    (sSeq (sAsg (mBin gMod (mCallB gInt (mCons (mBin gIx (mVar 1) (mC (.int 3))) mNil)) (mC (.int 4))) (gtName 4))
    (sSeq (sIf (mTest (mBin gEq (mVar 4) (mC (.int 0)))) (sSeq (sAsg (mTup (mCons (mC (.str "main")) (mCons (mTup mNil) (mCons (mTup (mCons (mC (.str "num")) (mCons (mBin gMod (mCallB gInt (mCons (mBin gIx (mVar 1) (mC (.int 4))) mNil)) (mC (.int 60))) mNil))) mNil)))) (gtName 5))
    (sAsg (mTup mNil) (gtName 6))) (sIf (mTest (mBin gEq (mVar 4) (mC (.int 1)))) (sSeq (sAsg (mTup (mCons (mC (.str "pair")) (mCons (mTup (mCons (mC (.str "num")) (mCons (mBin gMod (mCallB gInt (mCons (mBin gAdd (mBin gIx (mVar 1) (mC (.int 1))) (mBin gMod (mBin gIx (mVar 1) (mC (.int 4))) (mC (.int 2)))) mNil)) (mC (.int 3))) mNil))) (mCons (mTup (mCons (mC (.str "num")) (mCons (mBin gMod (mCallB gInt (mCons (mBin gAdd (mBin gIx (mVar 1) (mC (.int 2))) (mBin gMod (mBin gDiv (mBin gIx (mVar 1) (mC (.int 4))) (mC (.int 2))) (mC (.int 2)))) mNil)) (mC (.int 4))) mNil))) mNil)))) (gtName 7))
    (sSeq (sAsg (mTup (mCons (mC (.str "same")) (mCons (mTup (mCons (mC (.str "pair")) (mCons (mTup (mCons (mC (.str "var")) (mCons (mC (.str "z")) mNil))) (mCons (mTup (mCons (mC (.str "num")) (mCons (mC (.int 0)) mNil))) mNil)))) (mCons (mTup (mCons (mC (.str "pair")) (mCons (mVar 7) (mCons (mTup (mCons (mC (.str "num")) (mCons (mC (.int 0)) mNil))) mNil)))) mNil)))) (gtName 8))
    (sSeq (sAsg (mTup (mCons (mC (.str "main")) (mCons (mTup (mCons (mTup (mCons (mC (.str "z")) (mCons (mTup (mCons (mC (.int 3)) (mCons (mC (.int 4)) mNil))) mNil))) mNil)) (mCons (mTup (mCons (mC (.str "pair")) (mCons (mTup (mCons (mC (.str "first")) (mCons (mTup (mCons (mC (.str "var")) (mCons (mC (.str "z")) mNil))) mNil))) (mCons (mVar 8) mNil)))) mNil)))) (gtName 5))
    (sAsg (mTup (mCons (mVar 3) mNil)) (gtName 6))))) (sIf (mTest (mBin gEq (mVar 4) (mC (.int 2)))) (sSeq (sAsg (mTup (mCons (mC (.str "if")) (mCons (mTup (mCons (mC (.str "var")) (mCons (mC (.str "a")) mNil))) (mCons (mTup (mCons (mC (.str "var")) (mCons (mC (.str "x")) mNil))) (mCons (mTup (mCons (mC (.str "second")) (mCons (mTup (mCons (mC (.str "var")) (mCons (mC (.str "b")) mNil))) mNil))) mNil))))) (gtName 9))
    (sSeq (sAsg (mTup (mCons (mC (.str "main")) (mCons (mTup (mCons (mTup (mCons (mC (.str "a")) (mCons (mC (.int 2)) mNil))) (mCons (mTup (mCons (mC (.str "x")) (mCons (mC (.int 3)) mNil))) (mCons (mTup (mCons (mC (.str "b")) (mCons (mTup (mCons (mC (.int 3)) (mCons (mC (.int 4)) mNil))) mNil))) mNil)))) (mCons (mVar 9) mNil)))) (gtName 5))
    (sAsg (mTup (mCons (mBin gIx (mVar 2) (mC (.int 0))) (mCons (mBin gIx (mVar 2) (mC (.int 1))) (mCons (mVar 3) mNil)))) (gtName 6)))) (sSeq (sAsg (mTup (mCons (mC (.str "let")) (mCons (mC (.str "x")) (mCons (mTup (mCons (mC (.str "pair")) (mCons (mTup (mCons (mC (.str "var")) (mCons (mC (.str "x")) mNil))) (mCons (mTup (mCons (mC (.str "var")) (mCons (mC (.str "f")) mNil))) mNil)))) (mCons (mTup (mCons (mC (.str "pair")) (mCons (mTup (mCons (mC (.str "var")) (mCons (mC (.str "x")) mNil))) (mCons (mTup (mCons (mC (.str "var")) (mCons (mC (.str "f")) mNil))) mNil)))) mNil))))) (gtName 9))
    (sSeq (sAsg (mTup (mCons (mC (.str "main")) (mCons (mTup (mCons (mTup (mCons (mC (.str "x")) (mCons (mC (.int 3)) mNil))) (mCons (mTup (mCons (mC (.str "f")) (mCons (mC (.int 4)) mNil))) mNil))) (mCons (mVar 9) mNil)))) (gtName 5))
    (sAsg (mTup (mCons (mBin gIx (mVar 2) (mC (.int 1))) (mCons (mBin gIx (mVar 2) (mC (.int 2))) mNil))) (gtName 6)))))))
    (sSeq (sAsg (mBin gMod (mCallB gInt (mCons (mBin gIx (mVar 1) (mC (.int 5))) mNil)) (mBin gAdd (mCallB gLen (mCons (mBin gIx (mVar 0) (mC (.int 0))) mNil)) (mC (.int 1)))) (gtName 10))
    (sSeq (sAsg (mBin gAdd (mBin gAdd (mCallB gList (mCons (mSl (mBin gIx (mVar 0) (mC (.int 0))) mNoPart (mPart (mVar 10))) mNil)) (mLst (mCons (mVar 5) mNil))) (mCallB gList (mCons (mSl (mBin gIx (mVar 0) (mC (.int 0))) (mPart (mVar 10)) mNoPart) mNil))) (gtName 11))
    (sRet (mTup (mCons (mCallB gTuple (mCons (mVar 11) mNil)) (mCons (mTup (mCons (mC (.str "pair")) (mCons (mTup (mCons (mC (.str "call")) (mCons (mC (.str "main")) (mCons (mVar 6) mNil)))) (mCons (mBin gIx (mVar 0) (mC (.int 1))) mNil)))) mNil))))))))))
def m_law_more : List MV → M MV := fnM 12 2 b_law_more
/-- _law_nest: 0 e, 1 parts, 2 part -/
def b_law_nest (r_law_nest : List MV → M MV) : MS :=
  (sSeq (sAsg (mLc (iOf (mSl (mVar 0) (mPart (mC (.int 1))) mNoPart)) [2] (.nm 2) (mTru (mCallB gIsi (mCons (mVar 2) (mCons (mC (.ty "tuple")) mNil)))) (mVar 2)) (gtName 1))
    (sSeq (sIf (mTest (mBin gEq (mBin gIx (mVar 0) (mC (.int 0))) (mC (.str "call")))) (sAsg (mCallB gList (mCons (mBin gIx (mVar 0) (mC (.int 2))) mNil)) (gtName 1)) sNext)
    (sRet (mCallB gMax (mCons (mBin gAdd (mLst (mCons (mC (.int 0)) mNil)) (mLc (iOf (mVar 1)) [2] (.nm 2) mYes (mBin gAdd (mC (.int 1)) (mCallF r_law_nest (mCons (mVar 2) mNil) [])))) mNil)))))
def fam_law_nest : Nat → (List MV → M MV)
  | 0 => (badM)
  | n + 1 => (fnM 3 1 (b_law_nest (fam_law_nest n)))
def m_law_nest (n : Nat) : List MV → M MV := (fam_law_nest n)
theorem m_law_nest_0 : m_law_nest 0 = badM := rfl
theorem m_law_nest_s (n : Nat) : m_law_nest (n + 1) = fnM 3 1 (b_law_nest (m_law_nest n)) := rfl
/-- _law_caught: 0 program, 1 layers, 2 row, 3 tries, 4 layer, 5 main, 6 fails, 7 ends, 8 inner, 9 body, 10 turn, 11 more, 12 again -/
def b_law_caught : MS :=
  (sSeq (sAsg (mLst mNil) (gtName 3))
    (sSeq (sFor (iOf (mVar 1)) (gtName 4) (sSeq (sIf (mTest (mBin gEq (mBin gIx (mVar 4) (mC (.int 0))) (mC (.str "outside")))) (sAsg (mLst mNil) (gtName 3)) sNext)
    (sIf (mTest (mBin gEq (mBin gIx (mVar 4) (mC (.int 0))) (mC (.str "fail")))) (sExpr (mBM "list" gAppend (mVar 3) (mCons (mVar 4) mNil))) sNext)))
    (sSeq (sAsg (mBin gIx (mVar 0) (mC (.int 1))) (gtName 5))
    (sSeq (sIf (mOr (mTest (mBin gEq (mVar 3) (mLst mNil))) (mOr (mTest (mBin gEq (mBin gMod (mBin gIx (mVar 2) (mC (.int 5))) (mC (.int 3))) (mC (.int 0)))) (mTest (mBin gGt (mCallF (m_law_nest 60) (mCons (mVar 5) mNil) []) (mC (.int 15)))))) (sRet (mCallF m_law_more (mCons (mVar 0) (mCons (mVar 2) mNil)) [])) sNext)
    (sSeq (sAsg (mBin gIx (mVar 3) (mBin gMod (mCallB gInt (mCons (mBin gIx (mVar 2) (mC (.int 4))) mNil)) (mCallB gLen (mCons (mVar 3) mNil)))) (gtName 4))
    (sSeq (sAsg (mTup (mCons (mC (.str "t")) (mCons (mTup mNil) (mCons (mTup (mCons (mC (.str "let")) (mCons (mC (.str "y")) (mCons (mTup (mCons (mC (.str "num")) (mCons (mC (.int 1)) mNil))) (mCons (mTup (mCons (mC (.str "fail")) (mCons (mBin gIx (mVar 4) (mC (.int 1))) (mCons (mBin gMod (mCallB gInt (mCons (mBin gIx (mVar 2) (mC (.int 2))) mNil)) (mBin gIx (mVar 4) (mC (.int 2)))) mNil)))) mNil))))) mNil)))) (gtName 6))
    (sSeq (sAsg (mTup (mCons (mC (.str "call")) (mCons (mC (.str "t")) (mCons (mTup mNil) mNil)))) (gtName 7))
    (sSeq (sAsg (mTup (mCons (mC (.str "repeat")) (mCons (mC (.int 2)) (mCons (mC (.str "y")) (mCons (mTup (mCons (mC (.str "num")) (mCons (mC (.int 0)) mNil))) (mCons (mTup (mCons (mC (.str "let")) (mCons (mC (.str "z")) (mCons (mVar 5) (mCons (mVar 7) mNil))))) mNil)))))) (gtName 8))
    (sSeq (sAsg (mTup (mCons (mC (.str "sum")) (mCons (mTup (mCons (mC (.str "num")) (mCons (mC (.int 3)) mNil))) (mCons (mTup (mCons (mC (.str "let")) (mCons (mC (.str "z")) (mCons (mVar 8) (mCons (mVar 7) mNil))))) mNil)))) (gtName 9))
    (sSeq (sAsg (mTup (mCons (mC (.str "pair")) (mCons (mTup (mCons (mC (.str "var")) (mCons (mC (.str "x")) mNil))) (mCons (mTup (mCons (mC (.str "try")) (mCons (mBin gIx (mVar 4) (mC (.int 1))) (mCons (mBin gMod (mCallB gInt (mCons (mBin gIx (mVar 2) (mC (.int 3))) mNil)) (mBin gIx (mVar 4) (mC (.int 2)))) (mCons (mVar 9) (mCons (mVar 5) mNil)))))) mNil)))) (gtName 10))
    (sSeq (sAsg (mTup (mCons (mC (.str "if")) (mCons (mTup (mCons (mC (.str "var")) (mCons (mC (.str "x")) mNil))) (mCons (mTup (mCons (mC (.str "num")) (mCons (mC (.int 1)) mNil))) (mCons (mTup (mCons (mC (.str "num")) (mCons (mC (.int 2)) mNil))) mNil))))) (gtName 11))
    (sSeq (sAsg (mTup (mCons (mC (.str "let")) (mCons (mC (.str "w")) (mCons (mVar 10) (mCons (mTup (mCons (mC (.str "sum")) (mCons (mTup (mCons (mC (.str "first")) (mCons (mTup (mCons (mC (.str "var")) (mCons (mC (.str "w")) mNil))) mNil))) (mCons (mVar 11) mNil)))) mNil))))) (gtName 10))
    (sSeq (sAsg (mTup (mCons (mC (.str "u")) (mCons (mTup mNil) (mCons (mTup (mCons (mC (.str "repeat")) (mCons (mC (.int 2)) (mCons (mC (.str "x")) (mCons (mTup (mCons (mC (.str "num")) (mCons (mC (.int 0)) mNil))) (mCons (mVar 10) mNil)))))) mNil)))) (gtName 12))
    (sRet (mTup (mCons (mBin gAdd (mBin gIx (mVar 0) (mC (.int 0))) (mTup (mCons (mVar 6) (mCons (mVar 12) mNil)))) (mCons (mTup (mCons (mC (.str "pair")) (mCons (mTup (mCons (mC (.str "call")) (mCons (mC (.str "u")) (mCons (mTup mNil) mNil)))) (mCons (mVar 5) mNil)))) mNil)))))))))))))))))
def m_law_caught : List MV → M MV := fnM 13 3 b_law_caught
/-- _law_number_of: 0 layers, 1 name, 2 at -/
def b_law_number_of : MS :=
  (sSeq (sFor (iRange1 (mCons (mCallB gLen (mCons (mVar 0) mNil)) mNil)) (gtName 2) (sIf (mTest (mBin gEq (mBin gIx (mBin gIx (mVar 0) (mVar 2)) (mC (.int 1))) (mVar 1))) (sRet (mBin gAdd (mVar 2) (mC (.int 1)))) sNext))
    (sRet (mC (.int 0))))
def m_law_number_of : List MV → M MV := fnM 3 2 b_law_number_of
/-- _law_behind: 0 scope, 1 name, 2 back -/
def b_law_behind : MS :=
  (sSeq (sFor (iRange1 (mCons (mCallB gLen (mCons (mVar 0) mNil)) mNil)) (gtName 2) (sIf (mTest (mBin gEq (mBin gIx (mVar 0) (mBin gSub (mBin gSub (mCallB gLen (mCons (mVar 0) mNil)) (mC (.int 1))) (mVar 2))) (mVar 1))) (sRet (mVar 2)) sNext))
    (sRet (mUn gNeg (mC (.int 1)))))
def m_law_behind : List MV → M MV := fnM 3 2 b_law_behind
/-- _law_flow: 0 e, 1 at, 2 scope, 3 starts, 4 layers, 5 first, 6 rest, 7 test, 8 yes, 9 place, 10 no, 11 body, 12 other -/
def b_law_flow (r_law_flow r_law_code : List MV → M MV) : MS :=
  (sSeq (sIf (mTest (mBin gEq (mBin gIx (mVar 0) (mC (.int 0))) (mC (.str "let")))) (sSeq (sAsg (mCallF r_law_code (mCons (mBin gIx (mVar 0) (mC (.int 2))) (mCons (mVar 1) (mCons (mVar 2) (mCons (mVar 3) (mCons (mVar 4) mNil))))) []) (gtName 5))
    (sSeq (sAsg (mCallF r_law_code (mCons (mBin gIx (mVar 0) (mC (.int 3))) (mCons (mBin gAdd (mBin gAdd (mVar 1) (mCallB gLen (mCons (mVar 5) mNil))) (mC (.int 1))) (mCons (mBin gAdd (mVar 2) (mLst (mCons (mBin gIx (mVar 0) (mC (.int 1))) mNil))) (mCons (mVar 3) (mCons (mVar 4) mNil))))) []) (gtName 6))
    (sRet (mBin gAdd (mBin gAdd (mBin gAdd (mVar 5) (mLst (mCons (mTup (mCons (mC (.str "bind")) mNil)) mNil))) (mVar 6)) (mLst (mCons (mTup (mCons (mC (.str "unbind")) mNil)) mNil)))))) sNext)
    (sSeq (sIf (mTest (mBin gEq (mBin gIx (mVar 0) (mC (.int 0))) (mC (.str "if")))) (sSeq (sAsg (mCallF r_law_code (mCons (mBin gIx (mVar 0) (mC (.int 1))) (mCons (mVar 1) (mCons (mVar 2) (mCons (mVar 3) (mCons (mVar 4) mNil))))) []) (gtName 7))
    (sSeq (sAsg (mCallF r_law_code (mCons (mBin gIx (mVar 0) (mC (.int 2))) (mCons (mBin gAdd (mBin gAdd (mVar 1) (mCallB gLen (mCons (mVar 7) mNil))) (mC (.int 1))) (mCons (mVar 2) (mCons (mVar 3) (mCons (mVar 4) mNil))))) []) (gtName 8))
    (sSeq (sAsg (mBin gAdd (mBin gAdd (mBin gAdd (mVar 1) (mCallB gLen (mCons (mVar 7) mNil))) (mCallB gLen (mCons (mVar 8) mNil))) (mC (.int 2))) (gtName 9))
    (sSeq (sAsg (mCallF r_law_code (mCons (mBin gIx (mVar 0) (mC (.int 3))) (mCons (mVar 9) (mCons (mVar 2) (mCons (mVar 3) (mCons (mVar 4) mNil))))) []) (gtName 10))
    (sRet (mBin gAdd (mBin gAdd (mBin gAdd (mBin gAdd (mVar 7) (mLst (mCons (mTup (mCons (mC (.str "branch")) (mCons (mVar 9) mNil))) mNil))) (mVar 8)) (mLst (mCons (mTup (mCons (mC (.str "jump")) (mCons (mBin gAdd (mVar 9) (mCallB gLen (mCons (mVar 10) mNil))) mNil))) mNil))) (mVar 10))))))) sNext)
    (sSeq (sIf (mTest (mBin gEq (mBin gIx (mVar 0) (mC (.int 0))) (mC (.str "repeat")))) (sSeq (sAsg (mCallF r_law_code (mCons (mBin gIx (mVar 0) (mC (.int 3))) (mCons (mVar 1) (mCons (mVar 2) (mCons (mVar 3) (mCons (mVar 4) mNil))))) []) (gtName 5))
    (sSeq (sAsg (mBin gAdd (mBin gAdd (mVar 1) (mCallB gLen (mCons (mVar 5) mNil))) (mC (.int 1))) (gtName 9))
    (sSeq (sAsg (mCallF r_law_code (mCons (mBin gIx (mVar 0) (mC (.int 4))) (mCons (mBin gAdd (mVar 9) (mC (.int 1))) (mCons (mBin gAdd (mVar 2) (mLst (mCons (mBin gIx (mVar 0) (mC (.int 2))) mNil))) (mCons (mVar 3) (mCons (mVar 4) mNil))))) []) (gtName 6))
    (sRet (mBin gAdd (mBin gAdd (mBin gAdd (mVar 5) (mLst (mCons (mTup (mCons (mC (.str "count")) (mCons (mBin gIx (mVar 0) (mC (.int 1))) mNil))) (mCons (mTup (mCons (mC (.str "bind")) mNil)) mNil)))) (mVar 6)) (mLst (mCons (mTup (mCons (mC (.str "unbind")) mNil)) (mCons (mTup (mCons (mC (.str "again")) (mCons (mVar 9) mNil))) mNil)))))))) sNext)
    (sSeq (sAsg (mCallF r_law_code (mCons (mBin gIx (mVar 0) (mC (.int 3))) (mCons (mBin gAdd (mVar 1) (mC (.int 1))) (mCons (mVar 2) (mCons (mVar 3) (mCons (mVar 4) mNil))))) []) (gtName 11))
    (sSeq (sAsg (mBin gAdd (mBin gAdd (mVar 1) (mCallB gLen (mCons (mVar 11) mNil))) (mC (.int 2))) (gtName 9))
    (sSeq (sAsg (mCallF r_law_code (mCons (mBin gIx (mVar 0) (mC (.int 4))) (mCons (mVar 9) (mCons (mVar 2) (mCons (mVar 3) (mCons (mVar 4) mNil))))) []) (gtName 12))
    (sSeq (sAsg (mLst (mCons (mTup (mCons (mC (.str "try")) (mCons (mCallF m_law_number_of (mCons (mVar 4) (mCons (mBin gIx (mVar 0) (mC (.int 1))) mNil)) []) (mCons (mBin gIx (mVar 0) (mC (.int 2))) (mCons (mVar 9) mNil))))) mNil)) (gtName 5))
    (sRet (mBin gAdd (mBin gAdd (mBin gAdd (mVar 5) (mVar 11)) (mLst (mCons (mTup (mCons (mC (.str "untry")) (mCons (mBin gAdd (mVar 9) (mCallB gLen (mCons (mVar 12) mNil))) mNil))) mNil))) (mVar 12))))))))))
/-- _law_code: 0 e, 1 at, 2 scope, 3 starts, 4 layers, 5 word, 6 parts, 7 code, 8 part -/
def b_law_code (r_law_flow r_law_code : List MV → M MV) : MS :=
  (sSeq (sAsg (mBin gIx (mVar 0) (mC (.int 0))) (gtName 5))
    (sSeq (sIf (mTest (mBin (gIn false) (mVar 5) (mTup (mCons (mC (.str "let")) (mCons (mC (.str "if")) (mCons (mC (.str "repeat")) (mCons (mC (.str "try")) mNil))))))) (sRet (mCallF r_law_flow (mCons (mVar 0) (mCons (mVar 1) (mCons (mVar 2) (mCons (mVar 3) (mCons (mVar 4) mNil))))) [])) sNext)
    (sSeq (sIf (mTest (mBin gEq (mVar 5) (mC (.str "num")))) (sRet (mLst (mCons (mTup (mCons (mC (.str "push")) (mCons (mBin gIx (mVar 0) (mC (.int 1))) mNil))) mNil))) sNext)
    (sSeq (sIf (mTest (mBin gEq (mVar 5) (mC (.str "var")))) (sRet (mLst (mCons (mTup (mCons (mC (.str "load")) (mCons (mCallF m_law_behind (mCons (mVar 2) (mCons (mBin gIx (mVar 0) (mC (.int 1))) mNil)) []) mNil))) mNil))) sNext)
    (sSeq (sIf (mOr (mTest (mBin gEq (mVar 5) (mC (.str "choose")))) (mTest (mBin gEq (mVar 5) (mC (.str "draw"))))) (sRet (mLst (mCons (mVar 0) mNil))) sNext)
    (sSeq (sIf (mTest (mBin (gIn false) (mVar 5) (mTup (mCons (mC (.str "get")) (mCons (mC (.str "look")) (mCons (mC (.str "fail")) (mCons (mC (.str "ask")) mNil))))))) (sRet (mLst (mCons (mBin gAdd (mTup (mCons (mVar 5) (mCons (mCallF m_law_number_of (mCons (mVar 4) (mCons (mBin gIx (mVar 0) (mC (.int 1))) mNil)) []) mNil))) (mSl (mVar 0) (mPart (mC (.int 2))) mNoPart)) mNil))) sNext)
    (sSeq (sAsg (mLc (iOf (mSl (mVar 0) (mPart (mC (.int 1))) mNoPart)) [8] (.nm 8) (mTru (mCallB gIsi (mCons (mVar 8) (mCons (mC (.ty "tuple")) mNil)))) (mVar 8)) (gtName 6))
    (sSeq (sIf (mTest (mBin gEq (mVar 5) (mC (.str "call")))) (sAsg (mCallB gList (mCons (mBin gIx (mVar 0) (mC (.int 2))) mNil)) (gtName 6)) sNext)
    (sSeq (sAsg (mLst mNil) (gtName 7))
    (sSeq (sFor (iOf (mVar 6)) (gtName 8) (sAsg (mBin gAdd (mVar 7) (mCallF r_law_code (mCons (mVar 8) (mCons (mBin gAdd (mVar 1) (mCallB gLen (mCons (mVar 7) mNil))) (mCons (mVar 2) (mCons (mVar 3) (mCons (mVar 4) mNil))))) [])) (gtName 7)))
    (sSeq (sIf (mTest (mBin gEq (mVar 5) (mC (.str "call")))) (sRet (mBin gAdd (mVar 7) (mLst (mCons (mTup (mCons (mC (.str "call")) (mCons (mBin gDGet (mVar 3) (mBin gIx (mVar 0) (mC (.int 1)))) (mCons (mCallB gLen (mCons (mVar 6) mNil)) mNil)))) mNil)))) sNext)
    (sSeq (sIf (mOr (mTest (mBin gEq (mVar 5) (mC (.str "put")))) (mTest (mBin gEq (mVar 5) (mC (.str "note"))))) (sRet (mBin gAdd (mVar 7) (mLst (mCons (mTup (mCons (mVar 5) (mCons (mCallF m_law_number_of (mCons (mVar 4) (mCons (mBin gIx (mVar 0) (mC (.int 1))) mNil)) []) mNil))) mNil)))) sNext)
    (sSeq (sIf (mTest (mBin gEq (mVar 5) (mC (.str "mod")))) (sRet (mBin gAdd (mVar 7) (mLst (mCons (mTup (mCons (mC (.str "mod")) (mCons (mBin gIx (mVar 0) (mC (.int 2))) mNil))) mNil)))) sNext)
    (sRet (mBin gAdd (mVar 7) (mLst (mCons (mTup (mCons (mVar 5) mNil)) mNil)))))))))))))))))
def fam_law_flow : Nat → (List MV → M MV) × (List MV → M MV)
  | 0 => (badM, badM)
  | n + 1 => (fnM 13 5 (b_law_flow (fam_law_flow n).1 (fam_law_flow n).2), fnM 9 5 (b_law_code (fam_law_flow n).1 (fam_law_flow n).2))
def m_law_flow (n : Nat) : List MV → M MV := (fam_law_flow n).1
def m_law_code (n : Nat) : List MV → M MV := (fam_law_flow n).2
theorem m_law_flow_0 : m_law_flow 0 = badM := rfl
theorem m_law_flow_s (n : Nat) : m_law_flow (n + 1) = fnM 13 5 (b_law_flow (m_law_flow n) (m_law_code n)) := rfl
theorem m_law_code_0 : m_law_code 0 = badM := rfl
theorem m_law_code_s (n : Nat) : m_law_code (n + 1) = fnM 9 5 (b_law_code (m_law_flow n) (m_law_code n)) := rfl
/-- _law_whole: 0 program, 1 layers, 2 starts, 3 code, 4 name, 5 params, 6 body, 7 scope, 8 inner, 9 param, 10 kind -/
def b_law_whole : MS :=
  (sSeq (sAsg mDNew (gtName 2))
    (sSeq (sAsg (mLst (mCons (mTup (mCons (mC (.str "jump")) (mCons (mC (.int 0)) mNil))) mNil)) (gtName 3))
    (sSeq (sFor (iOf (mBin gIx (mVar 0) (mC (.int 0)))) (gtTup 3 (gtCons (gtName 4) (gtCons (gtName 5) (gtCons (gtName 6) gtNil)))) (sSeq (sDSet (mVar 2) (mVar 4) (mCallB gLen (mCons (mVar 3) mNil)))
    (sSeq (sAsg (mLc (iOf (mVar 5)) [9, 10] (.tp [9, 10]) mYes (mVar 9)) (gtName 7))
    (sSeq (sAsg (mCallB gDict (mCons (mVar 2) mNil)) (gtName 8))
    (sAsg (mBin gAdd (mBin gAdd (mVar 3) (mCallF (m_law_code 60) (mCons (mVar 6) (mCons (mCallB gLen (mCons (mVar 3) mNil)) (mCons (mVar 7) (mCons (mVar 8) (mCons (mVar 1) mNil))))) [])) (mLst (mCons (mTup (mCons (mC (.str "return")) (mCons (mCallB gLen (mCons (mVar 5) mNil)) mNil))) mNil))) (gtName 3))))))
    (sSeq (sAsg (mTup (mCons (mC (.str "jump")) (mCons (mCallB gLen (mCons (mVar 3) mNil)) mNil))) (gtSub (mVar 3) (mC (.int 0))))
    (sRet (mBin gAdd (mBin gAdd (mVar 3) (mCallF (m_law_code 60) (mCons (mBin gIx (mVar 0) (mC (.int 1))) (mCons (mCallB gLen (mCons (mVar 3) mNil)) (mCons (mLst mNil) (mCons (mVar 2) (mCons (mVar 1) mNil))))) [])) (mLst (mCons (mTup (mCons (mC (.str "done")) mNil)) mNil))))))))
def m_law_whole : List MV → M MV := fnM 11 2 b_law_whole
/-- _law_is_code: 0 code, 1 due, 2 at, 3 part -/
def b_law_is_code : MS :=
  (sSeq (sIf (mOr (mNot (mTru (mCallB gIsi (mCons (mVar 0) (mCons (mC (.ty "tuple")) mNil))))) (mTest (mBin gNe (mCallB gLen (mCons (mVar 0) mNil)) (mCallB gLen (mCons (mVar 1) mNil))))) (sRet (mC (.bl false))) sNext)
    (sSeq (sFor (iRange1 (mCons (mCallB gLen (mCons (mVar 1) mNil)) mNil)) (gtName 2) (sSeq (sIf (mOr (mNot (mTru (mCallB gIsi (mCons (mBin gIx (mVar 0) (mVar 2)) (mCons (mC (.ty "tuple")) mNil))))) (mTest (mBin gNe (mBin gIx (mVar 0) (mVar 2)) (mBin gIx (mVar 1) (mVar 2))))) (sRet (mC (.bl false))) sNext)
    (sFor (iOf (mSl (mBin gIx (mVar 0) (mVar 2)) (mPart (mC (.int 1))) mNoPart)) (gtName 3) (sIf (mNot (mTru (mCallF m_law_is_integer (mCons (mVar 3) mNil) []))) (sRet (mC (.bl false))) sNext))))
    (sRet (mC (.bl true)))))
def m_law_is_code : List MV → M MV := fnM 4 2 b_law_is_code
/-- Book.__init__: 0 self, 1 kernel, 2 layers, 3 names, 4 many, 5 at, 6 layer -/
def b_Book_init : MS :=
  (sSeq (sIf (mOr (mTest (mUn (gInK true k_CHOICES) (mVar 1))) (mTest (mBin gGt (mCallB gLen (mCons (mVar 2) mNil)) (mC c_MOST_LAYERS)))) sBad sNext)
    (sSeq (sAsg (mLst mNil) (gtName 3))
    (sSeq (sAsg (mC (.int 1)) (gtName 4))
    (sSeq (sFor (iEnumM (mVar 2)) (gtTup 2 (gtCons (gtName 5) (gtCons (gtName 6) gtNil))) (sSeq (sIf (mOr (mNot (mTru (mCallF m_is_layer (mCons (mVar 6) mNil) []))) (mTest (mBin (gIn false) (mBin gIx (mVar 6) (mC (.int 1))) (mVar 3)))) sBad sNext)
    (sSeq (sExpr (mBM "list" gAppend (mVar 3) (mCons (mBin gIx (mVar 6) (mC (.int 1))) mNil)))
    (sIf (mTest (mBin (gIn false) (mBin gIx (mVar 6) (mC (.int 0))) (mC c_VARIED))) (sAsg (mBin gMul (mVar 4) (mBin gIx (mVar 6) (mC (.int 2)))) (gtName 4)) sNext))))
    (sSeq (sIf (mTest (mBin gGt (mVar 4) (mC c_MOST_STARTS))) sBad sNext)
    (sSeq (sFldM [1] "kernel" (mVar 0) (mVar 1))
    (sSeq (sFldM [1] "layers" (mVar 0) (mCallB gTuple (mCons (mVar 2) mNil)))
    (sFldM [1] "size" (mVar 0) (mCallB gLen (mCons (mVar 2) mNil))))))))))
def m_Book_init : List MV → M MV := fnM 7 3 b_Book_init
/-- law: 0 script, 1 kernel, 2 layers, 3 program, 4 book, 5 due, 6 second, 7 twin, 8 other, 9 told, 10 layer -/
def b_law : MS :=
  (sSeq (sAsg (mCallF m_law_book (mCons (mCallF m_law_row (mCons (mVar 0) (mCons (mC (.int 0)) (mCons (mC (.int 12)) mNil))) []) (mCons (mBin gAdd (mC (.int 4)) (mBin gMul (mC (.int 2)) (mBin gMod (mCallB gLen (mCons (mVar 0) mNil)) (mC (.int 2))))) mNil)) []) (gtTup 2 (gtCons (gtName 1) (gtCons (gtName 2) gtNil))))
    (sSeq (sAsg (mCallF m_law_program (mCons (mVar 0) (mCons (mC (.int 1)) (mCons (mVar 1) (mCons (mVar 2) (mCons (mBin gAdd (mC (.int 1)) (mBin gMod (mBin gIx (mCallF m_law_row (mCons (mVar 0) (mCons (mC (.int 1)) (mCons (mC (.int 1)) mNil))) []) (mC (.int 0))) (mC (.int 16)))) (mCons (mC (.int 38)) mNil)))))) []) (gtName 3))
    (sSeq (sAsg (mCallF m_law_caught (mCons (mVar 3) (mCons (mVar 2) (mCons (mCallF m_law_row (mCons (mVar 0) (mCons (mC (.int 40)) (mCons (mC (.int 6)) mNil))) []) mNil))) []) (gtName 3))
    (sSeq (sAsg (mMake 1 m_Book_init (mCons (mVar 1) (mCons (mVar 2) mNil)) []) (gtName 4))
    (sSeq (sAsg (mCallF m_law_whole (mCons (mVar 3) (mCons (mVar 2) mNil)) []) (gtName 5))
    (sSeq (sIf (mNot (mTru (mCallF m_law_is_code (mCons (mCallF m_compiled (mCons (mVar 4) (mCons (mVar 3) mNil)) []) (mCons (mVar 5) mNil)) []))) (sRet (mC (.bl false))) sNext)
    (sSeq (sAsg (mTup (mCons (mC (.str "setting")) (mCons (mC (.str "q")) (mCons (mC (.int 2)) mNil)))) (gtName 6))
    (sSeq (sAsg (mBin gAdd (mLst (mCons (mVar 6) mNil)) (mSl (mLc (iOf (mVar 2)) [10] (.nm 10) (mTest (mBin gNe (mBin gIx (mVar 10) (mC (.int 1))) (mC (.str "q")))) (mVar 10)) mNoPart (mPart (mC (.int 2))))) (gtName 7))
    (sSeq (sAsg (mTup (mCons (mTup mNil) (mCons (mTup (mCons (mC (.str "sum")) (mCons (mTup (mCons (mC (.str "look")) (mCons (mC (.str "q")) mNil))) (mCons (mTup (mCons (mC (.str "let")) (mCons (mC (.str "x")) (mCons (mTup (mCons (mC (.str "num")) (mCons (mBin gMod (mCallB gLen (mCons (mVar 0) mNil)) (mC (.int 50))) mNil))) (mCons (mTup (mCons (mC (.str "var")) (mCons (mC (.str "x")) mNil))) mNil))))) mNil)))) mNil))) (gtName 8))
    (sSeq (sAsg (mLst (mCons (mTup (mCons (mC (.str "jump")) (mCons (mC (.int 1)) mNil))) (mCons (mTup (mCons (mC (.str "look")) (mCons (mC (.int 1)) mNil))) (mCons (mTup (mCons (mC (.str "push")) (mCons (mBin gMod (mCallB gLen (mCons (mVar 0) mNil)) (mC (.int 50))) mNil))) (mCons (mTup (mCons (mC (.str "bind")) mNil)) (mCons (mTup (mCons (mC (.str "load")) (mCons (mC (.int 0)) mNil))) (mCons (mTup (mCons (mC (.str "unbind")) mNil)) (mCons (mTup (mCons (mC (.str "sum")) mNil)) (mCons (mTup (mCons (mC (.str "done")) mNil)) mNil))))))))) (gtName 9))
    (sSeq (sIf (mNot (mTru (mCallF m_law_is_code (mCons (mCallF m_compiled (mCons (mMake 1 m_Book_init (mCons (mVar 1) (mCons (mVar 7) mNil)) []) (mCons (mVar 8) mNil)) []) (mCons (mVar 9) mNil)) []))) (sRet (mC (.bl false))) sNext)
    (sRet (mCallF m_law_is_code (mCons (mCallF m_compiled (mCons (mVar 4) (mCons (mVar 3) mNil)) []) (mCons (mVar 5) mNil)) [])))))))))))))
def m_law : List MV → M MV := fnM 11 1 b_law
end K17

set_option Elab.async false
set_option linter.all false
set_option maxRecDepth 100000
set_option autoImplicit false
/-! k17, plain law: the assembler's words. -/
namespace K17
open PySem BH
abbrev asF (B C D : Nat) : Mfs := [("book", .ref B), ("code", .ref C), ("places", .ref D)]
structure ASt (A B C D : Nat) (k : Str) (ls : List MV) (pl : List (L2.Key × MV)) (code : List MV) (st : Mst) : Prop where
  hA : st[A]? = some (.ins 0 (asF B C D))
  hB : st[B]? = some (.ins 1 [("kernel", .str k), ("layers", .tup ls), ("size", .int ls.length)])
  hC : st[C]? = some (.lst code)
  hD : st[D]? = some (.dct pl)
def LsOk (ls : List MV) : Prop := ∀ l ∈ ls, ∃ (w nm : Str) (t : MV), l = .tup [.str w, .str nm, t] ∧ PyData.strOk nm = true
def nameM : MV → Str
  | .tup (_ :: .str nm :: _) => nm
  | _ => ""
def numF (nm : Str) : List MV → Nat → Int
  | [], _ => 0
  | l :: r, i => if nameM l = nm then i + 1 else numF nm r (i + 1)
abbrev numOf (ls : List MV) (nm : Str) : Int := numF nm ls 0
section
variable {A B C D : Nat} {k : Str} {ls : List MV} {pl : List (L2.Key × MV)} {code : List MV} {st : Mst}
theorem ASt.f_book (P : ASt A B C D k ls pl code st) : getF [0] "book" (.ref A) st = .ok (.ref B) st := getF_ins P.hA (by simp) (by simp [List.lookup])
theorem ASt.f_code (P : ASt A B C D k ls pl code st) : getF [0] "code" (.ref A) st = .ok (.ref C) st := getF_ins P.hA (by simp) (by simp [List.lookup])
theorem ASt.f_places (P : ASt A B C D k ls pl code st) : getF [0] "places" (.ref A) st = .ok (.ref D) st := getF_ins P.hA (by simp) (by simp [List.lookup])
theorem ASt.f_layers (P : ASt A B C D k ls pl code st) : getF [1] "layers" (.ref B) st = .ok (.tup ls) st := getF_ins P.hB (by simp) (by simp [List.lookup])
theorem ASt.cls (P : ASt A B C D k ls pl code st) {f : Str} (hf : (asF B C D).lookup f = none) : clsOf 0 f (.ref A) st = true := clsOf_ins P.hA hf
theorem ASt.clsB (P : ASt A B C D k ls pl code st) : clsOf 1 "number_of" (.ref B) st = true := clsOf_ins P.hB (by simp [List.lookup])
theorem ASt.neA (P : ASt A B C D k ls pl code st) : C ≠ A := fun e => by have h := P.hA; rw [← e, P.hC] at h; cases h
theorem ASt.neB (P : ASt A B C D k ls pl code st) : C ≠ B := fun e => by have h := P.hB; rw [← e, P.hC] at h; cases h
theorem ASt.neD (P : ASt A B C D k ls pl code st) : C ≠ D := fun e => by have h := P.hD; rw [← e, P.hC] at h; cases h
theorem ASt.gr (P : ASt A B C D k ls pl code st) {st' : Mst} (g : Gr st st') : ASt A B C D k ls pl code st' := ⟨g.get P.hA, g.get P.hB, g.get P.hC, g.get P.hD⟩
theorem ASt.put (P : ASt A B C D k ls pl code st) (c : List MV) : ASt A B C D k ls pl c (st.set C (.lst c)) := ⟨get_set_ne P.hA P.neA, get_set_ne P.hB P.neB, get_set P.hC, get_set_ne P.hD P.neD⟩
theorem ASt.app (P : ASt A B C D k ls pl code st) (y : MV) (h : code.length < 16777216) : gAppend (.ref C) [y] st = .ok .non (st.set C (.lst (code ++ [y]))) := gAppend_lst P.hC h
theorem ASt.ty (P : ASt A B C D k ls pl code st) : tyM "list" (.ref C) st = true := tyM_lst P.hC
theorem ASt.len (P : ASt A B C D k ls pl code st) : gLen [.ref C] st = .ok (.int code.length) st := gLen_lst P.hC
theorem number_ok (P : ASt A B C D k ls pl code st) (L : LsOk ls) {nm : Str} (hn : PyData.strOk nm = true) : m_Book_number_of [.ref B, .str nm] st = .ok (.int (numOf ls nm)) st := by
  suffices h : Post (m_Book_number_of [.ref B, .str nm] st) (fun v st' => v = .int (numOf ls nm) ∧ st' = st) by
    obtain ⟨_, _, h, rfl, rfl⟩ := h
    exact h
  rw [m_Book_number_of, fnM2, b_Book_number_of]
  simp -implicitDefEqProofs [P.f_layers]
  refine .finB (.bind (.enumT (fun i env st' => (∃ o p, env = [some (.ref B), some (.str nm), o, p]) ∧ st' = st ∧ numF nm (ls.drop i) i = numOf ls nm) ⟨⟨_, _, rfl⟩, rfl, rfl⟩ rfl ?_ ?_))
  · rintro i x env st' hi ⟨⟨o, p, rfl⟩, rfl, hq⟩
    obtain ⟨w, n2, t, rfl, hs⟩ := L x (List.mem_of_getElem? hi)
    refine ⟨[some (.ref B), some (.str nm), some (.int i), some (.tup [.str w, .str n2, t])], st', rfl, ?_⟩
    rw [drop_at hi, numF] at hq
    simp -implicitDefEqProofs [gEq_str hs hn]
    by_cases e : n2 = nm
    · subst e
      simp -implicitDefEqProofs [nameM] at hq ⊢
      exact hq
    · simp -implicitDefEqProofs [nameM, e] at hq ⊢
      exact hq
  · rintro env st' ⟨⟨o, p, rfl⟩, rfl, hq⟩
    simp -implicitDefEqProofs [numF] at hq ⊢
    exact hq
theorem lawnum_ok (L : LsOk ls) {nm : Str} (hn : PyData.strOk nm = true) (hl : ls.length < 1000) : m_law_number_of [.tup ls, .str nm] st = .ok (.int (numOf ls nm)) st := by
  suffices h : Post (m_law_number_of [.tup ls, .str nm] st) (fun v st' => v = .int (numOf ls nm) ∧ st' = st) by
    obtain ⟨_, _, h, rfl, rfl⟩ := h
    exact h
  rw [m_law_number_of, fnM2, b_law_number_of]
  have r := rngOf1_nat (j := (ls.length : Int)) (n := ls.length) (st := st) rfl (by omega)
  simp -implicitDefEqProofs [r]
  refine .finB (.bind (.rangeT (fun i env st' => (∃ o, env = [some (.tup ls), some (.str nm), o]) ∧ st' = st ∧ numF nm (ls.drop i) i = numOf ls nm) ⟨⟨_, rfl⟩, rfl, rfl⟩ rfl ?_ ?_))
  · rintro i env st' hi ⟨⟨o, rfl⟩, rfl, hq⟩
    obtain ⟨x, hx⟩ := get_of hi
    obtain ⟨w, n2, t, rfl, hs⟩ := L x (List.mem_of_getElem? hx)
    refine ⟨_, st', rfl, ?_⟩
    rw [drop_at hx, numF] at hq
    simp -implicitDefEqProofs [hx, gEq_str hs hn]
    by_cases e : n2 = nm
    · subst e
      simp -implicitDefEqProofs [nameM] at hq ⊢
      exact hq
    · simp -implicitDefEqProofs [nameM, e] at hq ⊢
      exact hq
  · rintro env st' ⟨⟨o, rfl⟩, rfl, hq⟩
    simp -implicitDefEqProofs [numF] at hq ⊢
    exact hq
theorem behind_ok {S : Nat} {sc : List Str} {x : Str} {j : Nat} (hS : st[S]? = some (.lst (sc.map .str))) (ho : ∀ y ∈ sc, PyData.strOk y = true) (hx : PyData.strOk x = true) (hj : idxS sc.reverse x = some j) (hl : sc.length < 1000) :
    m_law_behind [.ref S, .str x] st = .ok (.int j) st := by
  suffices h : Post (m_law_behind [.ref S, .str x] st) (fun v st' => v = .int j ∧ st' = st) by
    obtain ⟨_, _, h, rfl, rfl⟩ := h
    exact h
  rw [m_law_behind, fnM2, b_law_behind]
  have r := rngOf1_nat (j := (sc.length : Int)) (n := sc.length) (st := st) rfl (by omega)
  have e1 := gLen_lst hS
  rw [List.length_map] at e1
  simp -implicitDefEqProofs [e1, r]
  refine .finB (.bind (.rangeT (fun i env st' => (∃ o, env = [some (.ref S), some (.str x), o]) ∧ st' = st ∧ (idxS (sc.reverse.drop i) x).map (· + i) = some j) ⟨⟨_, rfl⟩, rfl, by simpa using hj⟩ rfl ?_ ?_))
  · rintro i env st' hi ⟨⟨o, rfl⟩, rfl, hq⟩
    obtain ⟨y, hy⟩ := get_of (xs := sc.reverse) (i := i) (by simpa using hi)
    refine ⟨_, st', rfl, ?_⟩
    rw [drop_at hy, idxS] at hq
    have hy2 : (sc.map MV.str)[sc.length - 1 - i]? = some (.str y) := by
      rw [List.getElem?_reverse hi] at hy
      simp [hy]
    have e2 : (sc.length : Int) - 1 - (0 + i) = ((sc.length - 1 - i : Nat) : Int) := by omega
    have hix := gIx_lst (st := st') hS e2 hy2
    have hys : PyData.strOk y = true := ho y (by simpa using List.mem_of_getElem? hy)
    simp -implicitDefEqProofs at hix
    simp -implicitDefEqProofs [e1, hix, gEq_str hys hx]
    by_cases e : y = x
    · subst e
      simp -implicitDefEqProofs at hq ⊢
      omega
    · simp -implicitDefEqProofs [e] at hq ⊢
      obtain ⟨a, h1, h2⟩ := hq
      exact ⟨a, h1, by omega⟩
  · rintro env st' ⟨⟨o, rfl⟩, rfl, hq⟩
    rw [List.drop_eq_nil_of_le (by simp)] at hq
    simp [idxS] at hq
end
end K17

set_option Elab.async false
set_option linter.all false
set_option maxRecDepth 100000
set_option autoImplicit false
/-! k17, plain law: what the assembler writes. -/
namespace K17
open PySem BH
abbrev stup (sc : List Str) : MV := .tup (sc.map .str)
def PS (m : List MV → M MV) (k : Str) (ls : List MV) (pl : List (L2.Key × MV)) (e : MV) (sc : List Str) (n : Nat) (c : List MV) : Prop :=
  ∀ (A B C D : Nat) (code : List MV) (st : Mst), code.length = n → ASt A B C D k ls pl code st → n + c.length < 16000000 →
    Post (m [.ref A, e, stup sc] st) (fun v st' => v = .non ∧ ASt A B C D k ls pl (code ++ c) st' ∧ Fr [C] st st')
abbrev PW (n : Nat) := PS (m_Assembler_write n)
abbrev PV (n : Nat) := PS (m_Assembler_write_value n)
abbrev PF (n : Nat) := PS (m_Assembler_write_flow n)
section
variable {k : Str} {ls : List MV} {pl : List (L2.Key × MV)} {sc : List Str} {n t : Nat} {e a b c : MV} {ca cb cc : List MV}
theorem gIn_flow (s : String) (st : Mst) : gIn false (.str s) c_FLOWING st = .ok (.bl (["let", "if", "repeat", "call", "try"].any (· == s))) st := by simp -implicitDefEqProofs [c_FLOWING]
theorem gIn_lay (s : String) (st : Mst) : gIn false (.str s) c_LAYERED st = .ok (.bl (["get", "look", "fail", "ask"].any (· == s))) st := by simp -implicitDefEqProofs [c_LAYERED]
theorem gIn_pc (s : String) (st : Mst) : gIn false (.str s) c_PIECES st = .ok (.bl (["choose", "draw"].any (· == s))) st := by simp -implicitDefEqProofs [c_PIECES]
theorem gIn_giv (s : String) (st : Mst) : gIn false (.str s) c_GIVEN st = .ok (.bl (["put", "note"].any (· == s))) st := by simp -implicitDefEqProofs [c_GIVEN]
theorem hole_ok {A B C D : Nat} {code : List MV} {st : Mst} (P : ASt A B C D k ls pl code st) (h : code.length < 16000000) :
    m_Assembler_hole [.ref A] st = .ok (.int code.length) (st.set C (.lst (code ++ [.tup [.str "jump", .int 0]]))) := by
  rw [m_Assembler_hole, fnM1, b_Assembler_hole]
  have P2 := P.put (code ++ [.tup [.str "jump", .int 0]])
  have h1 := P.app (.tup [.str "jump", .int 0]) (by omega)
  have h2 := P2.len
  have h3 := P2.f_code
  simp -implicitDefEqProofs [P.f_code, P.ty, h1, h2, h3] at *
  try omega
/-- a flowing word goes to write_flow -/
theorem pw_flow {s : String} {xs : List MV} (hs : ["let", "if", "repeat", "call", "try"].any (· == s) = true) (h : PF n k ls pl (.tup (.str s :: xs)) sc t ca) : PW (n + 1) k ls pl (.tup (.str s :: xs)) sc t ca := by
  intro A B C D code st hc P hl
  obtain ⟨v, st', e1, rfl, P', F'⟩ := h A B C D code st hc P hl
  have hcl := P.cls (f := "write_flow") (by simp [List.lookup])
  rw [m_Assembler_write_s, fnM3, b_Assembler_write]
  simp -implicitDefEqProofs only [gIn_flow, hs, gIn_lay, gIn_pc, gIn_giv, hcl, e1, mVar_ap, mC_ap, mBin_ap, mTest_ap, mNil_ap, mCons_ap, mMeth_ap, sSeq_ap, sIf_ap, sAsg_ap, sExpr_ap, gtName_ap, Res.bind_ok, gIx_tup_ap, matI_zero, List.getElem?_cons_zero, List.getElem?_cons_succ, getO, bindX, toB, List.set_cons_zero, List.set_cons_succ, List.cons_append, List.nil_append, List.replicate, if_true, List.append_nil]
  simp -implicitDefEqProofs [e1]
  exact ⟨P', F'⟩
theorem pw_val {s : String} {xs : List MV} (hs : ["let", "if", "repeat", "call", "try", "get", "look", "fail", "ask", "choose", "draw", "put", "note"].any (· == s) = false) (h : PV n k ls pl (.tup (.str s :: xs)) sc t ca) : PW (n + 1) k ls pl (.tup (.str s :: xs)) sc t ca := by
  intro A B C D code st hc P hl
  obtain ⟨v, st', e1, rfl, P', F'⟩ := h A B C D code st hc P hl
  have hcl := P.cls (f := "write_value") (by simp [List.lookup])
  have h1 : ["let", "if", "repeat", "call", "try"].any (· == s) = false := by simp at hs ⊢; simp [hs]
  have h2 : ["get", "look", "fail", "ask"].any (· == s) = false := by simp at hs ⊢; simp [hs]
  have h3 : ["choose", "draw"].any (· == s) = false := by simp at hs ⊢; simp [hs]
  have h4 : ["put", "note"].any (· == s) = false := by simp at hs ⊢; simp [hs]
  have g1 := fun st => (gIn_flow s st).trans (by rw [h1])
  have g2 := fun st => (gIn_lay s st).trans (by rw [h2])
  have g3 := fun st => (gIn_pc s st).trans (by rw [h3])
  have g4 := fun st => (gIn_giv s st).trans (by rw [h4])
  rw [m_Assembler_write_s, fnM3, b_Assembler_write]
  simp -implicitDefEqProofs [g1, g2, g3, g4, hcl, e1, -List.any_cons]
  exact ⟨P', F'⟩
theorem pw_piece {s : String} {xs : List MV} (hs : s = "choose" ∨ s = "draw") : PW (n + 1) k ls pl (.tup (.str s :: xs)) sc t [.tup (.str s :: xs)] := by
  intro A B C D code st hc P hl
  have h1 := P.app (.tup (.str s :: xs)) (by simp at hl; omega)
  have P2 := P.put (code ++ [.tup (.str s :: xs)])
  rw [m_Assembler_write_s, fnM3, b_Assembler_write]
  rcases hs with rfl | rfl
  · simp -implicitDefEqProofs [gIn_flow, gIn_lay, gIn_pc, P.f_code, P.ty, h1]
    exact ⟨P2, .put _ _ _⟩
  · simp -implicitDefEqProofs [gIn_flow, gIn_lay, gIn_pc, P.f_code, P.ty, h1]
    exact ⟨P2, .put _ _ _⟩
theorem pw_lay {s : String} {nm : Str} {xs : List MV} (L : LsOk ls) (hn : PyData.strOk nm = true) (hs : ["get", "look", "fail", "ask"].any (· == s) = true) (hx : xs.length ≤ 10) :
    PW (n + 1) k ls pl (.tup (.str s :: .str nm :: xs)) sc t [.tup (.str s :: .int (numOf ls nm) :: xs)] := by
  intro A B C D code st hc P hl
  have h1 := P.app (.tup (.str s :: .int (numOf ls nm) :: xs)) (by simp at hl; omega)
  have P2 := P.put (code ++ [.tup (.str s :: .int (numOf ls nm) :: xs)])
  have h2 := number_ok P L hn
  have hsl : mcut (MV.str s :: .str nm :: xs) (some 2) none = xs := by
    have := mcut_from (MV.str s :: .str nm :: xs) 2
    simpa using this
  rw [m_Assembler_write_s, fnM3, b_Assembler_write]
  have hlen : 2 + xs.length ≤ 16777216 := by omega
  simp only [List.any_cons, List.any_nil, Bool.or_false, Bool.or_eq_true, beq_iff_eq] at hs
  have hlen2 : xs.length + 2 ≤ 16777216 := by omega
  rcases hs with rfl | rfl | rfl | rfl <;>
  · simp -implicitDefEqProofs [gIn_flow, gIn_lay, gIn_pc, P.f_code, P.f_book, P.clsB, P.ty, h1, h2, hsl, hlen, hlen2]
    exact ⟨P2, .put _ _ _⟩
theorem pw_give {s : String} {nm : Str} (L : LsOk ls) (hn : PyData.strOk nm = true) (hs : s = "put" ∨ s = "note") (h : PW n k ls pl a sc t ca) : PW (n + 1) k ls pl (.tup [.str s, .str nm, a]) sc t (ca ++ [.tup [.str s, .int (numOf ls nm)]]) := by
  intro A B C D code st hc P hl
  simp at hl
  obtain ⟨v, st', e1, rfl, P', F'⟩ := h A B C D code st hc P (by omega)
  have h1 := P'.app (.tup [.str s, .int (numOf ls nm)]) (by simp; omega)
  have P2 := P'.put (code ++ ca ++ [.tup [.str s, .int (numOf ls nm)]])
  have h2 := number_ok P' L hn
  have hcl := P.cls (f := "write") (by simp [List.lookup])
  rw [m_Assembler_write_s, fnM3, b_Assembler_write]
  rcases hs with rfl | rfl <;>
  · simp -implicitDefEqProofs [gIn_flow, gIn_lay, gIn_pc, gIn_giv, hcl, e1, P'.f_code, P'.f_book, P'.clsB, P'.ty, h1, h2] at *
    exact ⟨P2, F'.trans (.put _ _ _)⟩
theorem pv_num {i : Int} : PV (n + 1) k ls pl (.tup [.str "num", .int i]) sc t [.tup [.str "push", .int i]] := by
  intro A B C D code st hc P hl
  simp at hl
  have h1 := P.app (.tup [.str "push", .int i]) (by omega)
  have P2 := P.put (code ++ [.tup [.str "push", .int i]])
  rw [m_Assembler_write_value_s, fnM3, b_Assembler_write_value]
  simp -implicitDefEqProofs [P.f_code, P.ty, h1]
  exact ⟨P2, .put _ _ _⟩
theorem optStrs_map : ∀ sc : List Str, optStrs (sc.map .str) = some sc
  | [] => rfl
  | x :: xs => by simp only [List.map_cons, optStrs, optStrs_map xs]; rfl
theorem pv_var {x : Str} {j : Nat} (hj : idxS sc.reverse x = some j) : PV (n + 1) k ls pl (.tup [.str "var", .str x]) sc t [.tup [.str "load", .int j]] := by
  intro A B C D code st hc P hl
  simp at hl
  have h1 := P.app (.tup [.str "load", .int j]) (by omega)
  have P2 := P.put (code ++ [.tup [.str "load", .int j]])
  have h2 : ∀ env st, env[2]? = some (some (stup sc)) → env[4]? = some (some (.str x)) → mRevIx (mVar 2) (mVar 4) env st = .ok (.int j) st := fun env st e1 e2 => by
    simp only [mRevIx, mVar, e1, e2, getO, stup, optStrs_map, hj, Res.bind_ok]
  rw [m_Assembler_write_value_s, fnM3, b_Assembler_write_value]
  simp -implicitDefEqProofs [P.f_code, P.ty, h1, h2]
  exact ⟨P2, .put _ _ _⟩
theorem pv_mod {i : Int} (h : PW n k ls pl a sc t ca) : PV (n + 1) k ls pl (.tup [.str "mod", a, .int i]) sc t (ca ++ [.tup [.str "mod", .int i]]) := by
  intro A B C D code st hc P hl
  simp at hl
  obtain ⟨v, st', e1, rfl, P', F'⟩ := h A B C D code st hc P (by omega)
  have h1 := P'.app (.tup [.str "mod", .int i]) (by simp; omega)
  have P2 := P'.put (code ++ ca ++ [.tup [.str "mod", .int i]])
  have hcl := P.cls (f := "write") (by simp [List.lookup])
  rw [m_Assembler_write_value_s, fnM3, b_Assembler_write_value]
  simp -implicitDefEqProofs [hcl, e1, P'.f_code, P'.ty, h1] at *
  exact ⟨P2, F'.trans (.put _ _ _)⟩
/-- the parts of an expression, written one behind the other -/
inductive PWs (n : Nat) (k : Str) (ls : List MV) (pl : List (L2.Key × MV)) (sc : List Str) : Nat → List MV → List MV → Prop where
  | nil {t : Nat} : PWs n k ls pl sc t [] []
  | cons {t : Nat} {e : MV} {c : List MV} {es cs : List MV} (h : PW n k ls pl e sc t c) (hs : PWs n k ls pl sc (t + c.length) es cs) : PWs n k ls pl sc t (e :: es) (c ++ cs)
end
end K17

set_option Elab.async false
set_option linter.all false
set_option maxRecDepth 100000
set_option autoImplicit false
/-! k17, plain law: the assembler's flow. -/
namespace K17
open PySem BH
abbrev w0 (s : String) : MV := .tup [.str s]
abbrev w1 (s : String) (i : Int) : MV := .tup [.str s, .int i]
section
variable {k : Str} {ls : List MV} {pl : List (L2.Key × MV)} {sc : List Str} {n t : Nat} {e a b d : MV} {ca cb cd : List MV}
/-- what a turn over parts keeps -/
def Wi (n : Nat) (k : Str) (ls : List MV) (pl : List (L2.Key × MV)) (sc : List Str) (t A B C D : Nat) (es c code : List MV) (st : Mst) (i : Nat) (st' : Mst) : Prop :=
  ∃ c1 c2, PWs n k ls pl sc (t + c1.length) (es.drop i) c2 ∧ c = c1 ++ c2 ∧ ASt A B C D k ls pl (code ++ c1) st' ∧ Fr [C] st st'
theorem Wi.step {A B C D : Nat} {es c code : List MV} {st st' : Mst} {i : Nat} {x : MV} (h : Wi n k ls pl sc t A B C D es c code st i st') (hx : es[i]? = some x) (hc : code.length = t) (hl : t + c.length < 16000000) :
    ∃ st2, m_Assembler_write n [.ref A, x, stup sc] st' = .ok .non st2 ∧ Wi n k ls pl sc t A B C D es c code st (i + 1) st2 := by
  obtain ⟨c1, c2, h1, rfl, P, F⟩ := h
  rw [drop_at hx] at h1
  cases h1 with
  | cons h1 h2 =>
    rename_i c3 c4
    simp at hl
    obtain ⟨v, st2, e1, rfl, P2, F2⟩ := h1 A B C D (code ++ c1) st' (by simp [hc]) P (by omega)
    exact ⟨st2, e1, c1 ++ c3, c4, by simpa [Nat.add_assoc] using h2, by simp, by simpa using P2, F.trans F2⟩
theorem Wi.stop {A B C D : Nat} {es c code : List MV} {st st' : Mst} (h : Wi n k ls pl sc t A B C D es c code st es.length st') : ASt A B C D k ls pl (code ++ c) st' ∧ Fr [C] st st' := by
  obtain ⟨c1, c2, h1, rfl, P, F⟩ := h
  rw [List.drop_length] at h1
  cases h1
  exact ⟨by simpa using P, F⟩
theorem pv_val {s : String} {es : List MV} (hs : ["first", "second", "pair", "sum", "same"].any (· == s) = true) (h : PWs n k ls pl sc t es ca) (hlen : es.length < 1000) : PV (n + 1) k ls pl (.tup (.str s :: es)) sc t (ca ++ [w0 s]) := by
  intro A B C D code st hc P hl
  simp at hl
  have hT : (st ++ [.lst es])[st.length]? = some (MO.lst es) := last_snoc
  have P0 := P.gr (.app st [.lst es])
  obtain ⟨st1, e1⟩ : ∃ x, x = st ++ [.lst es] := ⟨_, rfl⟩
  obtain ⟨T, eT⟩ : ∃ x, x = st.length := ⟨_, rfl⟩
  have G1 : Gr st st1 := by rw [e1]; exact .app _ _
  rw [← e1, ← eT] at hT
  rw [← e1] at P0
  have hTC : T ≠ C := by have := lt_of P.hC; omega
  have hsrc := srcOf_lst hT
  have hcl : ∀ {code} {st'}, ASt A B C D k ls pl code st' → clsOf 0 "write" (.ref A) st' = true := fun P => P.cls (by simp [List.lookup])
  suffices key : Post (finB ((forL (srcList T es.length) (gtName 8) (sExpr (mMeth 0 "write" (m_Assembler_write n) (mVar 0) (mCons (mVar 8) (mCons (mVar 2) mNil)) [])) (es.length + 1) 0
      [some (.ref A), some (.tup (.str s :: es)), some (stup sc), none, none, none, some (.str s), some (.ref T), none] st1).bind fun fl s1 => match fl with
      | .nx env1 => (sExpr (mBM "list" gAppend (mFld [0] "code" (mVar 0)) (mCons (mTup (mCons (mVar 6) mNil)) mNil))) env1 s1
      | fl => .ok fl s1)) (fun v st' => v = .non ∧ ASt A B C D k ls pl (code ++ (ca ++ [w0 s])) st' ∧ Fr [C] st1 st') by
    obtain ⟨v, st', q1, q2, q3, q4⟩ := key
    refine ⟨v, st', ?_, q2, q3, (Fr.gr _ G1).trans q4⟩
    rw [← q1, m_Assembler_write_value_s, fnM3, b_Assembler_write_value]
    simp only [List.any_cons, List.any_nil, Bool.or_false, Bool.or_eq_true, beq_iff_eq] at hs
    rcases hs with rfl | rfl | rfl | rfl | rfl <;>
    · simp -implicitDefEqProofs [← e1, ← eT, hsrc]
      try rfl
  refine .finB (.bind (.list (fun i env st' => (∃ o, env = [some (.ref A), some (.tup (.str s :: es)), some (stup sc), none, none, none, some (.str s), some (.ref T), o]) ∧ Wi n k ls pl sc t A B C D es ca code st1 i st') ?_ ⟨⟨_, rfl⟩, [], ca, by simpa using h, rfl, by simpa using P0, .refl _ _⟩ rfl rfl ?_ ?_))
  · rintro i env st' ⟨⟨o, rfl⟩, W⟩
    obtain ⟨_, _, _, _, _, F⟩ := W
    exact itemsOf_lst (F.get hT (by simpa using hTC))
  · rintro i x env st' hx ⟨⟨o, rfl⟩, W⟩
    obtain ⟨st2, q1, W2⟩ := W.step hx hc (by omega)
    obtain ⟨_, _, _, _, P1, _⟩ := W
    refine ⟨_, _, rfl, .nx (env := [some (.ref A), some (.tup (.str s :: es)), some (stup sc), none, none, none, some (.str s), some (.ref T), some x]) (st := st2) ?_ ⟨⟨_, rfl⟩, W2⟩⟩
    simp -implicitDefEqProofs [hcl P1, q1]
  · rintro env st' ⟨⟨o, rfl⟩, W⟩
    obtain ⟨P1, F1⟩ := W.stop
    have h1 := P1.app (w0 s) (by simp; omega)
    have P2 := P1.put (code ++ ca ++ [w0 s])
    simp -implicitDefEqProofs [P1.f_code, P1.ty, h1] at *
    exact ⟨P2, F1.trans (.put _ _ _)⟩
abbrev lets (x : Str) (a b : MV) : MV := .tup [.str "let", .str x, a, b]
theorem pf_let {x : Str} (hsc : sc.length < 1000) (ha : PW n k ls pl a sc t ca) (hb : PW n k ls pl b (sc ++ [x]) (t + ca.length + 1) cb) : PF (n + 1) k ls pl (lets x a b) sc t (ca ++ w0 "bind" :: (cb ++ [w0 "unbind"])) := by
  intro A B C D code st hc P hl
  simp at hl
  have hcl : ∀ {code} {st'}, ASt A B C D k ls pl code st' → clsOf 0 "write" (.ref A) st' = true := fun P => P.cls (by simp [List.lookup])
  obtain ⟨v, st1, e1, rfl, P1, F1⟩ := ha A B C D code st hc P (by omega)
  have h1 := P1.app (w0 "bind") (by simp; omega)
  have P2 := P1.put (code ++ ca ++ [w0 "bind"])
  have F2 := F1.trans (.put C st1 (.lst (code ++ ca ++ [w0 "bind"])))
  obtain ⟨st2, e2⟩ : ∃ x, x = st1.set C (.lst (code ++ ca ++ [w0 "bind"])) := ⟨_, rfl⟩
  rw [← e2] at h1 P2 F2
  obtain ⟨v, st3, e3, rfl, P3, F3⟩ := hb A B C D _ st2 (by simp; omega) P2 (by omega)
  have h3 := P3.app (w0 "unbind") (by simp; omega)
  have P4 := P3.put (code ++ ca ++ [w0 "bind"] ++ cb ++ [w0 "unbind"])
  have F4 := (F2.trans F3).trans (.put C st3 (.lst (code ++ ca ++ [w0 "bind"] ++ cb ++ [w0 "unbind"])))
  have hsl : sc.length + 1 ≤ 16777216 := by omega
  simp only [stup, List.map_append, List.map_cons, List.map_nil] at e3
  rw [m_Assembler_write_flow_s, fnM3, b_Assembler_write_flow]
  simp -implicitDefEqProofs [hcl P, e1, P1.f_code, P1.ty, h1, hcl P2, e3, P3.f_code, P3.ty, h3, hsl]
  simp at P4 F4
  exact ⟨P4, F4⟩
end
end K17

set_option Elab.async false
set_option linter.all false
set_option maxRecDepth 100000
set_option autoImplicit false
namespace K17
open PySem BH
theorem set_at {α : Type} {xs ys : List α} {y v : α} {n : Nat} (h : n = xs.length) : (xs ++ y :: ys).set n v = xs ++ v :: ys := by subst h; simp
abbrev wN (s : String) (xs : List Int) : MV := .tup (.str s :: xs.map .int)
section
variable {k : Str} {ls : List MV} {pl : List (L2.Key × MV)} {sc : List Str} {n t : Nat} {e a b d : MV} {ca cb cd : List MV}
theorem ASt.len' {A B C D : Nat} {code : List MV} {st : Mst} (P : ASt A B C D k ls pl code st) {q : Int} (h : (code.length : Int) = q) : gLen [.ref C] st = .ok (.int q) st := by rw [P.len, h]
theorem ASt.clW {A B C D : Nat} {code : List MV} {st : Mst} (P : ASt A B C D k ls pl code st) : clsOf 0 "write" (.ref A) st = true := P.cls (by simp [List.lookup])
theorem ASt.clH {A B C D : Nat} {code : List MV} {st : Mst} (P : ASt A B C D k ls pl code st) : clsOf 0 "hole" (.ref A) st = true := P.cls (by simp [List.lookup])
theorem ASt.at_ {A B C D : Nat} {xs ys : List MV} {y : MV} {st : Mst} (P : ASt A B C D k ls pl (xs ++ y :: ys) st) {i : Int} (v : MV) (e : i = (xs.length : Int)) :
    gSetIx (.ref C) (.int i) v st = .ok () (st.set C (.lst (xs ++ v :: ys))) := by
  rw [gSetIx_lst P.hC e (by simp), set_at rfl]
abbrev ite (a b c : MV) : MV := .tup [.str "if", a, b, c]
theorem pf_if (ha : PW n k ls pl a sc t ca) (hb : PW n k ls pl b sc (t + ca.length + 1) cb) (hd : PW n k ls pl d sc (t + ca.length + cb.length + 2) cd) :
    PF (n + 1) k ls pl (ite a b d) sc t (ca ++ w1 "branch" (t + ca.length + cb.length + 2) :: (cb ++ w1 "jump" (t + ca.length + cb.length + 2 + cd.length) :: cd)) := by
  intro A B C D code st hc P hl
  simp at hl
  obtain ⟨v, st1, e1, rfl, P1, F1⟩ := ha A B C D code st hc P (by omega)
  have h1 := hole_ok P1 (by simp; omega)
  have P2 := P1.put (code ++ ca ++ [w1 "jump" 0])
  have F2 := F1.trans (.put C st1 (.lst (code ++ ca ++ [w1 "jump" 0])))
  obtain ⟨st2, e2⟩ : ∃ x, x = st1.set C (.lst (code ++ ca ++ [w1 "jump" 0])) := ⟨_, rfl⟩
  rw [← e2] at h1 P2 F2
  obtain ⟨v, st3, e3, rfl, P3, F3⟩ := hb A B C D _ st2 (by simp; omega) P2 (by omega)
  have h3 := hole_ok P3 (by simp; omega)
  have P4 := P3.put (code ++ ca ++ [w1 "jump" 0] ++ cb ++ [w1 "jump" 0])
  have F4 := (F2.trans F3).trans (.put C st3 (.lst (code ++ ca ++ [w1 "jump" 0] ++ cb ++ [w1 "jump" 0])))
  obtain ⟨st4, e4⟩ : ∃ x, x = st3.set C (.lst (code ++ ca ++ [w1 "jump" 0] ++ cb ++ [w1 "jump" 0])) := ⟨_, rfl⟩
  rw [← e4] at h3 P4 F4
  have l4 := P4.len' (q := (t : Int) + ca.length + cb.length + 2) (by simp; omega)
  have e0 : code ++ ca ++ [w1 "jump" 0] ++ cb ++ [w1 "jump" 0] = (code ++ ca) ++ w1 "jump" 0 :: (cb ++ [w1 "jump" 0]) := by simp
  rw [e0] at P4
  have h4 := P4.at_ (i := ((code ++ ca).length : Int)) (w1 "branch" (t + ca.length + cb.length + 2)) rfl
  have P5 := P4.put ((code ++ ca) ++ w1 "branch" (t + ca.length + cb.length + 2) :: (cb ++ [w1 "jump" 0]))
  have F5 := F4.trans (.put C st4 (.lst ((code ++ ca) ++ w1 "branch" (t + ca.length + cb.length + 2) :: (cb ++ [w1 "jump" 0]))))
  obtain ⟨st5, e5⟩ : ∃ x, x = st4.set C (.lst ((code ++ ca) ++ w1 "branch" (t + ca.length + cb.length + 2) :: (cb ++ [w1 "jump" 0]))) := ⟨_, rfl⟩
  rw [← e5] at h4 P5 F5
  obtain ⟨v, st6, e6, rfl, P6, F6⟩ := hd A B C D _ st5 (by simp; omega) P5 (by omega)
  have l6 := P6.len' (q := (t : Int) + ca.length + cb.length + 2 + cd.length) (by simp; omega)
  have e7 : code ++ ca ++ w1 "branch" (t + ca.length + cb.length + 2) :: (cb ++ [w1 "jump" 0]) ++ cd = (code ++ ca ++ w1 "branch" (t + ca.length + cb.length + 2) :: cb) ++ w1 "jump" 0 :: cd := by simp
  rw [e7] at P6
  have h6 := P6.at_ (i := ((code ++ ca ++ [w1 "jump" 0] ++ cb).length : Int)) (w1 "jump" (t + ca.length + cb.length + 2 + cd.length)) (by simp)
  have P7 := P6.put ((code ++ ca ++ w1 "branch" (t + ca.length + cb.length + 2) :: cb) ++ w1 "jump" (t + ca.length + cb.length + 2 + cd.length) :: cd)
  have F7 := (F5.trans F6).trans (.put C st6 (.lst ((code ++ ca ++ w1 "branch" (t + ca.length + cb.length + 2) :: cb) ++ w1 "jump" (t + ca.length + cb.length + 2 + cd.length) :: cd)))
  obtain ⟨st7, e8⟩ : ∃ x, x = st6.set C (.lst ((code ++ ca ++ w1 "branch" (t + ca.length + cb.length + 2) :: cb) ++ w1 "jump" (t + ca.length + cb.length + 2 + cd.length) :: cd)) := ⟨_, rfl⟩
  rw [← e8] at h6 P7 F7
  obtain ⟨i1, q1⟩ : ∃ x, x = ((code ++ ca).length : Int) := ⟨_, rfl⟩
  obtain ⟨i2, q2⟩ : ∃ x, x = ((code ++ ca ++ [w1 "jump" 0] ++ cb).length : Int) := ⟨_, rfl⟩
  rw [← q1] at h1 h4
  rw [← q2] at h3 h6
  rw [m_Assembler_write_flow_s, fnM3, b_Assembler_write_flow]
  simp -implicitDefEqProofs [P.clW, P1.clH, P2.clW, P3.clH, P5.clW, e1, h1, e3, h3, P4.f_code, l4, h4, e6, P6.f_code, l6, h6]
  simp at P7
  exact ⟨P7, F7⟩
abbrev rep (i : Int) (x : Str) (a b : MV) : MV := .tup [.str "repeat", .int i, .str x, a, b]
theorem pf_rep {i : Int} {x : Str} (hsc : sc.length < 1000) (ha : PW n k ls pl a sc t ca) (hb : PW n k ls pl b (sc ++ [x]) (t + ca.length + 1 + 1) cb) :
    PF (n + 1) k ls pl (rep i x a b) sc t (ca ++ w1 "count" i :: w0 "bind" :: (cb ++ [w0 "unbind", w1 "again" (t + ca.length + 1)])) := by
  intro A B C D code st hc P hl
  simp at hl
  obtain ⟨v, st1, e1, rfl, P1, F1⟩ := ha A B C D code st hc P (by omega)
  have h1 := P1.app (w1 "count" i) (by simp; omega)
  have P2 := P1.put (code ++ ca ++ [w1 "count" i])
  have F2 := F1.trans (.put C st1 (.lst (code ++ ca ++ [w1 "count" i])))
  obtain ⟨st2, e2⟩ : ∃ x, x = st1.set C (.lst (code ++ ca ++ [w1 "count" i])) := ⟨_, rfl⟩
  rw [← e2] at h1 P2 F2
  have l2 := P2.len' (q := (t : Int) + ca.length + 1) (by simp; omega)
  have h2 := P2.app (w0 "bind") (by simp; omega)
  have P3 := P2.put (code ++ ca ++ [w1 "count" i] ++ [w0 "bind"])
  have F3 := F2.trans (.put C st2 (.lst (code ++ ca ++ [w1 "count" i] ++ [w0 "bind"])))
  obtain ⟨st3, e3⟩ : ∃ x, x = st2.set C (.lst (code ++ ca ++ [w1 "count" i] ++ [w0 "bind"])) := ⟨_, rfl⟩
  rw [← e3] at h2 P3 F3
  obtain ⟨v, st4, e4, rfl, P4, F4⟩ := hb A B C D _ st3 (by simp; omega) P3 (by omega)
  have h4 := P4.app (w0 "unbind") (by simp; omega)
  have P5 := P4.put (code ++ ca ++ [w1 "count" i] ++ [w0 "bind"] ++ cb ++ [w0 "unbind"])
  have F5 := (F3.trans F4).trans (.put C st4 (.lst (code ++ ca ++ [w1 "count" i] ++ [w0 "bind"] ++ cb ++ [w0 "unbind"])))
  obtain ⟨st5, e5⟩ : ∃ x, x = st4.set C (.lst (code ++ ca ++ [w1 "count" i] ++ [w0 "bind"] ++ cb ++ [w0 "unbind"])) := ⟨_, rfl⟩
  rw [← e5] at h4 P5 F5
  have h5 := P5.app (w1 "again" (t + ca.length + 1)) (by simp; omega)
  have P6 := P5.put (code ++ ca ++ [w1 "count" i] ++ [w0 "bind"] ++ cb ++ [w0 "unbind"] ++ [w1 "again" (t + ca.length + 1)])
  have F6 := F5.trans (.put C st5 (.lst (code ++ ca ++ [w1 "count" i] ++ [w0 "bind"] ++ cb ++ [w0 "unbind"] ++ [w1 "again" (t + ca.length + 1)])))
  obtain ⟨st6, e6⟩ : ∃ x, x = st5.set C (.lst (code ++ ca ++ [w1 "count" i] ++ [w0 "bind"] ++ cb ++ [w0 "unbind"] ++ [w1 "again" (t + ca.length + 1)])) := ⟨_, rfl⟩
  rw [← e6] at h5 P6 F6
  have hsl : sc.length + 1 ≤ 16777216 := by omega
  simp only [stup, List.map_append, List.map_cons, List.map_nil] at e4
  rw [m_Assembler_write_flow_s, fnM3, b_Assembler_write_flow]
  simp -implicitDefEqProofs [P.clW, P3.clW, e1, h1, P1.f_code, P1.ty, l2, P2.f_code, P2.ty, h2, e4, P4.f_code, P4.ty, h4, P5.f_code, P5.ty, h5, hsl]
  simp at P6
  exact ⟨P6, F6⟩
abbrev callE (f : Str) (es : List MV) : MV := .tup [.str "call", .str f, .tup es]
theorem pf_call {f : Str} {p : Int} {es : List MV} (hf : lookK pl (.inr f) = some (.int p)) (h : PWs n k ls pl sc t es ca) (hlen : es.length < 1000) : PF (n + 1) k ls pl (callE f es) sc t (ca ++ [wN "call" [p, es.length]]) := by
  intro A B C D code st hc P hl
  simp at hl
  suffices key : Post (finB ((forL (srcItems es) (gtName 14) (sExpr (mMeth 0 "write" (m_Assembler_write n) (mVar 0) (mCons (mVar 14) (mCons (mVar 2) mNil)) [])) (es.length + 1) 0
      [some (.ref A), some (callE f es), some (stup sc), some (.str f), none, none, none, none, none, none, none, none, none, some (.tup es), none, none, none, none, none, none] st).bind fun fl s1 => match fl with
      | .nx env1 => (sExpr (mBM "list" gAppend (mFld [0] "code" (mVar 0)) (mCons (mTup (mCons (mC (.str "call")) (mCons (mBin gDGet (mFld [0] "places" (mVar 0)) (mVar 3)) (mCons (mCallB gLen (mCons (mVar 13) mNil)) mNil)))) mNil))) env1 s1
      | fl => .ok fl s1)) (fun v st' => v = .non ∧ ASt A B C D k ls pl (code ++ (ca ++ [wN "call" [p, es.length]])) st' ∧ Fr [C] st st') by
    obtain ⟨v, st', q1, q2, q3, q4⟩ := key
    refine ⟨v, st', ?_, q2, q3, q4⟩
    rw [← q1, m_Assembler_write_flow_s, fnM3, b_Assembler_write_flow]
    simp -implicitDefEqProofs
    try rfl
  refine .finB (.bind (.items (fun i env st' => (∃ o, env = [some (.ref A), some (callE f es), some (stup sc), some (.str f), none, none, none, none, none, none, none, none, none, some (.tup es), o, none, none, none, none, none]) ∧ Wi n k ls pl sc t A B C D es ca code st i st') ⟨⟨_, rfl⟩, [], ca, by simpa using h, rfl, by simpa using P, .refl _ _⟩ rfl ?_ ?_))
  · rintro i x env st' hx ⟨⟨o, rfl⟩, W⟩
    obtain ⟨st2, q1, W2⟩ := W.step hx hc (by omega)
    obtain ⟨_, _, _, _, P1, _⟩ := W
    refine ⟨_, _, rfl, .nx (env := [some (.ref A), some (callE f es), some (stup sc), some (.str f), none, none, none, none, none, none, none, none, none, some (.tup es), some x, none, none, none, none, none]) (st := st2) ?_ ⟨⟨_, rfl⟩, W2⟩⟩
    simp -implicitDefEqProofs [P1.clW, q1]
  · rintro env st' ⟨⟨o, rfl⟩, W⟩
    obtain ⟨P1, F1⟩ := W.stop
    have h1 := P1.app (wN "call" [p, es.length]) (by simp; omega)
    have P2 := P1.put (code ++ ca ++ [wN "call" [p, es.length]])
    have F2 := F1.trans (.put C st' (.lst (code ++ ca ++ [wN "call" [p, es.length]])))
    have hg := gDGet_dct (y := .str f) P1.hD rfl hf
    obtain ⟨st2, e2⟩ : ∃ x, x = st'.set C (.lst (code ++ ca ++ [wN "call" [p, es.length]])) := ⟨_, rfl⟩
    rw [← e2] at h1 P2 F2
    simp only [wN, List.map_cons, List.map_nil] at h1
    simp -implicitDefEqProofs [P1.f_code, P1.ty, P1.f_places, hg, h1]
    simp at P2
    exact ⟨P2, F2⟩
abbrev tri (nm : Str) (i : Int) (a b : MV) : MV := .tup [.str "try", .str nm, .int i, a, b]
theorem pf_try {nm : Str} {i : Int} (L : LsOk ls) (hn : PyData.strOk nm = true) (ha : PW n k ls pl a sc (t + 1) ca) (hb : PW n k ls pl b sc (t + 1 + ca.length + 1) cb) :
    PF (n + 1) k ls pl (tri nm i a b) sc t (wN "try" [numOf ls nm, i, t + ca.length + 2] :: (ca ++ w1 "untry" (t + ca.length + 2 + cb.length) :: cb)) := by
  intro A B C D code st hc P hl
  simp at hl
  have h1 := hole_ok P (by omega)
  have P2 := P.put (code ++ [w1 "jump" 0])
  have F2 := Fr.put C st (.lst (code ++ [w1 "jump" 0]))
  obtain ⟨st2, e2⟩ : ∃ x, x = st.set C (.lst (code ++ [w1 "jump" 0])) := ⟨_, rfl⟩
  rw [← e2] at h1 P2 F2
  obtain ⟨v, st3, e3, rfl, P3, F3⟩ := ha A B C D _ st2 (by simp; omega) P2 (by omega)
  have h3 := hole_ok P3 (by simp; omega)
  have P4 := P3.put (code ++ [w1 "jump" 0] ++ ca ++ [w1 "jump" 0])
  have F4 := (F2.trans F3).trans (.put C st3 (.lst (code ++ [w1 "jump" 0] ++ ca ++ [w1 "jump" 0])))
  obtain ⟨st4, e4⟩ : ∃ x, x = st3.set C (.lst (code ++ [w1 "jump" 0] ++ ca ++ [w1 "jump" 0])) := ⟨_, rfl⟩
  rw [← e4] at h3 P4 F4
  have l4 := P4.len' (q := (t : Int) + ca.length + 2) (by simp; omega)
  have e0 : code ++ [w1 "jump" 0] ++ ca ++ [w1 "jump" 0] = code ++ w1 "jump" 0 :: (ca ++ [w1 "jump" 0]) := by simp
  rw [e0] at P4
  have n4 := number_ok P4 L hn
  have h4 := P4.at_ (i := (code.length : Int)) (wN "try" [numOf ls nm, i, t + ca.length + 2]) rfl
  have P5 := P4.put (code ++ wN "try" [numOf ls nm, i, t + ca.length + 2] :: (ca ++ [w1 "jump" 0]))
  have F5 := F4.trans (.put C st4 (.lst (code ++ wN "try" [numOf ls nm, i, t + ca.length + 2] :: (ca ++ [w1 "jump" 0]))))
  obtain ⟨st5, e5⟩ : ∃ x, x = st4.set C (.lst (code ++ wN "try" [numOf ls nm, i, t + ca.length + 2] :: (ca ++ [w1 "jump" 0]))) := ⟨_, rfl⟩
  rw [← e5] at h4 P5 F5
  obtain ⟨v, st6, e6, rfl, P6, F6⟩ := hb A B C D _ st5 (by simp; omega) P5 (by omega)
  have l6 := P6.len' (q := (t : Int) + ca.length + 2 + cb.length) (by simp; omega)
  have e7 : code ++ wN "try" [numOf ls nm, i, t + ca.length + 2] :: (ca ++ [w1 "jump" 0]) ++ cb = (code ++ wN "try" [numOf ls nm, i, t + ca.length + 2] :: ca) ++ w1 "jump" 0 :: cb := by simp
  rw [e7] at P6
  have h6 := P6.at_ (i := ((code ++ [w1 "jump" 0] ++ ca).length : Int)) (w1 "untry" (t + ca.length + 2 + cb.length)) (by simp)
  have P7 := P6.put ((code ++ wN "try" [numOf ls nm, i, t + ca.length + 2] :: ca) ++ w1 "untry" (t + ca.length + 2 + cb.length) :: cb)
  have F7 := (F5.trans F6).trans (.put C st6 (.lst ((code ++ wN "try" [numOf ls nm, i, t + ca.length + 2] :: ca) ++ w1 "untry" (t + ca.length + 2 + cb.length) :: cb)))
  obtain ⟨st7, e8⟩ : ∃ x, x = st6.set C (.lst ((code ++ wN "try" [numOf ls nm, i, t + ca.length + 2] :: ca) ++ w1 "untry" (t + ca.length + 2 + cb.length) :: cb)) := ⟨_, rfl⟩
  rw [← e8] at h6 P7 F7
  obtain ⟨i1, q1⟩ : ∃ x, x = (code.length : Int) := ⟨_, rfl⟩
  obtain ⟨i2, q2⟩ : ∃ x, x = ((code ++ [w1 "jump" 0] ++ ca).length : Int) := ⟨_, rfl⟩
  rw [← q1] at h1 h4
  rw [← q2] at h3 h6
  simp only [wN, List.map_cons, List.map_nil] at h4
  obtain ⟨z, ez⟩ : ∃ x, x = numOf ls nm := ⟨_, rfl⟩
  rw [← ez] at n4 h4
  rw [m_Assembler_write_flow_s, fnM3, b_Assembler_write_flow]
  simp -implicitDefEqProofs [P.clH, h1, P2.clW, e3, P3.clH, h3, P4.f_book, P4.clsB, n4, P4.f_code, l4, h4, P5.clW, e6, P6.f_code, l6, h6]
  simp at P7
  exact ⟨P7, F7⟩
end
end K17

set_option Elab.async false
set_option linter.all false
set_option maxRecDepth 100000
set_option autoImplicit false
/-! k17, plain law: the law's own code. -/
namespace K17
open PySem BH
theorem gIsi_tup (xs : List MV) (st : Mst) : gIsi [.tup xs, .ty "tuple"] st = .ok (.bl true) st := by simp [gIsi, tyName, isiT]
theorem gIsi_str (x : Str) (st : Mst) : gIsi [.str x, .ty "tuple"] st = .ok (.bl false) st := by simp [gIsi, tyName, isiT]
theorem gIsi_int (x : Int) (st : Mst) : gIsi [.int x, .ty "tuple"] st = .ok (.bl false) st := by simp [gIsi, tyName, isiT]
theorem gIsi_ii (x : Int) (st : Mst) : gIsi [.int x, .ty "int"] st = .ok (.bl true) st := by simp [gIsi, tyName, isiT]
theorem gIsi_ib (x : Int) (st : Mst) : gIsi [.int x, .ty "bool"] st = .ok (.bl false) st := by simp [gIsi, tyName, isiT]
theorem cat_ok {xs ys : List MV} {R : Nat} {st : Mst} (h : st[R]? = some (.lst xs)) (hl : xs.length + ys.length ≤ 16777216) :
    ∃ R2 st2, gAdd (.ref R) (.ref st.length) (st ++ [.lst ys]) = .ok (.ref R2) st2 ∧ Gr st st2 ∧ st2[R2]? = some (.lst (xs ++ ys)) :=
  ⟨_, _, gAdd_lst (up h) last_snoc hl, (Gr.app _ _).trans (.app _ _), last_snoc⟩
theorem cat2_ok {xs ys : List MV} {R R' : Nat} {st : Mst} (h : st[R]? = some (.lst xs)) (h' : st[R']? = some (.lst ys)) (hl : xs.length + ys.length ≤ 16777216) :
    ∃ R2 st2, gAdd (.ref R) (.ref R') st = .ok (.ref R2) st2 ∧ Gr st st2 ∧ st2[R2]? = some (.lst (xs ++ ys)) :=
  ⟨_, _, gAdd_lst h h' hl, .app _ _, last_snoc⟩
def LS (m : List MV → M MV) (ls : List MV) (pl : List (L2.Key × MV)) (e : MV) (sc : List Str) (t : Int) (c : List MV) : Prop :=
  ∀ (S T : Nat) (st : Mst), st[S]? = some (.lst (sc.map .str)) → st[T]? = some (.dct pl) → c.length < 16000000 →
    ∃ R st', m [e, .int t, .ref S, .ref T, .tup ls] st = .ok (.ref R) st' ∧ Gr st st' ∧ st'[R]? = some (.lst c)
abbrev LW (n : Nat) := LS (m_law_code n)
abbrev LF (n : Nat) := LS (m_law_flow n)
section
variable {ls : List MV} {pl : List (L2.Key × MV)} {sc : List Str} {n : Nat} {t : Int} {e a b d : MV} {ca cb cd : List MV}
theorem lf_let {x : Str} (hsc : sc.length < 1000) (ha : LW n ls pl a sc t ca) (hb : LW n ls pl b (sc ++ [x]) (t + ca.length + 1) cb) : LF (n + 1) ls pl (lets x a b) sc t (ca ++ w0 "bind" :: (cb ++ [w0 "unbind"])) := by
  intro S T st hS hT hl
  simp at hl
  obtain ⟨R1, st1, e1, G1, h1⟩ := ha S T st hS hT (by omega)
  have l1 := gLen_lst h1
  obtain ⟨S2, st2, e2, G2, h2⟩ := cat_ok (ys := [.str x]) (G1.get hS) (by simp; omega)
  obtain ⟨R3, st3, e3, G3, h3⟩ := hb S2 T st2 (by simpa using h2) (G2.get (G1.get hT)) (by omega)
  obtain ⟨R4, st4, e4, G4, h4⟩ := cat_ok (ys := [w0 "bind"]) (G3.get (G2.get h1)) (by simp; omega)
  obtain ⟨R5, st5, e5, G5, h5⟩ := cat2_ok h4 (G4.get h3) (by simp; omega)
  obtain ⟨R6, st6, e6, G6, h6⟩ := cat_ok (ys := [w0 "unbind"]) h5 (by simp; omega)
  refine ⟨R6, st6, ?_, ((((G1.trans G2).trans G3).trans G4).trans G5).trans G6, by simpa using h6⟩
  rw [m_law_flow_s, fnM5, b_law_flow]
  simp -implicitDefEqProofs [e1, l1, e2, e3, e4, e5, e6]
theorem lf_if (ha : LW n ls pl a sc t ca) (hb : LW n ls pl b sc (t + ca.length + 1) cb) (hd : LW n ls pl d sc (t + ca.length + cb.length + 2) cd) :
    LF (n + 1) ls pl (ite a b d) sc t (ca ++ w1 "branch" (t + ca.length + cb.length + 2) :: (cb ++ w1 "jump" (t + ca.length + cb.length + 2 + cd.length) :: cd)) := by
  intro S T st hS hT hl
  simp at hl
  obtain ⟨R1, st1, e1, G1, h1⟩ := ha S T st hS hT (by omega)
  have l1 := gLen_lst h1
  obtain ⟨R2, st2, e2, G2, h2⟩ := hb S T st1 (G1.get hS) (G1.get hT) (by omega)
  have G12 := G1.trans G2
  have l12 := gLen_lst (G2.get h1)
  have l2 := gLen_lst h2
  obtain ⟨R3, st3, e3, G3, h3⟩ := hd S T st2 (G12.get hS) (G12.get hT) (by omega)
  obtain ⟨R4, st4, e4, G4, h4⟩ := cat_ok (ys := [w1 "branch" (t + ca.length + cb.length + 2)]) (G3.get (G2.get h1)) (by simp; omega)
  obtain ⟨R5, st5, e5, G5, h5⟩ := cat2_ok h4 (G4.get (G3.get h2)) (by simp; omega)
  have l5 := gLen_lst (G5.get (G4.get h3))
  obtain ⟨R6, st6, e6, G6, h6⟩ := cat_ok (ys := [w1 "jump" (t + ca.length + cb.length + 2 + cd.length)]) h5 (by simp; omega)
  obtain ⟨R7, st7, e7, G7, h7⟩ := cat2_ok h6 (G6.get (G5.get (G4.get h3))) (by simp; omega)
  refine ⟨R7, st7, ?_, (((((G12.trans G3).trans G4).trans G5).trans G6).trans G7), by simpa using h7⟩
  rw [m_law_flow_s, fnM5, b_law_flow]
  simp -implicitDefEqProofs [e1, l1, e2, l12, l2, e3, e4, e5, l5, e6, e7]
theorem lf_rep {i : Int} {x : Str} (hsc : sc.length < 1000) (ha : LW n ls pl a sc t ca) (hb : LW n ls pl b (sc ++ [x]) (t + ca.length + 1 + 1) cb) :
    LF (n + 1) ls pl (rep i x a b) sc t (ca ++ w1 "count" i :: w0 "bind" :: (cb ++ [w0 "unbind", w1 "again" (t + ca.length + 1)])) := by
  intro S T st hS hT hl
  simp at hl
  obtain ⟨R1, st1, e1, G1, h1⟩ := ha S T st hS hT (by omega)
  have l1 := gLen_lst h1
  obtain ⟨S2, st2, e2, G2, h2⟩ := cat_ok (ys := [.str x]) (G1.get hS) (by simp; omega)
  obtain ⟨R3, st3, e3, G3, h3⟩ := hb S2 T st2 (by simpa using h2) (G2.get (G1.get hT)) (by omega)
  obtain ⟨R4, st4, e4, G4, h4⟩ := cat_ok (ys := [w1 "count" i, w0 "bind"]) (G3.get (G2.get h1)) (by simp; omega)
  obtain ⟨R5, st5, e5, G5, h5⟩ := cat2_ok h4 (G4.get h3) (by simp; omega)
  obtain ⟨R6, st6, e6, G6, h6⟩ := cat_ok (ys := [w0 "unbind", w1 "again" (t + ca.length + 1)]) h5 (by simp; omega)
  refine ⟨R6, st6, ?_, ((((G1.trans G2).trans G3).trans G4).trans G5).trans G6, by simpa using h6⟩
  rw [m_law_flow_s, fnM5, b_law_flow]
  simp -implicitDefEqProofs [e1, l1, e2, e3, e4, e5, e6]
theorem lf_try {nm : Str} {i : Int} (L : LsOk ls) (hln : ls.length < 1000) (hn : PyData.strOk nm = true) (ha : LW n ls pl a sc (t + 1) ca) (hb : LW n ls pl b sc (t + ca.length + 2) cb) :
    LF (n + 1) ls pl (tri nm i a b) sc t (wN "try" [numOf ls nm, i, t + ca.length + 2] :: (ca ++ w1 "untry" (t + ca.length + 2 + cb.length) :: cb)) := by
  intro S T st hS hT hl
  simp at hl
  obtain ⟨R1, st1, e1, G1, h1⟩ := ha S T st hS hT (by omega)
  have l1 := gLen_lst h1
  obtain ⟨R2, st2, e2, G2, h2⟩ := hb S T st1 (G1.get hS) (G1.get hT) (by omega)
  have n2 := lawnum_ok (st := st2) L hn hln
  have G3 := Gr.app st2 [.lst [wN "try" [numOf ls nm, i, t + ca.length + 2]]]
  obtain ⟨st3, e3⟩ : ∃ x, x = st2 ++ [.lst [wN "try" [numOf ls nm, i, t + ca.length + 2]]] := ⟨_, rfl⟩
  obtain ⟨R3, q3⟩ : ∃ x, x = st2.length := ⟨_, rfl⟩
  have h3 : st3[R3]? = some (.lst [wN "try" [numOf ls nm, i, t + ca.length + 2]]) := by rw [e3, q3]; exact last_snoc
  rw [← e3] at G3
  simp only [wN, List.map_cons, List.map_nil] at e3
  obtain ⟨R4, st4, e4, G4, h4⟩ := cat2_ok h3 (G3.get (G2.get h1)) (by simp; omega)
  have l4 := gLen_lst (G4.get (G3.get h2))
  obtain ⟨R5, st5, e5, G5, h5⟩ := cat_ok (ys := [w1 "untry" (t + ca.length + 2 + cb.length)]) h4 (by simp; omega)
  obtain ⟨R6, st6, e6, G6, h6⟩ := cat2_ok h5 (G5.get (G4.get (G3.get h2))) (by simp; omega)
  refine ⟨R6, st6, ?_, ((((G1.trans G2).trans G3).trans G4).trans G5).trans G6, by simpa using h6⟩
  obtain ⟨z, ez⟩ : ∃ x, x = numOf ls nm := ⟨_, rfl⟩
  rw [← ez] at n2 e3
  rw [m_law_flow_s, fnM5, b_law_flow]
  simp -implicitDefEqProofs [e1, l1, e2, n2, ← e3, ← q3, e4, l4, e5, e6]
/-! ### law_code -/
theorem gIn_let (s : String) (st : Mst) : gIn false (.str s) (.tup [.str "let", .str "if", .str "repeat", .str "try"]) st = .ok (.bl (["let", "if", "repeat", "try"].any (· == s))) st := by simp -implicitDefEqProofs
theorem lw_flow {s : String} {xs : List MV} (hs : ["let", "if", "repeat", "try"].any (· == s) = true) (h : LF n ls pl (.tup (.str s :: xs)) sc t ca) : LW (n + 1) ls pl (.tup (.str s :: xs)) sc t ca := by
  intro S T st hS hT hl
  obtain ⟨R, st', e1, G, h1⟩ := h S T st hS hT hl
  refine ⟨R, st', ?_, G, h1⟩
  have g1 := fun st => (gIn_let s st).trans (by rw [hs])
  rw [m_law_code_s, fnM5, b_law_code]
  simp -implicitDefEqProofs [g1, e1, -List.any_cons, -gIn_tup_ap]
theorem lw_num {i : Int} : LW (n + 1) ls pl (.tup [.str "num", .int i]) sc t [w1 "push" i] := by
  intro S T st hS hT hl
  refine ⟨st.length, st ++ [.lst [w1 "push" i]], ?_, .app _ _, last_snoc⟩
  rw [m_law_code_s, fnM5, b_law_code]
  simp -implicitDefEqProofs
theorem lw_var {x : Str} {j : Nat} (hj : idxS sc.reverse x = some j) (ho : ∀ y ∈ sc, PyData.strOk y = true) (hx : PyData.strOk x = true) (hl : sc.length < 1000) : LW (n + 1) ls pl (.tup [.str "var", .str x]) sc t [w1 "load" j] := by
  intro S T st hS hT _
  refine ⟨st.length, st ++ [.lst [w1 "load" j]], ?_, .app _ _, last_snoc⟩
  have h1 := behind_ok hS ho hx hj hl
  rw [m_law_code_s, fnM5, b_law_code]
  simp -implicitDefEqProofs [h1]
theorem lw_piece {s : String} {xs : List MV} (hs : s = "choose" ∨ s = "draw") : LW (n + 1) ls pl (.tup (.str s :: xs)) sc t [.tup (.str s :: xs)] := by
  intro S T st hS hT hl
  refine ⟨st.length, st ++ [.lst [.tup (.str s :: xs)]], ?_, .app _ _, last_snoc⟩
  rw [m_law_code_s, fnM5, b_law_code]
  rcases hs with rfl | rfl <;> simp -implicitDefEqProofs
theorem lw_lay {s : String} {nm : Str} {xs : List MV} (L : LsOk ls) (hln : ls.length < 1000) (hn : PyData.strOk nm = true) (hs : ["get", "look", "fail", "ask"].any (· == s) = true) (hx : xs.length ≤ 10) :
    LW (n + 1) ls pl (.tup (.str s :: .str nm :: xs)) sc t [.tup (.str s :: .int (numOf ls nm) :: xs)] := by
  intro S T st hS hT hl
  refine ⟨st.length, st ++ [.lst [.tup (.str s :: .int (numOf ls nm) :: xs)]], ?_, .app _ _, last_snoc⟩
  have n2 := lawnum_ok (st := st) L hn hln
  have hsl : mcut (MV.str s :: .str nm :: xs) (some 2) none = xs := by
    have := mcut_from (MV.str s :: .str nm :: xs) 2
    simpa using this
  have hlen : 2 + xs.length ≤ 16777216 := by omega
  have hlen2 : xs.length + 2 ≤ 16777216 := by omega
  rw [m_law_code_s, fnM5, b_law_code]
  simp only [List.any_cons, List.any_nil, Bool.or_false, Bool.or_eq_true, beq_iff_eq] at hs
  rcases hs with rfl | rfl | rfl | rfl <;>
  · simp -implicitDefEqProofs [n2, hsl, hlen, hlen2]
end
end K17

set_option Elab.async false
set_option linter.all false
set_option maxRecDepth 100000
set_option autoImplicit false
/-! k17, plain law: the law's own code, words with parts. -/
namespace K17
open PySem BH
def tupF : MV → Option MV
  | .tup xs => some (.tup xs)
  | _ => none
inductive Flat : MV → Prop where
  | tup (xs : List MV) : Flat (.tup xs)
  | str (x : Str) : Flat (.str x)
  | int (i : Int) : Flat (.int i)
inductive LWs (n : Nat) (ls : List MV) (pl : List (L2.Key × MV)) (sc : List Str) : Int → List MV → List MV → Prop where
  | nil {t : Int} : LWs n ls pl sc t [] []
  | cons {t : Int} {e : MV} {c : List MV} {es cs : List MV} (h : LW n ls pl e sc t c) (hs : LWs n ls pl sc (t + c.length) es cs) : LWs n ls pl sc t (e :: es) (c ++ cs)
theorem LS.of {m : List MV → M MV} {ls : List MV} {pl : List (L2.Key × MV)} {e : MV} {sc : List Str} {t : Int} {c : List MV} (h : ∀ (S T : Nat) (st : Mst), st[S]? = some (.lst (sc.map .str)) → st[T]? = some (.dct pl) → c.length < 16000000 →
    Post (m [e, .int t, .ref S, .ref T, .tup ls] st) (fun v st' => ∃ R, v = .ref R ∧ Gr st st' ∧ st'[R]? = some (.lst c))) : LS m ls pl e sc t c := by
  intro S T st hS hT hl
  obtain ⟨v, st', e1, R, rfl, G, h1⟩ := h S T st hS hT hl
  exact ⟨R, st', e1, G, h1⟩
section
variable {ls : List MV} {pl : List (L2.Key × MV)} {sc : List Str} {n : Nat} {t : Int} {e a b d : MV} {ca cb cd : List MV}
abbrev loopB (n : Nat) : MS := (sAsg (mBin gAdd (mVar 7) (mCallF (m_law_code n) (mCons (mVar 8) (mCons (mBin gAdd (mVar 1) (mCallB gLen (mCons (mVar 7) mNil))) (mCons (mVar 2) (mCons (mVar 3) (mCons (mVar 4) mNil))))) [])) (gtName 7))
theorem law_loop {TL : MS} {Q : MV → Mst → Prop} {S T P R0 : Nat} {st1 : Mst} {s : MV} {es : List MV} {o : Option MV} (h : LWs n ls pl sc t es ca) (hS : st1[S]? = some (.lst (sc.map .str))) (hT : st1[T]? = some (.dct pl)) (hP : st1[P]? = some (.lst es)) (hR : st1[R0]? = some (.lst [])) (hl : ca.length < 16000000)
    (hk : ∀ R o st', Gr st1 st' → st'[R]? = some (.lst ca) → Post (finB (TL [some e, some (.int t), some (.ref S), some (.ref T), some (.tup ls), some s, some (.ref P), some (.ref R), o] st')) Q) :
    Post (finB ((forL (srcList P es.length) (gtName 8) (loopB n) (es.length + 1) 0 [some e, some (.int t), some (.ref S), some (.ref T), some (.tup ls), some s, some (.ref P), some (.ref R0), o] st1).bind fun fl s1 => match fl with
      | .nx env1 => TL env1 s1
      | fl => .ok fl s1)) Q := by
  refine .finB (.bind (.list (fun i env st' => ∃ o R c1 c2, env = [some e, some (.int t), some (.ref S), some (.ref T), some (.tup ls), some s, some (.ref P), some (.ref R), o] ∧ LWs n ls pl sc (t + c1.length) (es.drop i) c2 ∧ ca = c1 ++ c2 ∧ Gr st1 st' ∧ st'[R]? = some (.lst c1)) ?_
    ⟨_, R0, [], ca, rfl, by simpa using h, rfl, .refl _, hR⟩ rfl rfl ?_ ?_))
  · rintro i env st' ⟨o, R, c1, c2, rfl, _, _, G, _⟩
    exact itemsOf_lst (G.get hP)
  · rintro i x env st' hx ⟨o, R, c1, c2, rfl, hw, rfl, G, hR'⟩
    rw [drop_at hx] at hw
    cases hw with
    | cons h1 h2 =>
      rename_i c3 c4
      simp at hl
      obtain ⟨R3, st3, e3, G3, h3⟩ := h1 S T st' (G.get hS) (G.get hT) (by omega)
      obtain ⟨R4, st4, e4, G4, h4⟩ := cat2_ok (G3.get hR') h3 (by omega)
      have l1 := gLen_lst hR'
      refine ⟨_, _, rfl, .nx (env := [some e, some (.int t), some (.ref S), some (.ref T), some (.tup ls), some s, some (.ref P), some (.ref R4), some x]) (st := st4) ?_ ⟨_, R4, c1 ++ c3, c4, rfl, by simpa [Int.add_assoc] using h2, by simp, (G.trans G3).trans G4, h4⟩⟩
      simp -implicitDefEqProofs [l1, e3, e4]
  · rintro env st' ⟨o, R, c1, c2, rfl, hw, rfl, G, hR'⟩
    rw [List.drop_length] at hw
    cases hw
    rw [List.append_nil] at hk
    obtain ⟨v, st2, q1, q2⟩ := hk R o st' G (by simpa using hR')
    cases hT : TL [some e, some (.int t), some (.ref S), some (.ref T), some (.tup ls), some s, some (.ref P), some (.ref R), o] st' with
    | ok fl s2 => rw [hT] at q1; exact ⟨fl, s2, hT, ⟨v, st2, q1, q2⟩⟩
    | ex c f s2 => rw [hT] at q1; cases q1
    | bad => rw [hT] at q1; cases q1
theorem tup_all : ∀ {es : List MV}, (∀ x ∈ es, ∃ ys, x = .tup ys) → es.filterMap tupF = es
  | [], _ => rfl
  | x :: xs, h => by
    obtain ⟨ys, rfl⟩ := h x List.mem_cons_self
    rw [List.filterMap_cons]
    simp only [tupF]
    rw [tup_all fun y hy => h y (List.mem_cons_of_mem _ hy)]
/-- the parts are found -/
theorem parts_ok {rest es : List MV} {s : MV} {env : BH.Env} {st : Mst} {m : Nat} (hf : ∀ x ∈ rest, Flat x) (he : rest.filterMap tupF = es) (hl : rest.length < 1000) (hm : m = rest.length + 1) (henv : env.length = 9) :
    lcL (srcItems rest) (.nm 8) (mTru (mCallB gIsi (mCons (mVar 8) (mCons (mC (.ty "tuple")) mNil)))) (mVar 8) env st.length m 0 (st ++ [.lst []]) = .ok (.ref st.length) (st ++ [.lst es]) := by
  rw [lc_itemsF tupF (by omega) hm rfl (fun x acc hx => ?_), he]
  refine ⟨env.set 8 (some x), rfl, ?_⟩
  have h8 : (env.set 8 (some x))[8]? = some (some x) := by simp [henv]
  cases hf x hx with
  | tup xs =>
    simp only [tupF]
    constructor
    · simp -implicitDefEqProofs [h8, gIsi_tup, henv]
    · simp -implicitDefEqProofs [h8, henv]
  | str y =>
    simp only [tupF]
    simp -implicitDefEqProofs [h8, gIsi_str, henv]
  | int y =>
    simp only [tupF]
    simp -implicitDefEqProofs [h8, gIsi_int, henv]
theorem mcut1 (x : MV) (xs : List MV) : mcut (x :: xs) (some 1) none = xs := by
  have := mcut_from (x :: xs) 1
  simpa using this
theorem lw_give {s : String} {nm : Str} (L : LsOk ls) (hln : ls.length < 1000) (hn : PyData.strOk nm = true) (hs : s = "put" ∨ s = "note") {ya : List MV} (h : LW n ls pl (.tup ya) sc t ca) : LW (n + 1) ls pl (.tup [.str s, .str nm, .tup ya]) sc t (ca ++ [w1 s (numOf ls nm)]) := by
  refine .of fun S T st hS hT hl => ?_
  simp at hl
  have hp := fun env => parts_ok (rest := [.str nm, .tup ya]) (es := [.tup ya]) (s := .str s) (env := env) (st := st) (m := 3) (fun x hx => by simp at hx; rcases hx with rfl | rfl; exact .str _; exact .tup _) rfl (by simp) rfl
  have hw : LWs n ls pl sc t [.tup ya] ca := by
    have := LWs.cons h .nil
    simpa using this
  have n2 := fun st => lawnum_ok (st := st) L hn hln
  have hsr : srcOf (.ref st.length) (st ++ [.lst [.tup ya]] ++ [.lst []]) = _ := srcOf_lst (up last_snoc)
  simp only [List.append_assoc, List.cons_append, List.nil_append, List.length_cons, List.length_nil] at hsr
  obtain ⟨z, ez⟩ : ∃ x, x = numOf ls nm := ⟨_, rfl⟩
  rw [← ez] at n2 ⊢
  have kc := fun (R : Nat) (st' : Mst) (hR : st'[R]? = some (.lst ca)) => cat_ok (ys := [w1 s z]) hR (by simp; omega)
  rw [m_law_code_s, fnM5, b_law_code]
  rcases hs with rfl | rfl
  all_goals
    simp -implicitDefEqProofs [mcut1, hp, hsr]
    refine law_loop hw ((Gr.app _ _).get hS) ((Gr.app _ _).get hT) ?hP ?hR (by omega) ?hk
    case hP => simp
    case hR => simp
    case hk =>
      intro R o st' G hR
      obtain ⟨R2, st2, e2, G2, h2⟩ := kc R st' hR
      simp -implicitDefEqProofs [n2, e2]
      exact ⟨(Gr.app _ _).trans (G.trans G2), h2⟩
theorem lw_mod {i : Int} {ya : List MV} (h : LW n ls pl (.tup ya) sc t ca) : LW (n + 1) ls pl (.tup [.str "mod", .tup ya, .int i]) sc t (ca ++ [w1 "mod" i]) := by
  refine .of fun S T st hS hT hl => ?_
  simp at hl
  have hp := fun env => parts_ok (rest := [.tup ya, .int i]) (es := [.tup ya]) (s := .str "mod") (env := env) (st := st) (m := 3) (fun x hx => by simp at hx; rcases hx with rfl | rfl; exact .tup _; exact .int _) rfl (by simp) rfl
  have hw : LWs n ls pl sc t [.tup ya] ca := by
    have := LWs.cons h .nil
    simpa using this
  have hsr : srcOf (.ref st.length) (st ++ [.lst [.tup ya]] ++ [.lst []]) = _ := srcOf_lst (up last_snoc)
  simp only [List.append_assoc, List.cons_append, List.nil_append, List.length_cons, List.length_nil] at hsr
  rw [m_law_code_s, fnM5, b_law_code]
  simp -implicitDefEqProofs [mcut1, hp, hsr]
  refine law_loop hw ((Gr.app _ _).get hS) ((Gr.app _ _).get hT) ?hP ?hR (by omega) ?hk
  case hP => simp
  case hR => simp
  case hk =>
    intro R o st' G hR
    obtain ⟨R2, st2, e2, G2, h2⟩ := cat_ok (ys := [w1 "mod" i]) hR (by simp; omega)
    simp -implicitDefEqProofs [e2]
    exact ⟨(Gr.app _ _).trans (G.trans G2), h2⟩
theorem lw_val {s : String} {es : List MV} (hs : ["first", "second", "pair", "sum", "same"].any (· == s) = true) (hes : ∀ x ∈ es, ∃ ys, x = .tup ys) (hlen : es.length < 1000) (hw : LWs n ls pl sc t es ca) : LW (n + 1) ls pl (.tup (.str s :: es)) sc t (ca ++ [w0 s]) := by
  refine .of fun S T st hS hT hl => ?_
  simp at hl
  have hp := fun env => parts_ok (rest := es) (es := es) (s := .str s) (env := env) (st := st) (fun x hx => by obtain ⟨ys, rfl⟩ := hes x hx; exact .tup _) (tup_all hes) hlen rfl
  have hsr : srcOf (.ref st.length) (st ++ [.lst es] ++ [.lst []]) = _ := srcOf_lst (up last_snoc)
  simp only [List.append_assoc, List.cons_append, List.nil_append] at hsr
  have kc := fun (R : Nat) (st' : Mst) (hR : st'[R]? = some (.lst ca)) => cat_ok (ys := [w0 s]) hR (by simp; omega)
  rw [m_law_code_s, fnM5, b_law_code]
  simp only [List.any_cons, List.any_nil, Bool.or_false, Bool.or_eq_true, beq_iff_eq] at hs
  rcases hs with rfl | rfl | rfl | rfl | rfl
  all_goals
    simp -implicitDefEqProofs [mcut1, hp, hsr]
    refine law_loop hw ((Gr.app _ _).get hS) ((Gr.app _ _).get hT) ?hP ?hR (by omega) ?hk
    case hP => simp
    case hR => simp
    case hk =>
      intro R o st' G hR
      obtain ⟨R2, st2, e2, G2, h2⟩ := kc R st' hR
      simp -implicitDefEqProofs [e2]
      exact ⟨(Gr.app _ _).trans (G.trans G2), h2⟩
theorem lw_call {f : Str} {p : Int} {es : List MV} (hf : lookK pl (.inr f) = some (.int p)) (hlen : es.length < 1000) (hw : LWs n ls pl sc t es ca) : LW (n + 1) ls pl (callE f es) sc t (ca ++ [wN "call" [p, es.length]]) := by
  refine .of fun S T st hS hT hl => ?_
  simp at hl
  have hp := fun env => parts_ok (rest := [.str f, .tup es]) (es := [.tup es]) (s := .str "call") (env := env) (st := st) (m := 3) (fun x hx => by simp at hx; rcases hx with rfl | rfl; exact .str _; exact .tup _) rfl (by simp) rfl
  have hli := gList_tup (xs := es) (st := st ++ [.lst [.tup es]]) (by omega)
  have hsr : srcOf (.ref (st.length + 1)) (st ++ [.lst [.tup es]] ++ [.lst es] ++ [.lst []]) = _ := srcOf_lst (xs := es) (by simp)
  simp only [List.append_assoc, List.cons_append, List.nil_append, List.length_cons, List.length_nil, List.length_append] at hsr hli
  rw [m_law_code_s, fnM5, b_law_code]
  simp -implicitDefEqProofs [mcut1, hp, hsr, hli]
  refine law_loop hw ((Gr.app _ _).get hS) ((Gr.app _ _).get hT) ?hP ?hR (by omega) ?hk
  case hP => simp
  case hR => simp
  case hk =>
    intro R o st' G hR
    have hT' := G.get ((Gr.app _ _).get hT)
    have hg := gDGet_dct (y := .str f) hT' rfl hf
    have hP' : st'[st.length + 1]? = some (MO.lst es) := G.get (by simp)
    have hl' := gLen_lst hP'
    obtain ⟨R2, st2, e2, G2, h2⟩ := cat_ok (ys := [wN "call" [p, es.length]]) hR (by simp; omega)
    simp only [wN, List.map_cons, List.map_nil] at e2
    simp -implicitDefEqProofs [hg, hl', e2]
    exact ⟨(Gr.app _ _).trans (G.trans G2), h2⟩
end
end K17

set_option Elab.async false
set_option linter.all false
set_option maxRecDepth 100000
set_option autoImplicit false
/-! k17, plain law: expressions that keep the rules; both codes are one. -/
namespace K17
open PySem BH
abbrev iE (s : String) (xs : List Int) : MV := .tup (.str s :: xs.map .int)
mutual
inductive WF (fs : List Str) : Nat → Nat → List Str → MV → Prop where
  | num {d s : Nat} {sc : List Str} (i : Int) (h : 1 ≤ s) : WF fs (d + 1) s sc (.tup [.str "num", .int i])
  | var {d s : Nat} {sc : List Str} (x : Str) (hx : x ∈ sc) (ho : PyData.strOk x = true) (h : 1 ≤ s) : WF fs (d + 1) s sc (.tup [.str "var", .str x])
  | piece {d s : Nat} {sc : List Str} (w : String) (xs : List Int) (hw : w = "choose" ∨ w = "draw") (hx : xs.length ≤ 10) (h : 1 ≤ s) : WF fs (d + 1) s sc (iE w xs)
  | lay {d s : Nat} {sc : List Str} (w : String) (nm : Str) (xs : List Int) (hw : ["get", "look", "fail", "ask"].any (· == w) = true) (ho : PyData.strOk nm = true) (hx : xs.length ≤ 10) (h : 1 ≤ s) : WF fs (d + 1) s sc (.tup (.str w :: .str nm :: xs.map .int))
  | give {d s : Nat} {sc : List Str} {sa : Nat} {a : MV} (w : String) (nm : Str) (hw : w = "put" ∨ w = "note") (ho : PyData.strOk nm = true) (ha : WF fs d sa sc a) (h : sa + 1 ≤ s) : WF fs (d + 1) s sc (.tup [.str w, .str nm, a])
  | mod {d s : Nat} {sc : List Str} {sa : Nat} {a : MV} (i : Int) (ha : WF fs d sa sc a) (h : sa + 1 ≤ s) : WF fs (d + 1) s sc (.tup [.str "mod", a, .int i])
  | val {d s : Nat} {sc : List Str} {sa : Nat} {es : List MV} (w : String) (hw : ["first", "second", "pair", "sum", "same"].any (· == w) = true) (ha : WFs fs d sa sc es) (hl : es.length ≤ 10) (h : sa + 1 ≤ s) : WF fs (d + 1) s sc (.tup (.str w :: es))
  | lets {d s : Nat} {sc : List Str} {sa sb : Nat} {a b : MV} (x : Str) (ho : PyData.strOk x = true) (ha : WF fs d sa sc a) (hb : WF fs d sb (x :: sc) b) (h : sa + sb + 2 ≤ s) : WF fs (d + 1) s sc (lets x a b)
  | ite {d s : Nat} {sc : List Str} {sa sb se : Nat} {a b e : MV} (ha : WF fs d sa sc a) (hb : WF fs d sb sc b) (he : WF fs d se sc e) (h : sa + sb + se + 2 ≤ s) : WF fs (d + 1) s sc (ite a b e)
  | rep {d s : Nat} {sc : List Str} {sa sb : Nat} {a b : MV} (i : Int) (x : Str) (ho : PyData.strOk x = true) (ha : WF fs d sa sc a) (hb : WF fs d sb (x :: sc) b) (h : sa + sb + 4 ≤ s) : WF fs (d + 1) s sc (rep i x a b)
  | tri {d s : Nat} {sc : List Str} {sa sb : Nat} {a b : MV} (nm : Str) (i : Int) (ho : PyData.strOk nm = true) (ha : WF fs d sa sc a) (hb : WF fs d sb sc b) (h : sa + sb + 2 ≤ s) : WF fs (d + 1) s sc (tri nm i a b)
  | call {d s : Nat} {sc : List Str} {sa : Nat} {es : List MV} (f : Str) (hf : f ∈ fs) (ha : WFs fs d sa sc es) (hl : es.length ≤ 10) (h : sa + 1 ≤ s) : WF fs (d + 1) s sc (callE f es)
inductive WFs (fs : List Str) : Nat → Nat → List Str → List MV → Prop where
  | nil {d s : Nat} {sc : List Str} : WFs fs d s sc []
  | cons {d s : Nat} {sc : List Str} {sa sb : Nat} {e : MV} {es : List MV} (h : WF fs d sa sc e) (hs : WFs fs d sb sc es) (hl : sa + sb ≤ s) : WFs fs d s sc (e :: es)
end
theorem WF.tup {fs : List Str} {d s : Nat} {sc : List Str} {e : MV} (h : WF fs d s sc e) : ∃ ys, e = .tup ys := by
  cases h <;> exact ⟨_, rfl⟩
theorem WFs.tup {fs : List Str} {d : Nat} {sc : List Str} : ∀ {es : List MV} {s : Nat}, WFs fs d s sc es → ∀ x ∈ es, ∃ ys, x = .tup ys
  | [], _, _, x, hx => by cases hx
  | e :: es, s, h, x, hx => by
    cases h with
    | cons h hs hl =>
      rcases List.mem_cons.mp hx with rfl | hx
      · exact h.tup
      · exact WFs.tup hs x hx
theorem WFs.imp {fs fs' : List Str} {d d' : Nat} {sc sc' : List Str} (k : ∀ s e, WF fs d s sc e → WF fs' d' s sc' e) : ∀ {es : List MV} {s s' : Nat}, WFs fs d s sc es → s ≤ s' → WFs fs' d' s' sc' es
  | [], _, _, _, _ => .nil
  | e :: es, s, s', h, hs' => by
    cases h with
    | cons h hs hl => exact .cons (k _ _ h) (WFs.imp k hs (Nat.le_refl _)) (by omega)
theorem cons_sub {sc sc' : List Str} (x : Str) (h : ∀ y ∈ sc, y ∈ sc') : ∀ y ∈ x :: sc, y ∈ x :: sc' := fun y hy => by
  rcases List.mem_cons.mp hy with rfl | hy
  · exact List.mem_cons_self
  · exact List.mem_cons_of_mem _ (h y hy)
theorem WF.mono {fs fs' : List Str} (hf : ∀ f ∈ fs, f ∈ fs') : ∀ (d : Nat) {d' s s' : Nat} {sc sc' : List Str} {e : MV}, WF fs d s sc e → d ≤ d' → s ≤ s' → (∀ x ∈ sc, x ∈ sc') → WF fs' d' s' sc' e
  | 0, d', s, s', sc, sc', e, h, _, _, _ => by cases h
  | d + 1, d', s, s', sc, sc', e, h, hd, hs, hc => by
    obtain ⟨d2, rfl⟩ : ∃ d2, d' = d2 + 1 := ⟨d' - 1, by omega⟩
    have hd2 : d ≤ d2 := by omega
    have k : ∀ s e, WF fs d s sc e → WF fs' d2 s sc' e := fun s e h => WF.mono hf d h hd2 (Nat.le_refl _) hc
    cases h with
    | num i h => exact .num i (by omega)
    | var x hx ho h => exact .var x (hc x hx) ho (by omega)
    | piece w xs hw hx h => exact .piece w xs hw hx (by omega)
    | lay w nm xs hw ho hx h => exact .lay w nm xs hw ho hx (by omega)
    | give w nm hw ho ha h => exact .give w nm hw ho (k _ _ ha) (by omega)
    | mod i ha h => exact .mod i (k _ _ ha) (by omega)
    | val w hw ha hl h => exact .val w hw (ha.imp k (Nat.le_refl _)) hl (by omega)
    | lets x ho ha hb h => exact .lets x ho (k _ _ ha) (WF.mono hf d hb hd2 (Nat.le_refl _) (cons_sub x hc)) (by omega)
    | ite ha hb he h => exact .ite (k _ _ ha) (k _ _ hb) (k _ _ he) (by omega)
    | rep i x ho ha hb h => exact .rep i x ho (k _ _ ha) (WF.mono hf d hb hd2 (Nat.le_refl _) (cons_sub x hc)) (by omega)
    | tri nm i ho ha hb h => exact .tri nm i ho (k _ _ ha) (k _ _ hb) (by omega)
    | call f hf' ha hl h => exact .call f (hf f hf') (ha.imp k (Nat.le_refl _)) hl (by omega)
def CodeI (m : MV) : Prop := ∃ (w : String) (xs : List Int), m = iE w xs
theorem idxS_some {x : Str} : ∀ {ys : List Str}, x ∈ ys → ∃ j, idxS ys x = some j
  | [], h => by cases h
  | y :: ys, h => by
    unfold idxS
    by_cases e : y = x
    · exact ⟨0, by rw [if_pos e]⟩
    · rw [if_neg e]
      rcases List.mem_cons.mp h with rfl | h
      · exact absurd rfl e
      · obtain ⟨j, hj⟩ := idxS_some h
        exact ⟨j + 1, by rw [hj]; rfl⟩
def Both (k : Str) (ls : List MV) (pl pl' : List (L2.Key × MV)) (d s : Nat) (scope : List Str) (e : MV) (t : Nat) (c : List MV) : Prop :=
  c.length ≤ s ∧ (∀ m ∈ c, CodeI m) ∧ (∀ n, 2 * d ≤ n → PW n k ls pl e scope t c) ∧ (∀ n, 2 * d ≤ n → LW n ls pl' e scope t c)
theorem ci0 (w : String) : CodeI (w0 w) := ⟨w, [], rfl⟩
theorem ci1 (w : String) (i : Int) : CodeI (w1 w i) := ⟨w, [i], rfl⟩
theorem ciN (w : String) (xs : List Int) : CodeI (wN w xs) := ⟨w, xs, rfl⟩
theorem ci_app {a b : List MV} (ha : ∀ m ∈ a, CodeI m) (hb : ∀ m ∈ b, CodeI m) : ∀ m ∈ a ++ b, CodeI m := fun m h => (List.mem_append.mp h).elim (ha m) (hb m)
theorem ci_cons {a : MV} {b : List MV} (ha : CodeI a) (hb : ∀ m ∈ b, CodeI m) : ∀ m ∈ a :: b, CodeI m := fun m h => by
  rcases List.mem_cons.mp h with rfl | h
  · exact ha
  · exact hb m h
theorem ci_nil : ∀ m ∈ ([] : List MV), CodeI m := fun m h => by cases h
section
variable {k : Str} {ls : List MV} {pl pl' : List (L2.Key × MV)} {fs : List Str}
theorem both_s {d : Nat} {scope : List Str} {sc : List Str} (IH : ∀ (s : Nat) (e : MV), WF fs d s sc e → ∀ t : Nat, ∃ c, Both k ls pl pl' d s scope e t c) : ∀ {es : List MV} {s : Nat}, WFs fs d s sc es → ∀ t : Nat, ∃ c, c.length ≤ s ∧ (∀ m ∈ c, CodeI m) ∧ (∀ n, 2 * d ≤ n → PWs n k ls pl scope t es c) ∧ (∀ n, 2 * d ≤ n → LWs n ls pl' scope t es c)
  | [], s, _, t => ⟨[], by simp, ci_nil, fun _ _ => .nil, fun _ _ => .nil⟩
  | e :: es, s, h, t => by
    cases h with
    | cons h hs hl =>
      obtain ⟨c1, a1, a2, a3, a4⟩ := IH _ _ h t
      obtain ⟨c2, b1, b2, b3, b4⟩ := both_s IH hs (t + c1.length)
      exact ⟨c1 ++ c2, by simp; omega, ci_app a2 b2, fun n hn => .cons (a3 n hn) (b3 n hn), fun n hn => .cons (a4 n hn) (by have := b4 n hn; simpa only [Int.natCast_add] using this)⟩
theorem both (L : LsOk ls) (hln : ls.length < 1000) (hF : ∀ f ∈ fs, ∃ p : Int, lookK pl (.inr f) = some (.int p) ∧ lookK pl' (.inr f) = some (.int p)) :
    ∀ (d s : Nat) (sc : List Str) (e : MV), WF fs d s sc e → ∀ (scope : List Str), (∀ x ∈ sc, x ∈ scope) → (∀ x ∈ scope, PyData.strOk x = true) → scope.length + d < 1000 → ∀ t : Nat, ∃ c, Both k ls pl pl' d s scope e t c
  | 0, s, sc, e, h, _, _, _, _, _ => by cases h
  | d + 1, s, sc, e, h, scope, h1, h2, h3, t => by
    have IH : ∀ (s : Nat) (e : MV), WF fs d s sc e → ∀ t : Nat, ∃ c, Both k ls pl pl' d s scope e t c := fun s e h t => both L hln hF d s sc e h scope h1 h2 (by omega) t
    have IHx : ∀ (x : Str), PyData.strOk x = true → ∀ (s : Nat) (e : MV), WF fs d s (x :: sc) e → ∀ t : Nat, ∃ c, Both k ls pl pl' d s (scope ++ [x]) e t c := fun x hx s e h t =>
      both L hln hF d s (x :: sc) e h (scope ++ [x]) (fun y hy => by
        rcases List.mem_cons.mp hy with rfl | hy
        · simp
        · exact List.mem_append_left _ (h1 y hy)) (fun y hy => by
        rcases List.mem_append.mp hy with hy | hy
        · exact h2 y hy
        · rw [List.mem_singleton.mp hy]; exact hx) (by simp; omega) t
    have two : ∀ n, 2 * (d + 1) ≤ n → ∃ m, n = m + 1 + 1 ∧ 2 * d ≤ m ∧ 2 * d ≤ m + 1 := fun n hn => ⟨n - 2, by omega, by omega, by omega⟩
    cases h with
    | num i h =>
      refine ⟨[w1 "push" i], by simpa using h, ci_cons (ci1 _ _) ci_nil, fun n hn => ?_, fun n hn => ?_⟩
      · obtain ⟨m, rfl, hm, _⟩ := two n hn
        exact pw_val rfl pv_num
      · obtain ⟨m, rfl, hm, _⟩ := two n hn
        exact lw_num
    | var x hx ho h =>
      obtain ⟨j, hj⟩ := idxS_some (x := x) (ys := scope.reverse) (by simpa using h1 x hx)
      refine ⟨[w1 "load" j], by simpa using h, ci_cons (ci1 _ _) ci_nil, fun n hn => ?_, fun n hn => ?_⟩
      · obtain ⟨m, rfl, hm, _⟩ := two n hn
        exact pw_val rfl (pv_var hj)
      · obtain ⟨m, rfl, hm, _⟩ := two n hn
        exact lw_var hj h2 ho (by omega)
    | piece w xs hw hx h =>
      refine ⟨[iE w xs], by simpa using h, ci_cons ⟨w, xs, rfl⟩ ci_nil, fun n hn => ?_, fun n hn => ?_⟩
      · obtain ⟨m, rfl, hm, _⟩ := two n hn
        exact pw_piece hw
      · obtain ⟨m, rfl, hm, _⟩ := two n hn
        exact lw_piece hw
    | lay w nm xs hw ho hx h =>
      refine ⟨[.tup (.str w :: .int (numOf ls nm) :: xs.map .int)], by simpa using h, ci_cons ⟨w, numOf ls nm :: xs, rfl⟩ ci_nil, fun n hn => ?_, fun n hn => ?_⟩
      · obtain ⟨m, rfl, hm, _⟩ := two n hn
        exact pw_lay L ho hw (by simpa using hx)
      · obtain ⟨m, rfl, hm, _⟩ := two n hn
        exact lw_lay L hln ho hw (by simpa using hx)
    | give w nm hw ho ha h =>
      obtain ⟨ya, rfl⟩ := ha.tup
      obtain ⟨c, a1, a2, a3, a4⟩ := IH _ _ ha t
      refine ⟨c ++ [w1 w (numOf ls nm)], by simp; omega, ci_app a2 (ci_cons (ci1 _ _) ci_nil), fun n hn => ?_, fun n hn => ?_⟩
      · obtain ⟨m, rfl, hm, hm1⟩ := two n hn
        exact pw_give L ho hw (a3 _ hm1)
      · obtain ⟨m, rfl, hm, hm1⟩ := two n hn
        exact lw_give L hln ho hw (a4 _ hm1)
    | mod i ha h =>
      obtain ⟨ya, rfl⟩ := ha.tup
      obtain ⟨c, a1, a2, a3, a4⟩ := IH _ _ ha t
      refine ⟨c ++ [w1 "mod" i], by simp; omega, ci_app a2 (ci_cons (ci1 _ _) ci_nil), fun n hn => ?_, fun n hn => ?_⟩
      · obtain ⟨m, rfl, hm, hm1⟩ := two n hn
        exact pw_val rfl (pv_mod (a3 _ hm))
      · obtain ⟨m, rfl, hm, hm1⟩ := two n hn
        exact lw_mod (a4 _ hm1)
    | val w hw ha hl h =>
      obtain ⟨c, a1, a2, a3, a4⟩ := both_s IH ha t
      refine ⟨c ++ [w0 w], by simp; omega, ci_app a2 (ci_cons (ci0 _) ci_nil), fun n hn => ?_, fun n hn => ?_⟩
      · obtain ⟨m, rfl, hm, hm1⟩ := two n hn
        refine pw_val ?_ (K17.pv_val hw (a3 _ hm) (by omega))
        simp only [List.any_cons, List.any_nil, Bool.or_false, Bool.or_eq_true, beq_iff_eq] at hw
        rcases hw with rfl | rfl | rfl | rfl | rfl <;> rfl
      · obtain ⟨m, rfl, hm, hm1⟩ := two n hn
        exact lw_val hw ha.tup (by omega) (a4 _ hm1)
    | lets x ho ha hb h =>
      obtain ⟨c1, a1, a2, a3, a4⟩ := IH _ _ ha t
      obtain ⟨c2, b1, b2, b3, b4⟩ := IHx x ho _ _ hb (t + c1.length + 1)
      refine ⟨c1 ++ w0 "bind" :: (c2 ++ [w0 "unbind"]), by simp; omega, ci_app a2 (ci_cons (ci0 _) (ci_app b2 (ci_cons (ci0 _) ci_nil))), fun n hn => ?_, fun n hn => ?_⟩
      · obtain ⟨m, rfl, hm, hm1⟩ := two n hn
        exact pw_flow rfl (pf_let (by omega) (a3 _ hm) (b3 _ hm))
      · obtain ⟨m, rfl, hm, hm1⟩ := two n hn
        exact lw_flow rfl (lf_let (by omega) (a4 _ hm) (by have := b4 _ hm; simpa only [Int.natCast_add, Int.cast_ofNat_Int] using this))
    | ite ha hb he h =>
      obtain ⟨c1, a1, a2, a3, a4⟩ := IH _ _ ha t
      obtain ⟨c2, b1, b2, b3, b4⟩ := IH _ _ hb (t + c1.length + 1)
      obtain ⟨c3, e1, e2, e3, e4⟩ := IH _ _ he (t + c1.length + c2.length + 2)
      refine ⟨c1 ++ w1 "branch" (t + c1.length + c2.length + 2) :: (c2 ++ w1 "jump" (t + c1.length + c2.length + 2 + c3.length) :: c3), ?_, ?_, fun n hn => ?_, fun n hn => ?_⟩
      rotate_left 2
      · obtain ⟨m, rfl, hm, hm1⟩ := two n hn
        exact pw_flow rfl (pf_if (a3 _ hm) (b3 _ hm) (e3 _ hm))
      · obtain ⟨m, rfl, hm, hm1⟩ := two n hn
        exact lw_flow rfl (lf_if (a4 _ hm) (by have := b4 _ hm; simpa only [Int.natCast_add, Int.cast_ofNat_Int] using this) (by have := e4 _ hm; simpa only [Int.natCast_add, Int.cast_ofNat_Int] using this))
      · simp; omega
      · exact ci_app a2 (ci_cons (ci1 _ _) (ci_app b2 (ci_cons (ci1 _ _) e2)))
    | rep i x ho ha hb h =>
      obtain ⟨c1, a1, a2, a3, a4⟩ := IH _ _ ha t
      obtain ⟨c2, b1, b2, b3, b4⟩ := IHx x ho _ _ hb (t + c1.length + 1 + 1)
      refine ⟨c1 ++ w1 "count" i :: w0 "bind" :: (c2 ++ [w0 "unbind", w1 "again" (t + c1.length + 1)]), ?_, ?_, fun n hn => ?_, fun n hn => ?_⟩
      rotate_left 2
      · obtain ⟨m, rfl, hm, hm1⟩ := two n hn
        exact pw_flow rfl (pf_rep (by omega) (a3 _ hm) (b3 _ hm))
      · obtain ⟨m, rfl, hm, hm1⟩ := two n hn
        exact lw_flow rfl (lf_rep (by omega) (a4 _ hm) (by have := b4 _ hm; simpa only [Int.natCast_add, Int.cast_ofNat_Int] using this))
      · simp; omega
      · exact ci_app a2 (ci_cons (ci1 _ _) (ci_cons (ci0 _) (ci_app b2 (ci_cons (ci0 _) (ci_cons (ci1 _ _) ci_nil)))))
    | tri nm i ho ha hb h =>
      obtain ⟨c1, a1, a2, a3, a4⟩ := IH _ _ ha (t + 1)
      obtain ⟨c2, b1, b2, b3, b4⟩ := IH _ _ hb (t + 1 + c1.length + 1)
      refine ⟨wN "try" [numOf ls nm, i, t + c1.length + 2] :: (c1 ++ w1 "untry" (t + c1.length + 2 + c2.length) :: c2), ?_, ?_, fun n hn => ?_, fun n hn => ?_⟩
      rotate_left 2
      · obtain ⟨m, rfl, hm, hm1⟩ := two n hn
        exact pw_flow rfl (pf_try L ho (a3 _ hm) (b3 _ hm))
      · obtain ⟨m, rfl, hm, hm1⟩ := two n hn
        have q : ((t + 1 + c1.length + 1 : Nat) : Int) = (t : Int) + c1.length + 2 := by omega
        exact lw_flow rfl (lf_try L hln ho (by have := a4 _ hm; simpa only [Int.natCast_add, Int.cast_ofNat_Int] using this) (by have := b4 _ hm; rw [q] at this; exact this))
      · simp; omega
      · exact ci_cons (ciN _ _) (ci_app a2 (ci_cons (ci1 _ _) b2))
    | @call _ _ _ _ es f hf ha hl h =>
      obtain ⟨p, p1, p2⟩ := hF f hf
      obtain ⟨c, a1, a2, a3, a4⟩ := both_s IH ha t
      refine ⟨c ++ [wN "call" [p, es.length]], ?_, ?_, fun n hn => ?_, fun n hn => ?_⟩
      rotate_left 2
      · obtain ⟨m, rfl, hm, hm1⟩ := two n hn
        exact pw_flow rfl (pf_call p1 (a3 _ hm) (by omega))
      · obtain ⟨m, rfl, hm, hm1⟩ := two n hn
        exact lw_call p2 (by omega) (a4 _ hm1)
      · simp; omega
      · exact ci_app a2 (ci_cons (ciN _ _) ci_nil)
end
end K17

set_option Elab.async false
set_option linter.all false
set_option maxRecDepth 100000
set_option autoImplicit false
/-! k17, plain law: the look at a code; whole codes. -/
namespace K17
open PySem BH
theorem dat_iE (st : Mst) (w : String) (xs : List Int) : dat st 64 (iE w xs) = some (.tuple (.str w :: xs.map .int)) := by
  simp only [iE, dat, optAll]
  rw [if_pos (strOk_ofString w), optAll_map (f := dat st 63) (g := MV.int) (k := PyData.int) (fun x => rfl)]
  rfl
theorem is_int (i : Int) (st : Mst) : m_law_is_integer [.int i] st = .ok (.bl true) st := by
  rw [m_law_is_integer, fnM1, b_law_is_integer]
  simp -implicitDefEqProofs [gIsi_ii, gIsi_ib]
theorem iscode_ok {R : Nat} {st : Mst} {c : List MV} (hR : st[R]? = some (.lst c)) (hc : ∀ m ∈ c, CodeI m) (hl : c.length < 16000000) : m_law_is_code [.tup c, .ref R] st = .ok (.bl true) st := by
  suffices h : Post (m_law_is_code [.tup c, .ref R] st) (fun v st' => v = .bl true ∧ st' = st) by
    obtain ⟨_, _, h, rfl, rfl⟩ := h
    exact h
  rw [m_law_is_code, fnM2, b_law_is_code]
  have r := rngOf1_nat (j := (c.length : Int)) (n := c.length) (st := st) rfl (by omega)
  have l1 := gLen_lst hR
  simp -implicitDefEqProofs [gIsi_tup, l1, r]
  refine .finB (.bind (.range (fun i env st' => (∃ o p, env = [some (.tup c), some (.ref R), o, p]) ∧ st' = st) ⟨⟨_, _, rfl⟩, rfl⟩ rfl ?_ ?_))
  · rintro i env st' hi ⟨⟨o, p, rfl⟩, rfl⟩
    obtain ⟨x, hx⟩ := get_of hi
    obtain ⟨w, xs, rfl⟩ := hc x (List.mem_of_getElem? hx)
    have h1 := gIx_lst hR (i := (i : Int)) rfl hx
    have h2 := gNe_same (st := st') (dat_iE st' w xs) (dat_iE st' w xs)
    have h3 : ∀ ys, gIsi [.tup ys, .ty "tuple"] st' = .ok (.bl true) st' := fun ys => gIsi_tup ys st'
    refine ⟨[some (.tup c), some (.ref R), some (.int i), p], st', by simp, ?_⟩
    simp only [iE] at h2 hx h1
    have hcut := mcut1 (.str (Str.ofString w)) (xs.map .int)
    refine .of ?_
    simp -implicitDefEqProofs [hx, h1, h2, h3, hcut]
    refine .items (fun j env st2 => (∃ p, env = [some (.tup c), some (.ref R), some (.int i), p]) ∧ st2 = st') ⟨⟨_, rfl⟩, rfl⟩ (by simp) ?_ ?_
    · rintro j y env st2 hy ⟨⟨p, rfl⟩, rfl⟩
      obtain ⟨z, hz, rfl⟩ : ∃ z, z ∈ xs ∧ MV.int z = y := by
        have := List.mem_of_getElem? hy
        simpa using this
      refine ⟨_, st2, rfl, ?_⟩
      simp -implicitDefEqProofs [is_int]
    · rintro env st2 ⟨⟨p, rfl⟩, rfl⟩
      exact ⟨_, rfl, ⟨_, _, rfl⟩, rfl⟩
  · rintro env st' ⟨⟨o, p, rfl⟩, rfl⟩
    simp -implicitDefEqProofs
/-- dependent choice -/
theorem dc {X : Type} (P : Nat → X → Prop) (R : Nat → X → X → Prop) (x0 : X) (h0 : P 0 x0) (h : ∀ i x, P i x → ∃ y, R i x y ∧ P (i + 1) y) : ∃ f : Nat → X, f 0 = x0 ∧ ∀ i, P i (f i) ∧ R i (f i) (f (i + 1)) := by
  let g : (i : Nat) → { x : X // P i x } := fun i => Nat.rec (motive := fun i => { x : X // P i x }) ⟨x0, h0⟩ (fun i x => ⟨Classical.choose (h i x.1 x.2), (Classical.choose_spec (h i x.1 x.2)).2⟩) i
  exact ⟨fun i => (g i).1, rfl, fun i => ⟨(g i).2, (Classical.choose_spec (h i (g i).1 (g i).2)).1⟩⟩
structure Fn where
  name : Str
  params : List (Str × MV)
  body : MV
def Fn.enc (f : Fn) : MV := .tup [.str f.name, .tup (f.params.map fun p => .tup [.str p.1, p.2]), f.body]
structure FnsOk (fs : List Fn) : Prop where
  len : fs.length ≤ 10
  nd : ∀ (i : Nat) (f : Fn), fs[i]? = some f → f.name ∉ (fs.take i).map (·.name)
  at_ : ∀ (i : Nat) (f : Fn), fs[i]? = some f → (∃ d s, 2 * d ≤ 60 ∧ s ≤ 1000 ∧ WF ((fs.take i).map (·.name)) d s (f.params.map (·.1)) f.body) ∧ (∀ p ∈ f.params, PyData.strOk p.1 = true) ∧ f.params.length ≤ 10
abbrev St3 := List MV × List (L2.Key × MV) × List (L2.Key × MV)
def stepF (f : Fn) (c : List MV) (x : St3) : St3 := (x.1 ++ (c ++ [w1 "return" f.params.length]), putKM x.2.1 (.inr f.name) (.int x.1.length), putKM x.2.2 (.inr f.name) (.int x.1.length))
def Inv3 (fs : List Fn) (i : Nat) (x : St3) : Prop := x.1.length ≤ 1 + 1001 * i ∧ 1 ≤ x.1.length ∧ (∀ m ∈ x.1, CodeI m) ∧ x.2.1.length ≤ i ∧ x.2.2.length ≤ i ∧
  ∀ f ∈ (fs.take i).map (·.name), ∃ p : Int, lookK x.2.1 (.inr f) = some (.int p) ∧ lookK x.2.2 (.inr f) = some (.int p)
section
variable {k : Str} {ls : List MV} {fs : List Fn}
theorem chain (L : LsOk ls) (hln : ls.length < 1000) (F : FnsOk fs) : ∃ f : Nat → St3, f 0 = ([w1 "jump" 0], [], []) ∧ ∀ i, Inv3 fs i (f i) ∧ ∀ g, fs[i]? = some g →
    ∃ c, f (i + 1) = stepF g c (f i) ∧ c.length ≤ 1000 ∧ PW 60 k ls (f i).2.1 g.body (g.params.map (·.1)) (f i).1.length c ∧ LW 60 ls (f (i + 1)).2.2 g.body (g.params.map (·.1)) ((f i).1.length : Int) c := by
  refine dc (Inv3 fs) (fun i x y => ∀ g, fs[i]? = some g → ∃ c, y = stepF g c x ∧ c.length ≤ 1000 ∧ PW 60 k ls x.2.1 g.body (g.params.map (·.1)) x.1.length c ∧ LW 60 ls y.2.2 g.body (g.params.map (·.1)) (x.1.length : Int) c) _ ?_ ?_
  · exact ⟨by simp, by simp, ci_cons (ci1 _ _) ci_nil, by simp, by simp, by simp⟩
  · rintro i x ⟨a1, a2, a3, a4, a5, a6⟩
    cases hg : fs[i]? with
    | none =>
      refine ⟨x, (fun g e => by cases e), by omega, a2, a3, by omega, by omega, fun f hf => ?_⟩
      have hi : fs.length ≤ i := by simpa using hg
      rw [List.take_of_length_le (by omega)] at hf
      rw [List.take_of_length_le (by omega)] at a6
      exact a6 f hf
    | some g =>
      obtain ⟨⟨d, s, hd, hs, W⟩, hp, hpl⟩ := F.at_ i g hg
      have hi : i < fs.length := (List.getElem?_eq_some_iff.mp hg).1
      have hnew : ∀ f ∈ (fs.take i).map (·.name), g.name ≠ f := fun f hf e => F.nd i g hg (by rw [e]; exact hf)
      have hF : ∀ f ∈ (fs.take i).map (·.name), ∃ p : Int, lookK x.2.1 (.inr f) = some (.int p) ∧ lookK (putKM x.2.2 (.inr g.name) (.int x.1.length)) (.inr f) = some (.int p) := fun f hf => by
        obtain ⟨p, p1, p2⟩ := a6 f hf
        exact ⟨p, p1, by rw [lookK_put_other _ _ _ _ (by intro e; cases e; exact hnew _ hf rfl)]; exact p2⟩
      obtain ⟨c, c1, c2, c3, c4⟩ := both (k := k) L hln hF d s _ _ W (g.params.map (·.1)) (fun x h => h) (fun y hy => by
        rw [List.mem_map] at hy
        obtain ⟨p, hp', rfl⟩ := hy
        exact hp p hp') (by simp; omega) x.1.length
      have l1 := putKM_length x.2.1 (.inr g.name) (.int x.1.length)
      have l2 := putKM_length x.2.2 (.inr g.name) (.int x.1.length)
      refine ⟨stepF g c x, fun g' e => ?_, ?_, ?_, ?_, ?_, ?_, ?_⟩
      · cases e
        exact ⟨c, rfl, by omega, c3 60 hd, c4 60 hd⟩
      · simp [stepF]; omega
      · simp [stepF]; omega
      · exact ci_app a3 (ci_app c2 (ci_cons (ci1 _ _) ci_nil))
      · simp only [stepF]; omega
      · simp only [stepF]; omega
      · intro f hf
        rw [take_snoc hg, List.map_append] at hf
        simp only [stepF]
        rcases List.mem_append.mp hf with hf | hf
        · obtain ⟨p, p1, p2⟩ := hF f hf
          exact ⟨p, by rw [lookK_put_other _ _ _ _ (by intro e; cases e; exact hnew _ hf rfl)]; exact p1, p2⟩
        · simp at hf
          subst hf
          exact ⟨_, lookK_put_same _ _ _, lookK_put_same _ _ _⟩
end
end K17

set_option Elab.async false
set_option linter.all false
set_option maxRecDepth 100000
set_option autoImplicit false
/-! k17, plain law: the whole codes of program and law are one. -/
namespace K17
open PySem BH
theorem cat_ok' {xs ys : List MV} {R : Nat} {st : Mst} (h : st[R]? = some (.lst xs)) (hl : xs.length + ys.length ≤ 16777216) :
    ∃ R2 st2, gAdd (.ref R) (.ref st.length) (st ++ [.lst ys]) = .ok (.ref R2) st2 ∧ Gr st st2 ∧ st2[R2]? = some (.lst (xs ++ ys)) ∧ st.length ≤ R2 :=
  ⟨_, _, gAdd_lst (up h) last_snoc hl, (Gr.app _ _).trans (.app _ _), last_snoc, by simp⟩
abbrev encP (p : Str × MV) : MV := .tup [.str p.1, p.2]
def nameP : MV → Option MV
  | .tup [.str x, _] => some (.str x)
  | _ => none
theorem nameP_all (ps : List (Str × MV)) : (ps.map encP).filterMap nameP = (ps.map (·.1)).map .str := by
  induction ps with
  | nil => rfl
  | cons p ps ih => simp [nameP, ih]
/-- [x for x, _ in params] -/
theorem names_ok {ps : List (Str × MV)} {env : BH.Env} {st : Mst} {i j m : Nat} (hl : ps.length < 1000) (hm : m = ps.length + 1) (hi : i < env.length) (hij : i ≠ j) :
    lcL (srcItems (ps.map encP)) (.tp [i, j]) mYes (mVar i) env st.length m 0 (st ++ [.lst []]) = .ok (.ref st.length) (st ++ [.lst ((ps.map (·.1)).map .str)]) := by
  rw [lc_itemsF nameP (by simpa using (by omega : ps.length < 16777216)) (by simpa using hm) rfl (fun x acc hx => ?_), nameP_all]
  obtain ⟨p, hp, rfl⟩ := List.mem_map.mp hx
  refine ⟨(env.set i (some (.str p.1))).set j (some p.2), rfl, ?_⟩
  simp only [nameP, encP]
  refine ⟨rfl, ?_⟩
  have : ((env.set i (some (.str p.1))).set j (some p.2))[i]? = some (some (.str p.1)) := by
    rw [List.getElem?_set_ne (Ne.symm hij), List.getElem?_set_self hi]
  simp [this]
section
variable {A B C D : Nat} {k : Str} {ls : List MV} {pl : List (L2.Key × MV)} {code : List MV} {st : Mst}
theorem ASt.putD (P : ASt A B C D k ls pl code st) (pl' : List (L2.Key × MV)) : ASt A B C D k ls pl' code (st.set D (.dct pl')) := by
  have n1 : D ≠ A := fun e => by have h := P.hA; rw [← e, P.hD] at h; cases h
  have n2 : D ≠ B := fun e => by have h := P.hB; rw [← e, P.hD] at h; cases h
  exact ⟨get_set_ne P.hA n1, get_set_ne P.hB n2, get_set_ne P.hC (Ne.symm P.neD), get_set P.hD⟩
end
section
variable {B : Nat} {k : Str} {ls : List MV} {fs : List Fn} {f : Nat → St3} {main : MV} {cm : List MV}
def wholeC (f : Nat → St3) (n : Nat) (cm : List MV) : List MV := (f n).1.set 0 (w1 "jump" (f n).1.length) ++ (cm ++ [w0 "done"])
theorem compiled_ok {st : Mst} (hB : st[B]? = some (.ins 1 [("kernel", .str k), ("layers", .tup ls), ("size", .int ls.length)])) (hlen : fs.length ≤ 10)
    (h0 : f 0 = ([w1 "jump" 0], [], [])) (hf : ∀ i, Inv3 fs i (f i) ∧ ∀ g, fs[i]? = some g →
      ∃ c, f (i + 1) = stepF g c (f i) ∧ c.length ≤ 1000 ∧ PW 60 k ls (f i).2.1 g.body (g.params.map (·.1)) (f i).1.length c ∧ LW 60 ls (f (i + 1)).2.2 g.body (g.params.map (·.1)) ((f i).1.length : Int) c)
    (hps : ∀ g ∈ fs, g.params.length ≤ 10)
    (hm : PW 60 k ls (f fs.length).2.1 main [] (f fs.length).1.length cm) (hml : cm.length ≤ 1000) :
    Post (m_compiled [.ref B, .tup [.tup (fs.map Fn.enc), main]] st) (fun v st' => v = .tup (wholeC f fs.length cm) ∧ ∀ (a : Nat) (o : MO), st[a]? = some o → st'[a]? = some o) := by
  rw [m_compiled, fnM2, b_compiled]
  -- making
  obtain ⟨st1, e1⟩ : ∃ x, x = st ++ [MO.ins 0 (asF B (st.length + 1) (st.length + 2)), .lst [], .dct []] := ⟨_, rfl⟩
  have mk : m_Assembler_init [.ref st.length, .ref B] (st ++ [.ins 0 []]) = .ok .non st1 := by
    rw [m_Assembler_init, fnM2, b_Assembler_init, e1]
    have q1 : putFM [0] "book" (.ref st.length) (.ref B) (st ++ [.ins 0 []]) = _ := putFM_ins last_snoc (by simp) (by simp)
    have q2 : putFM [0] "code" (.ref st.length) (.ref (st.length + 1)) (st ++ [MO.ins 0 (mputF "book" (.ref B) []), .lst []]) = _ := putFM_ins (c := 0) (fs := mputF "book" (.ref B) []) (by simp) (by simp) (by simp [mputF])
    have q3 : putFM [0] "places" (.ref st.length) (.ref (st.length + 2)) (st ++ [MO.ins 0 (mputF "code" (.ref (st.length + 1)) (mputF "book" (.ref B) [])), .lst [], .dct []]) = _ := putFM_ins (c := 0) (fs := mputF "code" (.ref (st.length + 1)) (mputF "book" (.ref B) [])) (by simp) (by simp) (by simp [mputF])
    simp -implicitDefEqProofs [q1, q2, q3]
    simp [mputF]
  have P1 : ASt st.length B (st.length + 1) (st.length + 2) k ls [] [] st1 := by
    subst e1
    refine ⟨by simp, up hB, ?_, ?_⟩
    · rw [List.getElem?_append_right (by omega)]; simp
    · rw [List.getElem?_append_right (by omega)]; simp
  have O1 : ∀ (a : Nat) (o : MO), st[a]? = some o → st1[a]? = some o := fun a o h => by rw [e1]; exact up h
  obtain ⟨A, eA⟩ : ∃ x, x = st.length := ⟨_, rfl⟩
  obtain ⟨C, eC⟩ : ∃ x, x = st.length + 1 := ⟨_, rfl⟩
  obtain ⟨D, eD⟩ : ∃ x, x = st.length + 2 := ⟨_, rfl⟩
  rw [← eC, ← eD, ← eA] at P1
  have h1 := hole_ok P1 (by simp)
  have P2 := P1.put [w1 "jump" 0]
  obtain ⟨st2, e2⟩ : ∃ x, x = st1.set C (.lst [w1 "jump" 0]) := ⟨_, rfl⟩
  have O2 : ∀ (a : Nat) (o : MO), st[a]? = some o → st2[a]? = some o := fun a o h => by
    rw [e2, List.getElem?_set_ne (by have := lt_of h; omega)]; exact O1 a o h
  simp only [List.nil_append] at h1
  rw [← e2] at h1 P2
  rw [← eA] at mk
  simp -implicitDefEqProofs [mk, P1.clH, ← eA, h1]
  refine .finB (.bind (.items (fun i env st' => (∃ o6 o7 o8 o9 o10 o11, env = [some (.ref B), some (.tup [.tup (fs.map Fn.enc), main]), some (.tup (fs.map Fn.enc)), some main, some (.ref A), some (.int 0), o6, o7, o8, o9, o10, o11]) ∧
    ASt A B C D k ls (f i).2.1 (f i).1 st' ∧ Fr [C, D] st2 st') ⟨⟨_, _, _, _, _, _, rfl⟩, by rw [h0]; exact P2, .refl _ _⟩ (by simp) ?_ ?_))
  · rintro i x env st' hx ⟨⟨o6, o7, o8, o9, o10, o11, rfl⟩, P, F⟩
    rw [List.getElem?_map] at hx
    obtain ⟨g, hg, rfl⟩ := Option.map_eq_some_iff.mp hx
    have hi : i < fs.length := (List.getElem?_eq_some_iff.mp hg).1
    have hgp := hps g (List.mem_of_getElem? hg)
    obtain ⟨⟨a1, a2, a3, a4, a5, a6⟩, hstep⟩ := hf i
    obtain ⟨c, hc, hcl, hw, _⟩ := hstep g hg
    refine ⟨[some (.ref B), some (.tup [.tup (fs.map Fn.enc), main]), some (.tup (fs.map Fn.enc)), some main, some (.ref A), some (.int 0), some (.str g.name), some (.tup (g.params.map encP)), some g.body, o9, o10, o11], st', by simp -implicitDefEqProofs [Fn.enc], ?_⟩
    have hn := fun env (he : env.length = 12) => names_ok (ps := g.params) (env := env) (st := st') (i := 10) (j := 11) (by omega) rfl (by omega) (by omega)
    have P3 := P.gr (.app st' [.lst ((g.params.map (·.1)).map .str)])
    have F3 := F.trans (.app _ st' [.lst ((g.params.map (·.1)).map .str)])
    have ht : gTuple [.ref st'.length] (st' ++ [.lst ((g.params.map (·.1)).map .str)]) = _ := gTuple_lst last_snoc
    obtain ⟨st3, e3⟩ : ∃ x, x = st' ++ [.lst ((g.params.map (·.1)).map .str)] := ⟨_, rfl⟩
    obtain ⟨T, eT⟩ : ∃ x, x = st'.length := ⟨_, rfl⟩
    rw [← e3, ← eT] at hn
    rw [← e3] at P3 F3
    rw [← e3, ← eT] at ht
    obtain ⟨v, st4, e4, rfl, P4, F4⟩ := hw A B C D _ st3 rfl P3 (by omega)
    have h4 := P4.app (w1 "return" g.params.length) (by simp; omega)
    have P5 := P4.put ((f i).1 ++ c ++ [w1 "return" g.params.length])
    have F5 := F4.trans (.put C st4 (.lst ((f i).1 ++ c ++ [w1 "return" g.params.length])))
    obtain ⟨st5, e5⟩ : ∃ x, x = st4.set C (.lst ((f i).1 ++ c ++ [w1 "return" g.params.length])) := ⟨_, rfl⟩
    rw [← e5] at h4 P5 F5
    have h5 := gDSet_dct (y := .str g.name) (v := .int (f i).1.length) (k := .inr g.name) P5.hD rfl (by omega)
    have P6 := P5.putD (putKM (f i).2.1 (.inr g.name) (.int (f i).1.length))
    have F6 := (F3.trans (F5.mono (W' := [C, D]) (fun a n e => n (by simp at e; simp [e])))).trans ((Fr.put D st5 (.dct (putKM (f i).2.1 (.inr g.name) (.int (f i).1.length)))).mono (W' := [C, D]) (fun a n e => n (by simp at e; simp [e])))
    obtain ⟨st6, e6⟩ : ∃ x, x = st5.set D (.dct (putKM (f i).2.1 (.inr g.name) (.int (f i).1.length))) := ⟨_, rfl⟩
    rw [← e6] at h5 P6 F6
    refine .nx (env := [some (.ref B), some (.tup [.tup (fs.map Fn.enc), main]), some (.tup (fs.map Fn.enc)), some main, some (.ref A), some (.int 0), some (.str g.name), some (.tup (g.params.map encP)), some g.body, some (.int (f i).1.length), o10, o11]) (st := st6) ?_ ⟨⟨_, _, _, _, _, _, rfl⟩, ?_, F6⟩
    · simp -implicitDefEqProofs [P.f_code, P.len, P.clW, hn, ht, ← eT, P3.clW, e4, P4.f_code, P4.ty, h4, P5.f_places, h5, -List.map_map]
    · rw [hc]
      simpa [stepF] using P6
  · rintro env st' ⟨⟨o6, o7, o8, o9, o10, o11, rfl⟩, P, F⟩
    rw [List.length_map] at P
    obtain ⟨a1, a2, a3, a4, a5, a6⟩ := (hf fs.length).1
    have h2 := gSetIx_lst (v := w1 "jump" (f fs.length).1.length) P.hC (i := 0) (k := 0) rfl (by omega)
    have P3 := P.put ((f fs.length).1.set 0 (w1 "jump" (f fs.length).1.length))
    obtain ⟨st3, e3⟩ : ∃ x, x = st'.set C (.lst ((f fs.length).1.set 0 (w1 "jump" (f fs.length).1.length))) := ⟨_, rfl⟩
    have F3 := F.trans ((Fr.put C st' (.lst ((f fs.length).1.set 0 (w1 "jump" (f fs.length).1.length)))).mono (W' := [C, D]) (fun a n e => n (by simp at e; simp [e])))
    rw [← e3] at h2 P3 F3
    obtain ⟨v, st4, e4, rfl, P4, F4⟩ := hm A B C D _ st3 (by simp) P3 (by omega)
    have h4 := P4.app (w0 "done") (by simp; omega)
    have P5 := P4.put ((f fs.length).1.set 0 (w1 "jump" (f fs.length).1.length) ++ cm ++ [w0 "done"])
    have F5 := F4.trans (.put C st4 (.lst ((f fs.length).1.set 0 (w1 "jump" (f fs.length).1.length) ++ cm ++ [w0 "done"])))
    obtain ⟨st5, e5⟩ : ∃ x, x = st4.set C (.lst ((f fs.length).1.set 0 (w1 "jump" (f fs.length).1.length) ++ cm ++ [w0 "done"])) := ⟨_, rfl⟩
    rw [← e5] at h4 P5 F5
    have h5 := gTuple_lst P5.hC
    simp only [stup, List.map_nil] at e4
    simp -implicitDefEqProofs [P.f_code, P.len, h2, P3.clW, e4, P4.f_code, P4.ty, h4, P5.f_code, h5, wholeC]
    intro a o h
    have hlt := lt_of h
    have F6 := F3.trans (F5.mono (W' := [C, D]) (fun a n e => n (by simp at e; simp [e])))
    exact F6 a o (by simp; omega) (O2 a o h)
end
end K17

set_option Elab.async false
set_option linter.all false
set_option maxRecDepth 100000
set_option autoImplicit false
namespace K17
open PySem BH
/-- old objects stay -/
def Old (st st' : Mst) : Prop := ∀ (a : Nat) (o : MO), st[a]? = some o → st'[a]? = some o
theorem Old.refl (st : Mst) : Old st st := fun _ _ h => h
theorem Old.trans {a b c : Mst} (h : Old a b) (h' : Old b c) : Old a c := fun i o e => h' i o (h i o e)
theorem Old.gr {a b : Mst} (h : Gr a b) : Old a b := fun _ _ e => h.get e
theorem Old.set {a b : Mst} (h : Old a b) {i : Nat} {o : MO} (hi : a.length ≤ i) : Old a (b.set i o) := fun j o' e => by
  rw [List.getElem?_set_ne (by have := lt_of e; omega)]; exact h j o' e
section
variable {B : Nat} {k : Str} {ls : List MV} {fs : List Fn} {f : Nat → St3} {main : MV} {cm : List MV}
theorem whole_ok {st : Mst} (hlen : fs.length ≤ 10)
    (h0 : f 0 = ([w1 "jump" 0], [], [])) (hf : ∀ i, Inv3 fs i (f i) ∧ ∀ g, fs[i]? = some g →
      ∃ c, f (i + 1) = stepF g c (f i) ∧ c.length ≤ 1000 ∧ PW 60 k ls (f i).2.1 g.body (g.params.map (·.1)) (f i).1.length c ∧ LW 60 ls (f (i + 1)).2.2 g.body (g.params.map (·.1)) ((f i).1.length : Int) c)
    (hps : ∀ g ∈ fs, g.params.length ≤ 10)
    (hm : LW 60 ls (f fs.length).2.2 main [] ((f fs.length).1.length : Int) cm) (hml : cm.length ≤ 1000) :
    Post (m_law_whole [.tup [.tup (fs.map Fn.enc), main], .tup ls] st) (fun v st' => ∃ R, v = .ref R ∧ st'[R]? = some (.lst (wholeC f fs.length cm)) ∧ Old st st') := by
  rw [m_law_whole, fnM2, b_law_whole]
  obtain ⟨st1, e1⟩ : ∃ x, x = st ++ [MO.dct [], .lst [w1 "jump" 0]] := ⟨_, rfl⟩
  have O1 : Old st st1 := fun a o h => by rw [e1]; exact up h
  obtain ⟨T, eT⟩ : ∃ x, x = st.length := ⟨_, rfl⟩
  have hT1 : st1[T]? = some (.dct []) := by rw [e1, eT]; simp
  have hR1 : st1[T + 1]? = some (.lst [w1 "jump" 0]) := by
    rw [e1, eT, List.getElem?_append_right (by omega)]; simp
  simp -implicitDefEqProofs [← e1, ← eT]
  refine .finB (.bind (.items (fun i env st' => (∃ o4 o5 o6 o7 o8 o9 o10 R, env = [some (.tup [.tup (fs.map Fn.enc), main]), some (.tup ls), some (.ref T), some (.ref R), o4, o5, o6, o7, o8, o9, o10] ∧
    st'[R]? = some (.lst (f i).1) ∧ T < R) ∧ st'[T]? = some (.dct (f i).2.2) ∧ Old st st') ⟨⟨_, _, _, _, _, _, _, _, rfl, by rw [h0]; exact hR1, by omega⟩, by rw [h0]; exact hT1, O1⟩ (by simp) ?_ ?_))
  · rintro i x env st' hx ⟨⟨o4, o5, o6, o7, o8, o9, o10, R, rfl, hR, hTR⟩, hT, O⟩
    rw [List.getElem?_map] at hx
    obtain ⟨g, hg, rfl⟩ := Option.map_eq_some_iff.mp hx
    have hi : i < fs.length := (List.getElem?_eq_some_iff.mp hg).1
    have hgp := hps g (List.mem_of_getElem? hg)
    obtain ⟨⟨a1, a2, a3, a4, a5, a6⟩, hstep⟩ := hf i
    obtain ⟨c, hc, hcl, _, hw⟩ := hstep g hg
    refine ⟨[some (.tup [.tup (fs.map Fn.enc), main]), some (.tup ls), some (.ref T), some (.ref R), some (.str g.name), some (.tup (g.params.map encP)), some g.body, o7, o8, o9, o10], st', by simp -implicitDefEqProofs [Fn.enc], ?_⟩
    have l0 := gLen_lst hR
    have h1 := gDSet_dct (y := .str g.name) (v := .int (f i).1.length) (k := .inr g.name) hT rfl (by omega)
    obtain ⟨pl, epl⟩ : ∃ x, x = putKM (f i).2.2 (.inr g.name) (.int (f i).1.length) := ⟨_, rfl⟩
    rw [← epl] at h1
    have hpl : (f (i + 1)).2.2 = pl := by rw [hc, epl]; rfl
    rw [hpl] at hw
    have hT2 : (st'.set T (.dct pl))[T]? = some (.dct pl) := get_set hT
    have hR2 : (st'.set T (.dct pl))[R]? = some (.lst (f i).1) := get_set_ne hR (by omega)
    have O2 : Old st (st'.set T (.dct pl)) := O.set (by omega)
    obtain ⟨st2, e2⟩ : ∃ x, x = st'.set T (.dct pl) := ⟨_, rfl⟩
    rw [← e2] at h1 hT2 hR2 O2
    have hn := fun env (he : env.length = 11) => names_ok (ps := g.params) (env := env) (st := st2) (i := 9) (j := 10) (by omega) rfl (by omega) (by omega)
    have hS3 : (st2 ++ [.lst ((g.params.map (·.1)).map .str)])[st2.length]? = some (.lst ((g.params.map (·.1)).map .str)) := last_snoc
    have G3 := Gr.app st2 [.lst ((g.params.map (·.1)).map .str)]
    obtain ⟨S, eS⟩ : ∃ x, x = st2.length := ⟨_, rfl⟩
    obtain ⟨st3, e3⟩ : ∃ x, x = st2 ++ [.lst ((g.params.map (·.1)).map .str)] := ⟨_, rfl⟩
    rw [← e3, ← eS] at hS3 hn
    rw [← e3] at G3
    have h3 := gDict_dct (G3.get hT2)
    have hI4 : (st3 ++ [.dct pl])[st3.length]? = some (.dct pl) := last_snoc
    have G4 := G3.trans (Gr.app st3 [.dct pl])
    have G34 := Gr.app st3 [.dct pl]
    obtain ⟨I, eI⟩ : ∃ x, x = st3.length := ⟨_, rfl⟩
    obtain ⟨st4, e4⟩ : ∃ x, x = st3 ++ [.dct pl] := ⟨_, rfl⟩
    rw [← e4, ← eI] at h3 hI4
    rw [← e4] at G4 G34
    have l4 := gLen_lst (G4.get hR2)
    obtain ⟨R5, st5, e5, G5, h5⟩ := hw S I st4 (G34.get hS3) hI4 (by omega)
    obtain ⟨R6, st6, e6, G6, h6⟩ := cat2_ok (G5.get (G4.get hR2)) h5 (by omega)
    obtain ⟨R7, st7, e7, G7, h7, hge⟩ := cat_ok' (ys := [w1 "return" g.params.length]) h6 (by simp; omega)
    have G27 := ((G4.trans G5).trans G6).trans G7
    have hTlt := lt_of (G6.get (G5.get (G4.get hT2)))
    refine .nx (env := [some (.tup [.tup (fs.map Fn.enc), main]), some (.tup ls), some (.ref T), some (.ref R7), some (.str g.name), some (.tup (g.params.map encP)), some g.body, some (.ref S), some (.ref I), o9, o10]) (st := st7) ?_ ⟨⟨_, _, _, _, _, _, _, _, rfl, ?_, by omega⟩, ?_, O2.trans (.gr G27)⟩
    · simp -implicitDefEqProofs [l0, h1, ← eS, hn, h3, l4, e5, e6, e7, -List.map_map]
    · rw [hc]
      simpa [stepF] using h7
    · rw [hpl]
      exact G27.get hT2
  · rintro env st' ⟨⟨o4, o5, o6, o7, o8, o9, o10, R, rfl, hR, hTR⟩, hT, O⟩
    rw [List.length_map] at hR hT
    obtain ⟨a1, a2, a3, a4, a5, a6⟩ := (hf fs.length).1
    have l0 := gLen_lst hR
    have h2 := gSetIx_lst (v := w1 "jump" (f fs.length).1.length) hR (i := 0) (k := 0) rfl (by omega)
    have hR2 : (st'.set R (.lst ((f fs.length).1.set 0 (w1 "jump" (f fs.length).1.length))))[R]? = _ := get_set hR
    have hT2 : (st'.set R (.lst ((f fs.length).1.set 0 (w1 "jump" (f fs.length).1.length))))[T]? = some (.dct (f fs.length).2.2) := get_set_ne hT (by omega)
    have O2 : Old st (st'.set R (.lst ((f fs.length).1.set 0 (w1 "jump" (f fs.length).1.length)))) := O.set (by omega)
    obtain ⟨st2, e2⟩ : ∃ x, x = st'.set R (.lst ((f fs.length).1.set 0 (w1 "jump" (f fs.length).1.length))) := ⟨_, rfl⟩
    rw [← e2] at h2 hR2 hT2 O2
    have l2 := gLen_lst hR2
    rw [List.length_set] at l2
    have G3 := Gr.app st2 [.lst []]
    have hS3 : (st2 ++ [.lst []])[st2.length]? = some (.lst ([].map MV.str)) := last_snoc
    obtain ⟨S, eS⟩ : ∃ x, x = st2.length := ⟨_, rfl⟩
    obtain ⟨st3, e3⟩ : ∃ x, x = st2 ++ [MO.lst []] := ⟨_, rfl⟩
    rw [← e3, ← eS] at hS3
    rw [← e3] at G3
    obtain ⟨R5, st5, e5, G5, h5⟩ := hm S T st3 hS3 (G3.get hT2) (by omega)
    obtain ⟨R6, st6, e6, G6, h6⟩ := cat2_ok (G5.get (G3.get hR2)) h5 (by simp; omega)
    obtain ⟨R7, st7, e7, G7, h7⟩ := cat_ok (ys := [w0 "done"]) h6 (by simp; omega)
    simp -implicitDefEqProofs [l0, h2, l2, ← e3, ← eS, e5, e6, e7]
    refine ⟨by simpa [wholeC] using h7, O2.trans (.gr (((G3.trans G5).trans G6).trans G7))⟩
end
end K17

set_option Elab.async false
set_option linter.all false
set_option maxRecDepth 100000
set_option autoImplicit false
/-! Layers, names, tables, books, rows of a script. -/
namespace K17
open PySem BH
inductive Lay where
  | cell (nm : Str) (n : Nat)
  | setting (nm : Str) (n : Nat)
  | note (nm : Str) (tb : List (List Nat))
  | fail (nm : Str) (n : Nat)
  | outside (nm : Str) (ar : List Nat)
def word : Lay → String
  | .cell _ _ => "cell"
  | .setting _ _ => "setting"
  | .note _ _ => "note"
  | .fail _ _ => "fail"
  | .outside _ _ => "outside"
def nats (xs : List Nat) : MV := .tup (xs.map fun (x : Nat) => .int x)
def third : Lay → MV
  | .cell _ n => .int n
  | .setting _ n => .int n
  | .note _ tb => .tup (tb.map nats)
  | .fail _ n => .int n
  | .outside _ ar => nats ar
def nameOf : Lay → Str
  | .cell nm _ => nm
  | .setting nm _ => nm
  | .note nm _ => nm
  | .fail nm _ => nm
  | .outside nm _ => nm
def enc (l : Lay) : MV := .tup [.str (word l), .str (nameOf l), third l]
def count : Lay → Nat
  | .cell _ n => n
  | .setting _ n => n
  | .note _ tb => tb.length
  | .fail _ n => n
  | .outside _ ar => ar.length
def bookO (k : Str) (ls : List Lay) : MO := .ins 1 [("kernel", .str k), ("layers", .tup (ls.map enc)), ("size", .int ls.length)]
/-! ### varied -/
def varied : Lay → Bool
  | .cell _ _ => true
  | .setting _ _ => true
  | _ => false
theorem varied_w (l : Lay) : varied l = (word l == "cell" || word l == "setting") := by cases l <;> rfl
theorem gIn_varied (l : Lay) (st : Mst) : gIn false (.str (word l)) c_VARIED st = .ok (.bl (varied l)) st := by cases l <;> simp -implicitDefEqProofs [c_VARIED, word, varied]
def okL : Lay → Bool
  | .cell _ n => decide (0 < n) && decide (n < 4)
  | .setting _ n => decide (0 < n) && decide (n < 4)
  | .fail _ n => decide (0 < n) && decide (n < 1000)
  | .note _ tb => decide (0 < tb.length) && (decide (tb.length < 1000) && tb.all fun row => row.length == tb.length && row.all fun z => decide (z < tb.length))
  | .outside _ ar => decide (0 < ar.length) && (decide (ar.length < 1000) && ar.all fun w => decide (0 < w) && decide (w < 1000))
/-- the layers' counts are small and not none -/
def Good (ls : List Lay) : Prop := ls.length ≤ 5 ∧ ∀ l ∈ ls, okL l = true
theorem Good.at {ls : List Lay} (G : Good ls) {i : Nat} {l : Lay} (h : ls[i]? = some l) : (0 : Int) < (count l : Int) ∧ (count l : Int) < 1073741824 := by
  have := G.2 l (List.mem_of_getElem? h)
  cases l <;> simp [okL, count] at this ⊢ <;> omega
theorem Good.way {ls : List Lay} (G : Good ls) {i e w : Nat} {nm : Str} {ar : List Nat} (h : ls[i]? = some (.outside nm ar)) (he : ar[e]? = some w) : 0 < w ∧ w < 1000 := by
  have := G.2 _ (List.mem_of_getElem? h)
  simp only [okL, Bool.and_eq_true, List.all_eq_true, decide_eq_true_eq] at this
  exact this.2.2 w (List.mem_of_getElem? he)
theorem Good.cell {ls : List Lay} (G : Good ls) {i x y : Nat} {nm : Str} {tb : List (List Nat)} (h : ls[i]? = some (.note nm tb)) (hx : x < tb.length) (hy : y < tb.length) : ∃ row z, tb[x]? = some row ∧ row[y]? = some z ∧ z < tb.length := by
  have := G.2 _ (List.mem_of_getElem? h)
  simp only [okL, Bool.and_eq_true, List.all_eq_true, decide_eq_true_eq, beq_iff_eq] at this
  obtain ⟨row, hr⟩ := get_of hx
  have h2 := this.2.2 row (List.mem_of_getElem? hr)
  obtain ⟨z, hz⟩ := get_of (xs := row) (i := y) (by omega)
  exact ⟨row, z, hr, hz, h2.2 z (List.mem_of_getElem? hz)⟩
theorem mod_nat {x : Int} {m : Nat} (h : 0 < m) : ∃ j : Nat, x % (m : Int) = (j : Int) ∧ j < m := by
  have h1 := Int.emod_nonneg x (show (m : Int) ≠ 0 by omega)
  have h2 := Int.emod_lt_of_pos x (show (0 : Int) < (m : Int) by omega)
  exact ⟨(x % (m : Int)).toNat, by omega, by omega⟩
variable {b R : Nat} {k : Str} {ls : List Lay} {row : List Int} {st : Mst}
theorem filterMap_all {α γ : Type} (f : α → γ) (xs : List α) : xs.filterMap (fun x => some (f x)) = xs.map f := by
  induction xs with
  | nil => rfl
  | cons x xs ih => simp [ih]
/-- the first part of the loop of states: notes get their members -/
def Val' (ls : List Lay) (s : List Int) (m : Nat) : Prop := s.length = ls.length ∧ ∀ (i : Nat) (nm : Str) (tb : List (List Nat)), i < m → ls[i]? = some (Lay.note nm tb) → ∃ x : Nat, s[i]? = some (x : Int) ∧ x < tb.length
/-! ### names -/
theorem letter_in : ∀ c ∈ List.range 123, 97 ≤ c → (Builtin.Str.occurrences ("abcdefghijklmnopqrstuvwxyz" : Str) ⟨#[c]⟩ 0 ("abcdefghijklmnopqrstuvwxyz" : Str).length 1).isEmpty = false := by decide +kernel
def okN (x : Str) : Bool := decide (1 ≤ x.cps.size) && (decide (x.cps.size ≤ 6) && x.cps.all fun c => decide (97 ≤ c) && decide (c ≤ 122))
theorem name_ok {x : Str} (h : okN x = true) (st : Mst) : m_is_name [.str x] st = .ok (.bl true) st := by
  suffices h : Post (m_is_name [.str x] st) (fun v st' => v = .bl true ∧ st' = st) by
    obtain ⟨_, _, h, rfl, rfl⟩ := h
    exact h
  simp only [okN, Bool.and_eq_true, decide_eq_true_eq, Array.all_eq_true] at h
  obtain ⟨h1, h6, h2⟩ := h
  have hs : ∀ st, srcOf (.str x) st = .ok (srcStr x) st := fun st => rfl
  have hl : ∀ st, gLen [.str x] st = .ok (.int x.cps.size) st := fun st => by
    have e : x.length = x.cps.size := rfl
    have q : x.cps.size ≤ 16777216 := by omega
    simp [gLen, e, q]
  rw [m_is_name, fnM1, b_is_name]
  simp -implicitDefEqProofs [hs]
  refine .finB (.bind (loop_rule (src := srcStr x) (n := x.cps.size) (fun i env st' => (∃ o, env = [some (.str x), o]) ∧ st' = st) (fun env st' _ => by simp [srcStr]) ?_ ?_ (x.cps.size + 1) 0 _ st (Nat.zero_le _) (by omega) ⟨⟨_, rfl⟩, rfl⟩))
  · rintro i env st' hi ⟨⟨o, rfl⟩, rfl⟩
    have hc := h2 i hi
    have hx : x.cps[i]? = some x.cps[i] := by simp [hi]
    have hin : gIn true (.str ⟨#[x.cps[i]]⟩) c_LETTERS st' = .ok (.bl false) st' := by
      simp only [gIn, itemsOf, c_LETTERS, if_true]
      rw [letter_in x.cps[i] (by simp; omega) hc.1]
      rfl
    refine ⟨.str ⟨#[x.cps[i]]⟩, _, st', by simp only [srcStr, hx]; rfl, rfl, ?_⟩
    simp -implicitDefEqProofs [hin]
  · rintro env st' ⟨⟨o, rfl⟩, rfl⟩
    have c1 : (1 : Int) ≤ x.cps.size := by omega
    have c2 : (x.cps.size : Int) ≤ 6 := by omega
    simp -implicitDefEqProofs [hl, c1, c2]
theorem okN_str {x : Str} (h : okN x = true) : PyData.strOk x = true := by
  simp only [okN, Bool.and_eq_true, decide_eq_true_eq, Array.all_eq_true] at h
  unfold PyData.strOk
  simp only [Array.all_eq_true, decide_eq_true_eq]
  intro i hi
  have := h.2.2 i hi
  omega
/-! ### tables -/
def at2 (tb : List (List Nat)) (x y : Nat) : Nat := ((tb[x]?.getD [])[y]?).getD 0
def isMon (tb : List (List Nat)) : Bool := decide (2 ≤ tb.length) && (decide (tb.length ≤ 6) && ((List.range tb.length).all (fun a => at2 tb 0 a == a && at2 tb a 0 == a) &&
  (List.range tb.length).all fun a => (List.range tb.length).all fun b => (List.range tb.length).all fun c => at2 tb (at2 tb a b) c == at2 tb a (at2 tb b c)))
theorem optBls_true {α : Type} : ∀ xs : List α, optBls (xs.map fun _ => MV.bl true) = some (xs.map fun _ => true)
  | [] => rfl
  | x :: xs => by simp only [List.map_cons, optBls, optBls_true xs, Option.map_some]
theorem gAll_true {α : Type} {xs : List α} {a : Nat} {st : Mst} (h : st[a]? = some (.lst (xs.map fun _ => MV.bl true))) : gAll [.ref a] st = .ok (.bl true) st := by
  simp only [gAll, itemsOf, h, Option.bind_some, optBls_true]
  simp
theorem monoid_ok {nm : Str} {tb : List (List Nat)} (hL : okL (.note nm tb) = true) (h : isMon tb = true) (st : Mst) : ∃ g, m_is_monoid [.tup (tb.map nats)] st = .ok (.bl true) (st ++ g) := by
  suffices h : Post (m_is_monoid [.tup (tb.map nats)] st) fun v st' => v = .bl true ∧ ∃ g, st' = st ++ g by
    obtain ⟨_, _, h, rfl, g, rfl⟩ := h
    exact ⟨g, h⟩
  simp only [okL, Bool.and_eq_true, List.all_eq_true, decide_eq_true_eq, beq_iff_eq] at hL
  simp only [isMon, Bool.and_eq_true, List.all_eq_true, decide_eq_true_eq, beq_iff_eq, List.mem_range] at h
  obtain ⟨h2, h6, hid, has⟩ := h
  have hrow : ∀ x, x < tb.length → (tb[x]?.getD []).length = tb.length ∧ ∀ y, y < tb.length → at2 tb x y < tb.length := fun x hx => by
    have he : tb[x]? = some tb[x] := by simp [hx]
    have := hL.2.2 tb[x] (by simp)
    rw [he, Option.getD_some]
    refine ⟨this.1, fun y hy => ?_⟩
    have hy' : tb[x][y]? = some (tb[x][y]'(by omega)) := by simp [this.1, hy]
    rw [at2, he, Option.getD_some, hy', Option.getD_some]
    exact this.2 _ (by simp)
  have e1 : ∀ x st, x < tb.length → gIx (.tup (tb.map nats)) (.int (x : Nat)) st = .ok (nats (tb[x]?.getD [])) st := fun x st hx => by simp [hx]
  have e2 : ∀ x y st, x < tb.length → y < tb.length → gIx (nats (tb[x]?.getD [])) (.int (y : Nat)) st = .ok (.int (at2 tb x y : Nat)) st := fun x y st hx hy => by
    have := (hrow x hx).1
    have hy' : (tb[x]?.getD [])[y]? = some ((tb[x]?.getD [])[y]'(by omega)) := by simp [hy, this]
    rw [nats, gIx_tup_ap, matI_cast, List.getElem?_map, at2, hy']
    rfl
  rw [m_is_monoid, fnM1, b_is_monoid]
  have q1 : (2 : Int) ≤ tb.length := by omega
  have q2 : (tb.length : Int) ≤ 6 := by omega
  simp -implicitDefEqProofs [q1, q2, srcOf_tup]
  refine .finB (.bind (.items (fun i env st' => (∃ o, env = [some (.tup (tb.map nats)), some (.int tb.length), o, none, none, none, none]) ∧ ∃ g, st' = st ++ g) ⟨⟨_, rfl⟩, [], by simp⟩ (by simp) ?_ ?_))
  · rintro i x env st' hx ⟨⟨o, rfl⟩, g, rfl⟩
    rw [List.getElem?_map] at hx
    obtain ⟨row, hr, rfl⟩ := Option.map_eq_some_iff.mp hx
    have hrl := hL.2.2 row (List.mem_of_getElem? hr)
    refine ⟨_, _, rfl, ?_⟩
    have hlen : ∀ st, gLen [nats row] st = .ok (.int tb.length) st := fun st => by simp [nats, hrl.1]
    have hsrc : ∀ st, srcOf (nats row) st = .ok (srcItems (row.map fun (x : Nat) => MV.int x)) st := fun st => rfl
    have hlc := lc_items (xs := row.map fun (x : Nat) => MV.int x) (m := row.length + 1) (D := (st ++ g).length) (t := .nm 6) (test := mYes) (elt := mChain gLe gLt (mC (.int 0)) (mVar 6) (mVar 1)) (env := [some (.tup (tb.map nats)), some (.int tb.length), some (nats row), none, none, none, none]) (st := st ++ g)
      (fun _ => some (.bl true)) (by simp; omega) (by simp) rfl (by
        intro q x acc hx
        rw [List.getElem?_map] at hx
        obtain ⟨z, hz, rfl⟩ := Option.map_eq_some_iff.mp hx
        have hzl := hrl.2 z (List.mem_of_getElem? hz)
        refine ⟨_, rfl, rfl, ?_⟩
        simp -implicitDefEqProofs
        omega)
    rw [filterMap_all] at hlc
    have hall := gAll_true (last_snoc (st := st ++ g) (o := .lst ((List.range (row.map fun (x : Nat) => MV.int x).length).map fun _ => MV.bl true)))
    simp -implicitDefEqProofs at hlc hall
    simp -implicitDefEqProofs [hlen, hsrc, hlc, hall]
  · rintro env st' ⟨⟨o, rfl⟩, g, rfl⟩
    obtain ⟨st1, e⟩ : ∃ x, x = st ++ g := ⟨_, rfl⟩
    rw [← e]
    have r := rngOf1_nat (j := (tb.length : Int)) (n := tb.length) (st := st1) rfl (by omega)
    simp -implicitDefEqProofs [r]
    refine .bind (.range (fun i env st' => (∃ o3 o4 o5, env = [some (.tup (tb.map nats)), some (.int tb.length), o, o3, o4, o5, none]) ∧ st' = st1) ⟨⟨_, _, _, rfl⟩, rfl⟩ rfl ?_ ?_)
    · rintro a env st' ha ⟨⟨o3, o4, o5, rfl⟩, rfl⟩
      refine ⟨_, _, rfl, ?_⟩
      have f0 := e1 0 st' (by omega)
      have f1 := e1 a st' ha
      have f2 := e2 0 a st' (by omega) ha
      have f3 := e2 a 0 st' ha (by omega)
      rw [(hid a ha).1] at f2
      rw [(hid a ha).2] at f3
      simp -implicitDefEqProofs only [Int.cast_ofNat_Int] at f0 f3
      simp -implicitDefEqProofs [f0, f1, f2, f3, r, -gIx_tup_ap]
      refine .of (.range (fun i env st'' => (∃ o4 o5, env = [some (.tup (tb.map nats)), some (.int tb.length), o, some (.int a), o4, o5, none]) ∧ st'' = st') ⟨⟨_, _, rfl⟩, rfl⟩ rfl ?_ ?_)
      · rintro b env st'' hb ⟨⟨o4, o5, rfl⟩, rfl⟩
        refine ⟨_, _, rfl, ?_⟩
        simp -implicitDefEqProofs [r]
        refine .of (.range (fun i env st' => (∃ o5, env = [some (.tup (tb.map nats)), some (.int tb.length), o, some (.int a), some (.int b), o5, none]) ∧ st' = st'') ⟨⟨_, rfl⟩, rfl⟩ rfl ?_ ?_)
        · rintro c env st' hc ⟨⟨o5, rfl⟩, rfl⟩
          refine ⟨_, _, rfl, ?_⟩
          have gb := e1 b st' hb
          have gab := e2 a b st' ha hb
          have hab := (hrow a ha).2 b hb
          have gx := e1 (at2 tb a b) st' hab
          have gabc := e2 (at2 tb a b) c st' hab hc
          have gbc := e2 b c st' hb hc
          have hbc := (hrow b hb).2 c hc
          have gabc' := e2 a (at2 tb b c) st' ha hbc
          rw [← has a ha b hb c hc] at gabc'
          simp -implicitDefEqProofs [f1, gb, gab, gx, gabc, gbc, gabc', -gIx_tup_ap]
        · rintro env st' ⟨⟨o5, rfl⟩, rfl⟩
          exact ⟨_, rfl, ⟨_, _, rfl⟩, rfl⟩
      · rintro env st' ⟨⟨o4, o5, rfl⟩, rfl⟩
        exact ⟨_, rfl, ⟨_, _, _, rfl⟩, rfl⟩
    · rintro env st' ⟨⟨o3, o4, o5, rfl⟩, rfl⟩
      simp -implicitDefEqProofs
      exact ⟨g, e⟩
/-! ### layers -/
def kindL : Lay → Bool
  | .cell _ n => decide (2 ≤ n ∧ n ≤ 3)
  | .setting _ n => decide (2 ≤ n ∧ n ≤ 3)
  | .fail _ n => decide (1 ≤ n ∧ n ≤ 3)
  | .note _ tb => isMon tb
  | .outside _ ar => decide (1 ≤ ar.length ∧ ar.length ≤ 2) && ar.all fun w => decide (1 ≤ w ∧ w ≤ 3)
theorem layer_ok {l : Lay} (h0 : okN (nameOf l) = true) (h1 : okL l = true) (h2 : kindL l = true) (st : Mst) : ∃ g, m_is_layer [enc l] st = .ok (.bl true) (st ++ g) := by
  rw [m_is_layer, fnM1, b_is_layer]
  have e0 : ∀ st, gIx (enc l) (.int 0) st = .ok (.str (word l)) st := fun st => by simp [enc]
  have e1 : ∀ st, gIx (enc l) (.int 1) st = .ok (.str (nameOf l)) st := fun st => by simp [enc]
  have hn := fun st => name_ok h0 st
  cases l with
  | cell nm n =>
    have e2 : ∀ st, gIx (enc (.cell nm n)) (.int 2) st = .ok (.int n) st := fun st => by simp [enc, third]
    simp only [kindL, decide_eq_true_eq] at h2
    have c1 : (2 : Int) ≤ n := by omega
    have c2 : (n : Int) ≤ 3 := by omega
    exact ⟨[], by simp -implicitDefEqProofs [e0, e1, e2, hn, word, c_VARIED, c1, c2, -gIx_tup_ap]⟩
  | setting nm n =>
    have e2 : ∀ st, gIx (enc (.setting nm n)) (.int 2) st = .ok (.int n) st := fun st => by simp [enc, third]
    simp only [kindL, decide_eq_true_eq] at h2
    have c1 : (2 : Int) ≤ n := by omega
    have c2 : (n : Int) ≤ 3 := by omega
    exact ⟨[], by simp -implicitDefEqProofs [e0, e1, e2, hn, word, c_VARIED, c1, c2, -gIx_tup_ap]⟩
  | fail nm n =>
    have e2 : ∀ st, gIx (enc (.fail nm n)) (.int 2) st = .ok (.int n) st := fun st => by simp [enc, third]
    simp only [kindL, decide_eq_true_eq] at h2
    have c1 : (1 : Int) ≤ n := by omega
    have c2 : (n : Int) ≤ 3 := by omega
    exact ⟨[], by simp -implicitDefEqProofs [e0, e1, e2, hn, word, c_VARIED, c1, c2, -gIx_tup_ap]⟩
  | note nm tb =>
    have e2 : ∀ st, gIx (enc (.note nm tb)) (.int 2) st = .ok (.tup (tb.map nats)) st := fun st => by simp [enc, third]
    obtain ⟨g, hg⟩ := monoid_ok h1 h2 st
    exact ⟨g, by simp -implicitDefEqProofs [e0, e1, e2, hn, word, c_VARIED, hg, -gIx_tup_ap]⟩
  | outside nm ar =>
    have e2 : ∀ st, gIx (enc (.outside nm ar)) (.int 2) st = .ok (nats ar) st := fun st => by simp [enc, third]
    simp only [kindL, Bool.and_eq_true, List.all_eq_true, decide_eq_true_eq] at h2
    have c1 : (1 : Int) ≤ ar.length := by omega
    have c2 : (ar.length : Int) ≤ 2 := by omega
    have hlen : ∀ st, gLen [nats ar] st = .ok (.int ar.length) st := fun st => by simp [nats]
    have hsrc : ∀ st, srcOf (nats ar) st = .ok (srcItems (ar.map fun (x : Nat) => MV.int x)) st := fun st => rfl
    have hlc := lc_items (xs := ar.map fun (x : Nat) => MV.int x) (m := ar.length + 1) (D := st.length) (t := .nm 1) (test := mYes) (elt := mChain gLe gLe (mC (.int 1)) (mVar 1) (mC (.int 3))) (env := [some (enc (.outside nm ar)), none]) (st := st)
      (fun _ => some (.bl true)) (by simp; omega) (by simp) rfl (by
        intro q x acc hx
        rw [List.getElem?_map] at hx
        obtain ⟨z, hz, rfl⟩ := Option.map_eq_some_iff.mp hx
        have hzl := h2.2 z (List.mem_of_getElem? hz)
        refine ⟨_, rfl, rfl, ?_⟩
        have d1 : (1 : Int) ≤ z := by omega
        have d2 : (z : Int) ≤ 3 := by omega
        simp -implicitDefEqProofs [d1, d2])
    rw [filterMap_all] at hlc
    have hall := gAll_true (last_snoc (st := st) (o := .lst ((List.range (ar.map fun (x : Nat) => MV.int x).length).map fun _ => MV.bl true)))
    simp -implicitDefEqProofs at hlc hall
    exact ⟨_, by simp -implicitDefEqProofs [e0, e1, e2, hn, word, c_VARIED, hlen, c1, c2, hsrc, hlc, hall, -gIx_tup_ap]; rfl⟩
theorem post_enum {xs : List MV} {m : Nat} {g : MG} {body : MS} {env : BH.Env} {st : Mst} {Q : Fl → Mst → Prop} (I : Nat → BH.Env → Mst → Prop) (h0 : I 0 env st) (hm : m = xs.length + 1)
    (step : ∀ i x env st, xs[i]? = some x → I i env st → ∃ env1 s1, g (.tup [.int i, x]) env st = .ok env1 s1 ∧ Turns (I (i + 1)) (body env1 s1)) (hk : ∀ env st, I xs.length env st → Q (.nx env) st) : Post (forL (srcEnum (srcItems xs)) g body m 0 env st) Q := by
  subst hm
  obtain ⟨env', st', h1, h2⟩ := for_rule (src := srcEnum (srcItems xs)) (g := g) (body := body) (n := xs.length) I (fun env st _ => by simp [srcEnum, srcItems]) (fun i env st hi h => by
    have hx : xs[i]? = some xs[i] := by simp [hi]
    obtain ⟨env1, s1, h1, h2⟩ := step i xs[i] env st hx h
    exact ⟨_, env1, s1, by simp [srcEnum, srcItems, hx], h1, h2⟩) (xs.length + 1) 0 env st (Nat.zero_le _) (by omega) h0
  exact ⟨_, _, h1, hk _ _ h2⟩
def mulS (ls : List Lay) : Nat → Int
  | 0 => 1
  | i + 1 => match ls[i]? with
    | some l => if varied l then mulS ls i * (count l : Int) else mulS ls i
    | none => mulS ls i
structure BookOk (k : String) (ls : List Lay) : Prop where
  good : Good ls
  kern : decide ((k : Str) ∈ k_CHOICES) = true
  names : ∀ l ∈ ls, okN (nameOf l) = true
  kinds : ∀ l ∈ ls, kindL l = true
  many : mulS ls ls.length ≤ 12
  diff : ∀ i < ls.length, ((ls.take i).map nameOf).all (fun x => !(x == ((ls[i]?.map nameOf).getD ""))) = true
theorem init_ok {k : String} {ls : List Lay} {a : Nat} {st : Mst} (B : BookOk k ls) (ha : st[a]? = some (.ins 1 [])) :
    Post (m_Book_init [.ref a, .str k, .tup (ls.map enc)] st) fun v st' => v = .non ∧ st'[a]? = some (bookO k ls) ∧ Fr [a] st st' := by
  rw [m_Book_init, fnM3, b_Book_init]
  have hl5 := B.good.1
  have hk : ∀ st, gInK true k_CHOICES (.str k) st = .ok (.bl false) st := fun st => by
    simp only [gInK, B.kern]
    rfl
  have q5 : ¬ (5 : Int) < ls.length := by omega
  have hsq : ∀ st, srcSeq (.tup (ls.map enc)) st = .ok (srcItems (ls.map enc)) st := fun st => rfl
  have hsz : (srcEnum (srcItems (ls.map enc))).size = ls.length := by simp [srcEnum, srcItems]
  simp -implicitDefEqProofs [hk, c_MOST_LAYERS, q5, hsq, hsz]
  refine .finB (.bind (post_enum (fun i env st' => (∃ o5 o6, env = [some (.ref a), some (.str k), some (.tup (ls.map enc)), some (.ref st.length), some (.int (mulS ls i)), o5, o6]) ∧ Fr [] st st' ∧ st'[st.length]? = some (.lst (((ls.take i).map nameOf).map MV.str))) ⟨⟨_, _, rfl⟩, .app _ _ _, last_snoc⟩ (by simp) ?_ ?_))
  · rintro i x env st' hx ⟨⟨o5, o6, rfl⟩, Fi, hN⟩
    rw [List.getElem?_map] at hx
    obtain ⟨l, h, rfl⟩ := Option.map_eq_some_iff.mp hx
    have hm := List.mem_of_getElem? h
    have hi := (List.getElem?_eq_some_iff.mp h).1
    refine ⟨_, _, rfl, ?_⟩
    obtain ⟨g, hy⟩ := layer_ok (B.names l hm) (B.good.2 l hm) (B.kinds l hm) st'
    have hN2 := up hN (g := g)
    have hdf := B.diff i hi
    rw [h] at hdf
    have hin : gIn false (.str (nameOf l)) (.ref st.length) (st' ++ g) = .ok (.bl false) (st' ++ g) := by
      have q1 : (((ls.take i).map nameOf).map MV.str).all mflat = true := by
        rw [List.all_eq_true]
        intro z hz
        obtain ⟨y, _, rfl⟩ := List.mem_map.mp hz
        rfl
      have q2 : ((((ls.take i).map nameOf).map MV.str).any fun z => meq z (.str (nameOf l))) = false := by
        rw [List.all_eq_true] at hdf
        rw [List.any_eq_false]
        intro z hz
        obtain ⟨y, hy, rfl⟩ := List.mem_map.mp hz
        have := hdf y hy
        simpa [meq] using this
      simp only [gIn, itemsOf, hN2, q1, q2]
      rfl
    have e0 : ∀ st, gIx (enc l) (.int 0) st = .ok (.str (word l)) st := fun st => by simp [enc]
    have e1 : ∀ st, gIx (enc l) (.int 1) st = .ok (.str (nameOf l)) st := fun st => by simp [enc]
    have ht := tyM_lst hN2
    have hap := gAppend_lst (y := .str (nameOf l)) hN2 (by simp; omega)
    have tk : (ls.take (i + 1)).map nameOf = (ls.take i).map nameOf ++ [nameOf l] := by rw [take_snoc h]; simp
    have fin : Fr [] st ((st' ++ g).set st.length (.lst (((ls.take i).map nameOf).map MV.str ++ [.str (nameOf l)]))) ∧ ((st' ++ g).set st.length (.lst (((ls.take i).map nameOf).map MV.str ++ [.str (nameOf l)])))[st.length]? = some (.lst (((ls.take (i + 1)).map nameOf).map MV.str)) := by
      refine ⟨(((Fi.mono (by simp)).trans (.app _ _ _)).trans (.put st.length _ _)).new (Nat.le_refl _) _, ?_⟩
      rw [List.getElem?_set_self (lt_of hN2), tk]
      simp
    simp -implicitDefEqProofs at fin
    by_cases hv : varied l
    · have e2 : ∀ st, gIx (enc l) (.int 2) st = .ok (.int (count l)) st := fun st => by cases l <;> simp [enc, varied, third, count] at hv ⊢
      have hmm := fun st => gMul_r (mulS ls i) (count l : Int) st (by have := B.good.at h; simp [small64]; omega)
      simp -implicitDefEqProofs [hy, hin, e0, e1, ht, hap, gIn_varied, hv, e2, hmm, mulS, h, -gIx_tup_ap]
      exact ⟨fin.1, fin.2⟩
    · simp -implicitDefEqProofs [hy, hin, e0, e1, ht, hap, gIn_varied, hv, mulS, h, -gIx_tup_ap]
      exact ⟨fin.1, fin.2⟩
  · rintro env st' ⟨⟨o5, o6, rfl⟩, Fi, hN⟩
    have hmy := B.many
    have q12 : ¬ (12 : Int) < mulS ls ls.length := by omega
    have ha' := Fi a _ (by simp) ha
    have p1 : putFM [1] "kernel" (.ref a) (.str k) st' = .ok () (st'.set a (.ins 1 [("kernel", .str k)])) := by
      rw [putFM_ins ha' (by simp) (by simp)]; rfl
    have ha2 : (st'.set a (.ins 1 [("kernel", .str k)]))[a]? = some (.ins 1 [("kernel", .str k)]) := List.getElem?_set_self (lt_of ha')
    have p2 : putFM [1] "layers" (.ref a) (.tup (ls.map enc)) (st'.set a (.ins 1 [("kernel", .str k)])) = .ok () (st'.set a (.ins 1 [("kernel", .str k), ("layers", .tup (ls.map enc))])) := by
      rw [putFM_ins ha2 (by simp) (by simp), List.set_set]
      simp [mputF]
    have ha3 : (st'.set a (.ins 1 [("kernel", .str k), ("layers", .tup (ls.map enc))]))[a]? = some (.ins 1 [("kernel", .str k), ("layers", .tup (ls.map enc))]) := List.getElem?_set_self (lt_of ha')
    have p3 : putFM [1] "size" (.ref a) (.int ls.length) (st'.set a (.ins 1 [("kernel", .str k), ("layers", .tup (ls.map enc))])) = .ok () (st'.set a (bookO k ls)) := by
      rw [putFM_ins ha3 (by simp) (by simp), List.set_set]
      simp [mputF, bookO]
    rw [List.length_map]
    simp -implicitDefEqProofs [c_MOST_STARTS, q12, p1, p2, p3]
    exact ⟨List.getElem?_set_self (lt_of ha'), (Fi.mono (by simp)).trans (.put _ _ _)⟩
/-! ### rows -/
section
variable {ns : List Int} {st : Mst}
theorem row_ok (h0 : st[0]? = some (.rol (ns.map .int))) (k n : Nat) (hn : n ≤ 12) :
    Post (m_law_row [.ref 0, .int k, .int n] st) fun v st' => ∃ (R : Nat) (row : List Int), v = .ref R ∧ st'[R]? = some (.lst (row.map .int)) ∧ row.length = n ∧ st.length ≤ R ∧ ∀ W, Fr W st st' := by
  rw [m_law_row, fnM3, b_law_row]
  have hlen := gLen_rol h0
  rw [List.length_map] at hlen
  obtain ⟨cell, hcell⟩ : ∃ x : Int, x = ns[k]?.getD 0 := ⟨_, rfl⟩
  have hp : gPow (.int 10) (.int 18) (st ++ [.lst []]) = .ok (.int (10 ^ 18)) (st ++ [.lst []]) := by simp [gPow]
  have r := rngOf1_nat (j := (n : Int)) (n := n) (st := st ++ [.lst []]) rfl (by omega)
  have first : ∀ (q : MS) (Q : MV → Mst → Prop), Post (finB (q [some (.ref 0), some (.int k), some (.int n), some (.int cell), none, none, none] st)) Q →
      Post (finB ((sSeq (sAsg (mC (.int 0)) (gtName 3)) (sSeq (sIf (mTest (mBin gLt (mVar 1) (mCallB gLen (mCons (mVar 0) mNil)))) (sAsg (mCallB gInt (mCons (mBin gIx (mVar 0) (mVar 1)) mNil)) (gtName 3)) sNext) q)) ([some (.ref 0), some (.int k), some (.int n)] ++ List.replicate (7 - 3) none) st)) Q := by
    intro q Q h
    by_cases hk : k < ns.length
    · have ex : gIx (.ref 0) (.int k) st = .ok (.int cell) st := gIx_rol h0 rfl (by rw [List.getElem?_map, hcell]; simp [hk])
      have hk' : (k : Int) < ns.length := by omega
      simp -implicitDefEqProofs [hlen, hk', ex]
      exact h
    · have hk' : ¬ (k : Int) < ns.length := by omega
      have e : cell = 0 := by rw [hcell]; simp [hk]
      subst e
      simp -implicitDefEqProofs [hlen, hk']
      exact h
  refine first _ _ ?_
  by_cases hc : (1000000000000000000 : Int) ≤ cell
  · simp -implicitDefEqProofs [hp, hc, r]
    refine .finB (.bind (.bind (.range (fun i env st' => (∃ c o o6, env = [some (.ref 0), some (.int k), some (.int n), some (.int c), some (.ref st.length), o, o6]) ∧ ∃ row : List Int, st' = st ++ [.lst (row.map .int)] ∧ row.length = i) ⟨⟨_, _, _, rfl⟩, [], rfl, rfl⟩ rfl ?_ ?_)))
    · rintro i env st' hi ⟨⟨c, o, o6, rfl⟩, row, rfl, hr⟩
      refine ⟨_, _, rfl, ?_⟩
      have ht := tyM_lst (last_snoc (st := st) (o := .lst (row.map .int)))
      have ha := fun y => gAppend_lst (y := y) (last_snoc (st := st) (o := .lst (row.map .int))) (by simp; omega)
      have hm := fun st => gMod_int (i := c) (j := 1000) (st := st) (by omega)
      have hd := fun st => gDiv_int (i := c) (j := 1000) (st := st) (by omega)
      simp -implicitDefEqProofs [ht, ha, hm, hd]
      exact ⟨row ++ [c % 1000], by simp, by simp [hr]⟩
    · rintro env st' ⟨⟨c, o, o6, rfl⟩, row, rfl, hr⟩
      simp -implicitDefEqProofs
      exact ⟨row, rfl, hr, fun W => .app _ _ _⟩
  · have hm1 := fun st => gMul_r cell 48271 st (by decide)
    have hm2 := fun st => gMul_r (k : Int) 69621 st (by decide)
    have hmod := fun i st => gMod_int (i := i) (j := 2147483647) (st := st) (by omega)
    simp -implicitDefEqProofs [hp, hc, r, hm1, hm2, hmod]
    refine .finB (.bind (.range (fun i env st' => (∃ c sd o, env = [some (.ref 0), some (.int k), some (.int n), c, some (.ref st.length), o, some (.int sd)]) ∧ ∃ row : List Int, st' = st ++ [.lst (row.map .int)] ∧ row.length = i) ⟨⟨_, _, _, rfl⟩, [], rfl, rfl⟩ rfl ?_ ?_))
    · rintro i env st' hi ⟨⟨c, sd, o, rfl⟩, row, rfl, hr⟩
      refine ⟨_, _, rfl, ?_⟩
      have ht := tyM_lst (last_snoc (st := st) (o := .lst (row.map .int)))
      have ha := fun y => gAppend_lst (y := y) (last_snoc (st := st) (o := .lst (row.map .int))) (by simp; omega)
      have hm3 := fun st => gMul_r sd 16807 st (by decide)
      have hm4 := fun st => gMul_r (i : Int) 7919 st (by decide)
      have hmod2 := fun i st => gMod_int (i := i) (j := 1000) (st := st) (by omega)
      have hdv := fun i st => gDiv_int (i := i) (j := 65536) (st := st) (by omega)
      simp -implicitDefEqProofs [ht, ha, hm3, hm4, hmod, hmod2, hdv]
      exact ⟨row ++ [(sd * 16807 + (i : Int) * 7919 + 101) % 2147483647 / 65536 % 1000], by simp, by simp [hr]⟩
    · rintro env st' ⟨⟨c, sd, o, rfl⟩, row, rfl, hr⟩
      simp -implicitDefEqProofs
      exact ⟨row, rfl, hr, fun W => .app _ _ _⟩
end
end K17

set_option Elab.async false
set_option linter.all false
set_option maxRecDepth 100000
set_option autoImplicit false
/-! k17, plain law: the law's books. -/
namespace K17
open PySem BH
theorem modC {x : Int} {m : Nat} (h : 0 < m) (st : Mst) : ∃ j : Nat, gMod (.int x) (.int (m : Int)) st = .ok (.int (j : Int)) st ∧ j < m := by
  obtain ⟨j, h1, h2⟩ := mod_nat (x := x) h
  exact ⟨j, by have := gMod_int (i := x) (j := (m : Int)) (st := st) (by omega); rw [this, h1], h2⟩
def nmS (a b c : Nat) : Str := (⟨#[112 + a]⟩ : Str) ++ repS ⟨#[97 + b]⟩ ((c : Int) + 1)
theorem nm_all : ∀ a ∈ List.range 8, ∀ b ∈ List.range 4, ∀ c ∈ List.range 3, (okN (nmS a b c) && decide ((nmS a b c).cps[1]? = some (97 + b))) = true := by decide +kernel
theorem nm_ok {a b c : Nat} (ha : a < 8) (hb : b < 4) (hc : c < 3) : okN (nmS a b c) = true ∧ (nmS a b c).cps[1]? = some (97 + b) := by
  have := nm_all a (by simpa using ha) b (by simpa using hb) c (by simpa using hc)
  simpa using this
theorem gIx_let {z : Str} {i : Nat} {c : Nat} {st : Mst} (h : z.cps.toList[i]? = some c) (hl : z.length ≤ 16777216) : gIx (.str z) (.int (i : Int)) st = .ok (.str ⟨#[c]⟩) st := by
  have hi : i < z.cps.toList.length := (List.getElem?_eq_some_iff.mp h).1
  simp only [gIx, if_pos hl]
  rw [mixN_nat rfl hi]
  simp only [Option.bind_some, h]
theorem first_let : ∀ a ∈ List.range 8, ("pqrstuvw" : Str).cps.toList[a]? = some (112 + a) := by decide +kernel
theorem second_let : ∀ a ∈ List.range 4, ("abcd" : Str).cps.toList[a]? = some (97 + a) := by decide +kernel
theorem lastp (l : Lay) : enc l = .tup [.str (word l), .str (nameOf l), third l] := rfl
theorem five {j : Nat} (h : j < 5) : j = 0 ∨ j = 1 ∨ j = 2 ∨ j = 3 ∨ j = 4 := by omega
theorem lawlayer_ok {w : Nat} {nm : Str} {p room : Int} (hw : w < 5) (st : Mst) :
    Post (m_law_layer [.int w, .str nm, .int p, .int room] st) fun v st' => ∃ l, v = enc l ∧ nameOf l = nm ∧ okL l = true ∧ kindL l = true ∧ Gr st st' ∧ (varied l = true → (count l : Int) ≤ room) := by
  rw [m_law_layer, fnM4, b_law_layer]
  by_cases hv : (w : Int) < 2 ∧ 2 ≤ room
  · have hw2 : w = 0 ∨ w = 1 := by omega
    have fin : ∀ (n : Nat) (Q : MV → Mst → Prop), (n = 2 ∨ n = 3) → (n : Int) ≤ room → ∃ l, (MV.tup [if w = 0 then .str "cell" else .str "setting", .str nm, .int n]) = enc l ∧ nameOf l = nm ∧ okL l = true ∧ kindL l = true ∧ (varied l = true → (count l : Int) ≤ room) := by
      intro n Q hn hr
      rcases hw2 with rfl | rfl
      · refine ⟨.cell nm n, rfl, rfl, ?_, ?_, fun _ => hr⟩ <;> rcases hn with rfl | rfl <;> rfl
      · refine ⟨.setting nm n, rfl, rfl, ?_, ?_, fun _ => hr⟩ <;> rcases hn with rfl | rfl <;> rfl
    have hm := gMod_int (i := p) (j := 5) (st := st) (by omega)
    have hix : ∀ (st : Mst), gIx (.ref st.length) (.int (w : Int)) (st ++ [.lst [.str "cell", .str "setting"]]) = .ok (if w = 0 then .str "cell" else .str "setting") (st ++ [.lst [.str "cell", .str "setting"]]) := fun st => by
      rw [gIx_lst_ap _ _ _ last_snoc]
      rcases hw2 with rfl | rfl <;> simp
    by_cases h3 : 3 ≤ room
    · by_cases h5 : p % 5 = 0
      · obtain ⟨l, q1, q2⟩ := fin 3 (fun _ _ => True) (.inr rfl) h3
        simp only [Int.cast_ofNat_Int] at q1
        simp -implicitDefEqProofs [hv.1, hv.2, h3, hm, h5, hix, q1]

        exact ⟨l, rfl, q2.1, q2.2.1, q2.2.2.1, .app _ _, q2.2.2.2⟩
      · obtain ⟨l, q1, q2⟩ := fin 2 (fun _ _ => True) (.inl rfl) (by omega)
        simp only [Int.cast_ofNat_Int] at q1
        simp -implicitDefEqProofs [hv.1, hv.2, h3, hm, h5, hix, q1]
        exact ⟨l, rfl, q2.1, q2.2.1, q2.2.2.1, .app _ _, q2.2.2.2⟩
    · obtain ⟨l, q1, q2⟩ := fin 2 (fun _ _ => True) (.inl rfl) (by omega)
      simp only [Int.cast_ofNat_Int] at q1
      simp -implicitDefEqProofs [hv.1, hv.2, h3, hix, q1]
      exact ⟨l, rfl, q2.1, q2.2.1, q2.2.2.1, .app _ _, q2.2.2.2⟩
  · have skip : ∀ (Q : Fl → Mst → Prop) (a b : MS) (env : BH.Env), env = [some (.int w), some (.str nm), some (.int p), some (.int room), none, none] → Post (b env st) Q →
        Post ((sSeq (sIf (mAnd (mTest (mBin gLt (mVar 0) (mC (.int 2)))) (mTest (mBin gGe (mVar 3) (mC (.int 2))))) a sNext) b) env st) Q := by
      rintro Q a b env rfl h
      by_cases h2 : (w : Int) < 2
      · have h3 : ¬ 2 ≤ room := fun h => hv ⟨h2, h⟩
        simp -implicitDefEqProofs [h2, h3]
        exact h
      · simp -implicitDefEqProofs [h2]
        exact h
    refine .finB (skip _ _ _ _ rfl ?_)
    have vn : ∀ nm tb, varied (.note nm tb) = true → (count (.note nm tb) : Int) ≤ room := fun _ _ h => by cases h
    have vf : ∀ nm n, varied (.fail nm n) = true → (count (.fail nm n) : Int) ≤ room := fun _ _ h => by cases h
    have vo : ∀ nm ar, varied (.outside nm ar) = true → (count (.outside nm ar) : Int) ≤ room := fun _ _ h => by cases h
    by_cases h3 : (w : Int) < 3
    · have hm : ∀ st, ∃ j : Nat, gMod (.int p) (.int 4) st = .ok (.int (j : Int)) st ∧ j < 4 := fun st => modC (m := 4) (by omega) st
      obtain ⟨j, hm, hj⟩ := hm (st ++ [.lst [.tup [.tup [.int 0, .int 1], .tup [.int 1, .int 0]], .tup [.tup [.int 0, .int 1], .tup [.int 1, .int 1]], .tup [.tup [.int 0, .int 1, .int 2], .tup [.int 1, .int 2, .int 0], .tup [.int 2, .int 0, .int 1]], .tup [.tup [.int 0, .int 1, .int 2], .tup [.int 1, .int 1, .int 1], .tup [.int 2, .int 2, .int 2]]]])
      have hix := gIx_lst_ap [.tup [.tup [.int 0, .int 1], .tup [.int 1, .int 0]], .tup [.tup [.int 0, .int 1], .tup [.int 1, .int 1]], .tup [.tup [.int 0, .int 1, .int 2], .tup [.int 1, .int 2, .int 0], .tup [.int 2, .int 0, .int 1]], .tup [.tup [.int 0, .int 1, .int 2], .tup [.int 1, .int 1, .int 1], .tup [.int 2, .int 2, .int 2]]] (j : Int) _ (last_snoc (st := st))
      simp -implicitDefEqProofs [h3, hm, hix, -gIx_tup_ap]
      have hj4 : j = 0 ∨ j = 1 ∨ j = 2 ∨ j = 3 := by omega
      rcases hj4 with rfl | rfl | rfl | rfl
      · simp -implicitDefEqProofs
        exact ⟨.note nm [[0, 1], [1, 0]], rfl, rfl, rfl, by simp only [kindL]; decide +kernel, .app _ _, vn _ _⟩
      · simp -implicitDefEqProofs
        exact ⟨.note nm [[0, 1], [1, 1]], rfl, rfl, rfl, by simp only [kindL]; decide +kernel, .app _ _, vn _ _⟩
      · simp -implicitDefEqProofs
        exact ⟨.note nm [[0, 1, 2], [1, 2, 0], [2, 0, 1]], rfl, rfl, rfl, by simp only [kindL]; decide +kernel, .app _ _, vn _ _⟩
      · simp -implicitDefEqProofs
        exact ⟨.note nm [[0, 1, 2], [1, 1, 1], [2, 2, 2]], rfl, rfl, rfl, by simp only [kindL]; decide +kernel, .app _ _, vn _ _⟩
    · by_cases h4 : w = 3
      · subst h4
        obtain ⟨j, hm, hj⟩ := modC (x := p) (m := 2) (by omega) st
        have hm : gMod (.int p) (.int 2) st = .ok (.int (j : Int)) st := hm
        simp -implicitDefEqProofs [hm]
        refine ⟨.fail nm (1 + j), by simp [enc, word, nameOf, third], rfl, ?_, ?_, .refl _, vf _ _⟩
        · have : j = 0 ∨ j = 1 := by omega
          rcases this with rfl | rfl <;> rfl
        · have : j = 0 ∨ j = 1 := by omega
          rcases this with rfl | rfl <;> rfl
      · have h5 : w = 4 := by omega
        subst h5
        obtain ⟨j, hm, hj⟩ := modC (x := p) (m := 5) (by omega) (st ++ [.lst [.tup [.int 1], .tup [.int 2], .tup [.int 2], .tup [.int 1, .int 2], .tup [.int 2, .int 1]]])
        have hm : gMod (.int p) (.int 5) (st ++ [.lst [.tup [.int 1], .tup [.int 2], .tup [.int 2], .tup [.int 1, .int 2], .tup [.int 2, .int 1]]]) = .ok (.int (j : Int)) _ := hm
        have hix := gIx_lst_ap [.tup [.int 1], .tup [.int 2], .tup [.int 2], .tup [.int 1, .int 2], .tup [.int 2, .int 1]] (j : Int) _ (last_snoc (st := st))
        simp -implicitDefEqProofs [hm, hix, -gIx_tup_ap]
        rcases five hj with rfl | rfl | rfl | rfl | rfl
        · simp -implicitDefEqProofs
          exact ⟨.outside nm [1], rfl, rfl, rfl, by simp only [kindL]; decide +kernel, .app _ _, vo _ _⟩
        · simp -implicitDefEqProofs
          exact ⟨.outside nm [2], rfl, rfl, rfl, by simp only [kindL]; decide +kernel, .app _ _, vo _ _⟩
        · simp -implicitDefEqProofs
          exact ⟨.outside nm [2], rfl, rfl, rfl, by simp only [kindL]; decide +kernel, .app _ _, vo _ _⟩
        · simp -implicitDefEqProofs
          exact ⟨.outside nm [1, 2], rfl, rfl, rfl, by simp only [kindL]; decide +kernel, .app _ _, vo _ _⟩
        · simp -implicitDefEqProofs
          exact ⟨.outside nm [2, 1], rfl, rfl, rfl, by simp only [kindL]; decide +kernel, .app _ _, vo _ _⟩
end K17

set_option Elab.async false
set_option linter.all false
set_option maxRecDepth 100000
set_option autoImplicit false
namespace K17
open PySem BH
theorem mulS_app (ls : List Lay) (l : Lay) : ∀ i, i ≤ ls.length → mulS (ls ++ [l]) i = mulS ls i
  | 0, _ => rfl
  | i + 1, h => by
    simp only [mulS]
    rw [List.getElem?_append_left (by omega), mulS_app ls l i (by omega)]
theorem mulS_last (ls : List Lay) (l : Lay) : mulS (ls ++ [l]) (ls.length + 1) = if varied l then mulS ls ls.length * (count l : Int) else mulS ls ls.length := by
  simp only [mulS]
  rw [mulS_app ls l _ (Nat.le_refl _)]
  simp
abbrev kernels : List String := ["none", "choose", "draw", "spread", "twochoose", "twodraw", "mixed"]
structure Lys (ls : List Lay) : Prop where
  ok : ∀ l ∈ ls, okL l = true ∧ kindL l = true
  nm : ∀ (j : Nat) (l : Lay), ls[j]? = some l → ∃ a c, a < 8 ∧ c < 3 ∧ nameOf l = nmS a j c
theorem Lys.snoc {ls : List Lay} (L : Lys ls) {l : Lay} (h1 : okL l = true) (h2 : kindL l = true) {a c : Nat} (ha : a < 8) (hc : c < 3) (hn : nameOf l = nmS a ls.length c) : Lys (ls ++ [l]) := by
  refine ⟨fun x hx => ?_, fun j x hx => ?_⟩
  · rcases List.mem_append.mp hx with hx | hx
    · exact L.ok x hx
    · rw [List.mem_singleton.mp hx]; exact ⟨h1, h2⟩
  · rcases getElem?_snoc hx with hx | ⟨rfl, rfl⟩
    · exact L.nm j x hx
    · exact ⟨a, c, ha, hc, hn⟩
theorem Lys.book {ls : List Lay} (L : Lys ls) (hl : ls.length ≤ 4) {kn : String} (hk : kn ∈ kernels) (hm : mulS ls ls.length ≤ 12) : BookOk kn ls := by
  have nm : ∀ (j : Nat) (l : Lay), ls[j]? = some l → okN (nameOf l) = true ∧ (nameOf l).cps[1]? = some (97 + j) := fun j l h => by
    obtain ⟨a, c, ha, hc, e⟩ := L.nm j l h
    have hj : j < ls.length := (List.getElem?_eq_some_iff.mp h).1
    rw [e]
    exact nm_ok ha (by omega) hc
  refine ⟨⟨by omega, fun l h => (L.ok l h).1⟩, ?_, fun l h => ?_, fun l h => (L.ok l h).2, hm, fun i hi => ?_⟩
  · simp only [kernels, List.mem_cons, List.not_mem_nil, or_false] at hk
    rcases hk with rfl | rfl | rfl | rfl | rfl | rfl | rfl <;> decide +kernel
  · obtain ⟨j, hj, e⟩ := List.getElem_of_mem h
    exact (nm j l (by rw [← e]; simp [hj])).1
  · have h2 := (nm i ls[i] (by simp [hi])).2
    rw [List.all_eq_true]
    intro x hx
    rw [List.mem_map] at hx
    obtain ⟨l, hl, rfl⟩ := hx
    obtain ⟨j, hj, e⟩ := List.getElem_of_mem hl
    simp only [List.length_take] at hj
    rw [List.getElem_take] at e
    have h3 := (nm j l (by rw [← e]; simp)).2
    have q : ls[i]? = some ls[i] := by simp [hi]
    rw [q]
    simp only [Option.map_some, Option.getD_some, Bool.not_eq_true', beq_eq_false_iff_ne]
    intro e2
    rw [e2, h2] at h3
    simp at h3
    omega
theorem lawbook_ok {st : Mst} {R : Nat} {row : List Int} {room : Int} (hR : st[R]? = some (.lst (row.map .int))) (hr : row.length = 12) (h4 : 4 ≤ room) (h6 : room ≤ 6) :
    Post (m_law_book [.ref R, .int room] st) fun v st' => ∃ (kn : String) (ls : List Lay), v = .tup [.str kn, .tup (ls.map enc)] ∧ BookOk kn ls ∧ ls.length ≤ 4 ∧ kn ∈ kernels ∧ Gr st st' ∧ mulS ls ls.length ≤ 6 ∧ Lys ls := by
  have hrow : ∀ j : Nat, j < 12 → ∃ x : Int, (row.map MV.int)[j]? = some (.int x) := fun j hj => by
    obtain ⟨x, hx⟩ := get_of (xs := row) (i := j) (by omega)
    exact ⟨x, by simp [hx]⟩
  obtain ⟨x0, h0⟩ := hrow 0 (by omega)
  obtain ⟨x1, h1⟩ := hrow 1 (by omega)
  obtain ⟨x10, h10⟩ := hrow 10 (by omega)
  obtain ⟨x11, h11⟩ := hrow 11 (by omega)
  rw [m_law_book, fnM2, b_law_book]
  obtain ⟨st1, e1⟩ : ∃ x, x = st ++ [MO.lst [.str "none", .str "choose", .str "draw", .str "spread", .str "twochoose", .str "twodraw", .str "mixed"]] := ⟨_, rfl⟩
  have G1 : Gr st st1 := by rw [e1]; exact .app _ _
  obtain ⟨j0, m0, b0⟩ := modC (x := x0) (m := 7) (by omega) st1
  have m0 : gMod (.int x0) (.int 7) st1 = _ := m0
  have i0 := gIx_lst (st := st1) (G1.get hR) (i := 0) (k := 0) rfl h0
  have hk0 : ∃ kn, kn ∈ kernels ∧ gIx (.ref st.length) (.int j0) st1 = .ok (.str (Str.ofString kn)) st1 := by
    rw [e1, gIx_lst_ap _ _ _ last_snoc]
    have : j0 = 0 ∨ j0 = 1 ∨ j0 = 2 ∨ j0 = 3 ∨ j0 = 4 ∨ j0 = 5 ∨ j0 = 6 := by omega
    rcases this with rfl | rfl | rfl | rfl | rfl | rfl | rfl
    · exact ⟨"none", by simp, by simp⟩
    · exact ⟨"choose", by simp, by simp⟩
    · exact ⟨"draw", by simp, by simp⟩
    · exact ⟨"spread", by simp, by simp⟩
    · exact ⟨"twochoose", by simp, by simp⟩
    · exact ⟨"twodraw", by simp, by simp⟩
    · exact ⟨"mixed", by simp, by simp⟩
  obtain ⟨kn, hkn, k0⟩ := hk0
  have G2 := G1.trans (Gr.app st1 [.lst []])
  have hL2 : (st1 ++ [.lst []])[st1.length]? = some (MO.lst []) := last_snoc
  obtain ⟨L, eL⟩ : ∃ x, x = st1.length := ⟨_, rfl⟩
  obtain ⟨st2, e2⟩ : ∃ x, x = st1 ++ [MO.lst []] := ⟨_, rfl⟩
  rw [← e2, ← eL] at hL2
  rw [← e2] at G2
  have G3 := G2.trans (Gr.app st2 [.lst [.int 0, .int 1, .int 2, .int 2, .int 3, .int 3, .int 3, .int 4]])
  obtain ⟨st3, e3⟩ : ∃ x, x = st2 ++ [MO.lst [.int 0, .int 1, .int 2, .int 2, .int 3, .int 3, .int 3, .int 4]] := ⟨_, rfl⟩
  have hL3 : st3[L]? = some (MO.lst []) := by rw [e3]; exact up hL2
  rw [← e3] at G3
  obtain ⟨j1, m1, b1⟩ := modC (x := x1) (m := 8) (by omega) st3
  have m1 : gMod (.int x1) (.int 8) st3 = _ := m1
  have i1 := gIx_lst (st := st3) (G3.get hR) (i := 1) (k := 1) rfl h1
  have hk1 : ∃ n : Nat, n ≤ 4 ∧ gIx (.ref st2.length) (.int j1) st3 = .ok (.int n) st3 := by
    rw [e3, gIx_lst_ap _ _ _ last_snoc]
    have : j1 = 0 ∨ j1 = 1 ∨ j1 = 2 ∨ j1 = 3 ∨ j1 = 4 ∨ j1 = 5 ∨ j1 = 6 ∨ j1 = 7 := by omega
    rcases this with rfl | rfl | rfl | rfl | rfl | rfl | rfl | rfl
    · exact ⟨0, by omega, by simp⟩
    · exact ⟨1, by omega, by simp⟩
    · exact ⟨2, by omega, by simp⟩
    · exact ⟨2, by omega, by simp⟩
    · exact ⟨3, by omega, by simp⟩
    · exact ⟨3, by omega, by simp⟩
    · exact ⟨3, by omega, by simp⟩
    · exact ⟨4, by omega, by simp⟩
  obtain ⟨n, hn, k1⟩ := hk1
  have eL2 : st2.length = L + 1 := by rw [e2, eL]; simp
  rw [eL2] at k1
  have r := rngOf1_nat (j := (n : Int)) (n := n) (st := st3) rfl (by omega)
  have hLs : st.length ≤ L := by rw [eL]; exact G1.len
  simp -implicitDefEqProofs [← e1, i0, m0, k0, ← e2, ← eL, ← e3, i1, m1, k1, r, -List.append_assoc]
  refine .finB (.bind (.range (fun i env st' => ∃ o4 o5 o6 rm ls, env = [some (.ref R), some (.int rm), some (.str (Str.ofString kn)), some (.ref L), o4, o5, o6] ∧ Gr st st' ∧ st'[L]? = some (.lst (ls.map enc)) ∧ ls.length = i ∧ Lys ls ∧
    mulS ls i * rm ≤ room ∧ 0 < mulS ls i ∧ 1 ≤ rm) ⟨_, _, _, room, [], rfl, G3, hL3, rfl, ⟨by simp, by simp⟩, by simp [mulS], by simp [mulS], by omega⟩ rfl ?_ ?_))
  · rintro i env st' hi ⟨o4, o5, o6, rm, ls, rfl, G, hL, rfl, LY, hm1, hm2, hrm⟩
    refine ⟨_, _, rfl, ?_⟩
    obtain ⟨y0, g0⟩ := hrow (2 + 2 * ls.length) (by omega)
    obtain ⟨y1, g1⟩ := hrow (3 + 2 * ls.length) (by omega)
    have hR' := G.get hR
    have a10 := gIx_lst (st := st') hR' (i := 10) (k := 10) rfl h10
    have a11 := gIx_lst (st := st') hR' (i := 11) (k := 11) rfl h11
    have ay0 := gIx_lst (st := st') hR' (i := 2 + 2 * (ls.length : Int)) (k := 2 + 2 * ls.length) (by omega) g0
    have ay1 := gIx_lst (st := st') hR' (i := 3 + 2 * (ls.length : Int)) (k := 3 + 2 * ls.length) (by omega) g1
    obtain ⟨q0, mq0, bq0⟩ := modC (x := x10) (m := 8) (by omega) st'
    have mq0 : gMod (.int x10) (.int 8) st' = _ := mq0
    obtain ⟨q1, mq1, bq1⟩ := modC (x := x11 + ls.length) (m := 3) (by omega) st'
    have mq1 : gMod (.int (x11 + ls.length)) (.int 3) st' = _ := mq1
    obtain ⟨q2, mq2, bq2⟩ := modC (x := y0) (m := 5) (by omega) st'
    have mq2 : gMod (.int y0) (.int 5) st' = _ := mq2
    have l0 := gIx_let (st := st') (first_let q0 (by simpa using bq0)) (by decide)
    have l1 := gIx_let (st := st') (second_let ls.length (by simp; omega)) (by decide)
    have l2 : gMul (.str ⟨#[97 + ls.length]⟩) (.int (1 + q1)) st' = .ok (.str (repS ⟨#[97 + ls.length]⟩ ((q1 : Int) + 1))) st' := by
      have c1 : (1 : Int) ≤ 1 + q1 ∧ 1 + (q1 : Int) ≤ 100 ∧ (⟨#[97 + ls.length]⟩ : Str).length ≤ 1000 := ⟨by omega, by omega, by show 1 ≤ 1000; omega⟩
      simp only [gMul, if_pos c1]
      rw [Int.add_comm]
    have l3 : gAdd (.str ⟨#[112 + q0]⟩) (.str (repS ⟨#[97 + ls.length]⟩ ((q1 : Int) + 1))) st' = .ok (.str (nmS q0 ls.length q1)) st' := by
      have e : ((⟨#[112 + q0]⟩ : Str) ++ repS ⟨#[97 + ls.length]⟩ ((q1 : Int) + 1)).cps.size ≤ 6 := by
        have := (nm_ok (a := q0) (b := ls.length) (c := q1) bq0 (by omega) bq1).1
        simp only [okN, Bool.and_eq_true, decide_eq_true_eq] at this
        exact this.2.1
      have e2 : ((⟨#[112 + q0]⟩ : Str) ++ repS ⟨#[97 + ls.length]⟩ ((q1 : Int) + 1)).cps = (⟨#[112 + q0]⟩ : Str).cps ++ (repS ⟨#[97 + ls.length]⟩ ((q1 : Int) + 1)).cps := rfl
      rw [e2, Array.size_append] at e
      have e3 : (⟨#[112 + q0]⟩ : Str).length + (repS ⟨#[97 + ls.length]⟩ ((q1 : Int) + 1)).length ≤ 16777216 := Nat.le_trans (show (⟨#[112 + q0]⟩ : Str).cps.size + (repS ⟨#[97 + ls.length]⟩ ((q1 : Int) + 1)).cps.size ≤ 6 from e) (by decide)
      simp only [gAdd, if_pos e3]
      rfl
    obtain ⟨v, st4, hlay, l, rfl, hnm, ho, hkd, G4, hvr⟩ := lawlayer_ok (w := q2) (nm := nmS q0 ls.length q1) (p := y1) (room := rm) bq2 st'
    have hL4 := G4.get hL
    have ht := tyM_lst hL4
    have ha := gAppend_lst (y := enc l) hL4 (by simp; omega)
    have G5 : Gr st (st4.set L (.lst (ls.map enc ++ [enc l]))) := (G.trans G4).set (by omega)
    have hL5 : (st4.set L (.lst (ls.map enc ++ [enc l])))[L]? = some (.lst ((ls ++ [l]).map enc)) := by rw [get_set hL4]; simp
    have LY' := LY.snoc ho hkd bq0 bq1 hnm
    have hmul := gMul_l 2 (ls.length : Int) st' (by decide)
    have e0 : ∀ st, gIx (enc l) (.int 0) st = .ok (.str (word l)) st := fun st => by simp [enc]
    by_cases hv : varied l = true
    · have e2 : ∀ st, gIx (enc l) (.int 2) st = .ok (.int (count l)) st := fun st => by cases l <;> simp [enc, varied, third, count] at hv ⊢
      have hc : 0 < (count l : Int) ∧ (count l : Int) < 1073741824 := by
        have := ho
        cases l <;> simp [okL, count] at this ⊢ <;> omega
      have hd := gDiv_int (i := rm) (j := (count l : Int)) (st := st4) hc
      have hvr' := hvr hv
      have hw : (word l == "cell" || word l == "setting") = true := by rw [← varied_w]; exact hv
      have hq : 1 ≤ rm / (count l : Int) := by
        rw [Int.le_ediv_iff_mul_le hc.1]; omega
      have hle : mulS ls ls.length * (count l : Int) * (rm / (count l : Int)) ≤ room := by
        have h1 : (count l : Int) * (rm / (count l : Int)) ≤ rm := Int.mul_ediv_self_le (by omega)
        have h2 := Int.mul_le_mul_of_nonneg_left h1 (show 0 ≤ mulS ls ls.length by omega)
        rw [← Int.mul_assoc] at h2
        omega
      refine .nx (env := [some (.ref R), some (.int (rm / (count l : Int))), some (.str (Str.ofString kn)), some (.ref L), some (.int (0 + (ls.length : Int))), some (.str (nmS q0 ls.length q1)), some (enc l)]) (st := st4.set L (.lst (ls.map enc ++ [enc l]))) ?_
        ⟨_, _, _, _, ls ++ [l], rfl, G5, hL5, by simp, LY', by rw [mulS_last, if_pos hv]; exact hle, by rw [mulS_last, if_pos hv]; exact Int.mul_pos hm2 hc.1, hq⟩
      rcases Bool.or_eq_true _ _ ▸ hw with hw | hw <;> rw [beq_iff_eq] at hw <;>
      · simp -implicitDefEqProofs [a10, mq0, l0, l1, a11, mq1, l2, l3, hmul, ay0, mq2, ay1, hlay, e0, hw, e2, hd, ht, ha, -gIx_tup_ap]
    · have hw : (word l == "cell" || word l == "setting") = false := by rw [← varied_w]; simpa using hv
      simp only [Bool.or_eq_false_iff] at hw
      refine .nx (env := [some (.ref R), some (.int rm), some (.str (Str.ofString kn)), some (.ref L), some (.int (0 + (ls.length : Int))), some (.str (nmS q0 ls.length q1)), some (enc l)]) (st := st4.set L (.lst (ls.map enc ++ [enc l]))) ?_
        ⟨_, _, _, _, ls ++ [l], rfl, G5, hL5, by simp, LY', by rw [mulS_last, if_neg hv]; exact hm1, by rw [mulS_last, if_neg hv]; exact hm2, hrm⟩
      simp -implicitDefEqProofs [a10, mq0, l0, l1, a11, mq1, l2, l3, hmul, ay0, mq2, ay1, hlay, e0, hw.1, hw.2, ht, ha, -gIx_tup_ap]
  · rintro env st' ⟨o4, o5, o6, rm, ls, rfl, G, hL, rfl, LY, hm1, hm2, hrm⟩
    have ht := gTuple_lst hL
    have hle6 : mulS ls ls.length ≤ 6 := by
      have := Int.mul_le_mul_of_nonneg_left hrm (show 0 ≤ mulS ls ls.length by omega)
      omega
    simp -implicitDefEqProofs [ht]
    exact ⟨kn, ls, ⟨rfl, rfl⟩, LY.book hn hkn (by omega), hn, by simpa using hkn, G, hle6, LY⟩
end K17

set_option Elab.async false
set_option linter.all false
set_option maxRecDepth 100000
set_option autoImplicit false
/-! k17, plain law: items. -/
namespace K17
open PySem BH
theorem WFs.one {fs : List Str} {d s : Nat} {sc : List Str} {e : MV} (h : WF fs d s sc e) : WFs fs d s sc [e] := .cons (sb := 0) h .nil (by omega)
theorem WFs.two {fs : List Str} {d s s' : Nat} {sc : List Str} {e e' : MV} (h : WF fs d s sc e) (h' : WF fs d s' sc e') : WFs fs d (s + s') sc [e, e'] := .cons h (.one h') (by omega)
theorem WF.up {fs : List Str} {d d' s s' : Nat} {sc : List Str} {e : MV} (h : WF fs d s sc e) (hd : d ≤ d') (hs : s ≤ s') : WF fs d' s' sc e := WF.mono (fun _ h => h) d h hd hs (fun _ h => h)
def mx (i j : Int) : Int := if j > i then j else i
theorem gMax_two (i j : Int) (st : Mst) : gMax [.int i, .int j] st = .ok (.int (mx i j)) st := rfl
theorem gMax_tup (i j : Int) (st : Mst) : gMax [.tup [.int i, .int j]] st = .ok (.int (mx i j)) st := rfl
theorem gMax_three (i j k : Int) (st : Mst) : gMax [.int i, .int j, .int k] st = .ok (.int (mx (mx i j) k)) st := rfl
theorem mx_l (i j : Int) : i ≤ mx i j := by unfold mx; split <;> omega
theorem mx_r (i j : Int) : j ≤ mx i j := by unfold mx; split <;> omega
theorem mx_le {i j k : Int} (h : i ≤ k) (h' : j ≤ k) : mx i j ≤ k := by unfold mx; split <;> omega
theorem gMin_two (i j : Int) (st : Mst) : gMin [.int i, .int j] st = .ok (.int (if j < i then j else i)) st := rfl
theorem cat_front {xs ys : List MV} {R : Nat} {st : Mst} (h : st[R]? = some (.lst ys)) (hl : xs.length + ys.length ≤ 16777216) :
    ∃ R2 st2, gAdd (.ref st.length) (.ref R) (st ++ [.lst xs]) = .ok (.ref R2) st2 ∧ Gr st st2 ∧ st2[R2]? = some (.lst (xs ++ ys)) :=
  ⟨_, _, gAdd_lst last_snoc (up h) hl, (Gr.app _ _).trans (.app _ _), last_snoc⟩
inductive Kd : MV → Prop where
  | int (k : Int) : Kd (.int k)
  | tup (a b : Int) : Kd (.tup [.int a, .int b])
abbrev XYZ : List Str := ["x", "y", "z"]
abbrev itL (e kd : MV) (t l f d : Int) : List MV := [e, kd, .int t, .int l, .int f, .int d]
structure IF (fs : List Str) (e kd : MV) (t l f d : Int) : Prop where
  kd : Kd kd
  l0 : 0 ≤ l
  lt : l ≤ t
  f0 : 0 ≤ f
  ft : f ≤ t
  t1 : 1 ≤ t
  d0 : 0 ≤ d
  wf : WF fs (d.toNat + 1) (2 * t).toNat XYZ e
def Cand (fs : List Str) (st : Mst) (v : MV) : Prop := ∃ a e kd t l f d, v = .ref a ∧ st[a]? = some (.lst (itL e kd t l f d)) ∧ IF fs e kd t l f d
def Item (fs : List Str) (st : Mst) (v : MV) : Prop := ∃ a e kd t l f d, v = .ref a ∧ st[a]? = some (.lst (itL e kd t l f d)) ∧ IF fs e kd t l f d ∧ t ≤ 38 ∧ d ≤ 15
theorem Cand.gr {fs : List Str} {st st' : Mst} {v : MV} (h : Cand fs st v) (g : Gr st st') : Cand fs st' v := by
  obtain ⟨a, e, kd, t, l, f, d, rfl, h1, h2⟩ := h
  exact ⟨a, e, kd, t, l, f, d, rfl, g.get h1, h2⟩
theorem Item.old {fs : List Str} {st st' : Mst} {v : MV} (h : Item fs st v) (g : Old st st') : Item fs st' v := by
  obtain ⟨a, e, kd, t, l, f, d, rfl, h1, h2⟩ := h
  exact ⟨a, e, kd, t, l, f, d, rfl, g _ _ h1, h2⟩
theorem Item.gr {fs : List Str} {st st' : Mst} {v : MV} (h : Item fs st v) (g : Gr st st') : Item fs st' v := h.old (.gr g)
theorem small38 {i : Int} (h0 : 0 ≤ i) (h : i ≤ 1000000) : small64 i = true := by simp [small64]; omega
/-- what an item tells -/
theorem it_ix {st : Mst} {a : Nat} {e kd : MV} {t l f d : Int} (h : st[a]? = some (.lst (itL e kd t l f d))) :
    gIx (.ref a) (.int 0) st = .ok e st ∧ gIx (.ref a) (.int 1) st = .ok kd st ∧ gIx (.ref a) (.int 2) st = .ok (.int t) st ∧ gIx (.ref a) (.int 3) st = .ok (.int l) st ∧ gIx (.ref a) (.int 4) st = .ok (.int f) st ∧ gIx (.ref a) (.int 5) st = .ok (.int d) st := by
  refine ⟨?_, ?_, ?_, ?_, ?_, ?_⟩ <;> rw [gIx_lst_ap _ _ _ h] <;> simp
section
variable {fs : List Str} {e kd : MV} {t l f d : Int} {st : Mst} {a R : Nat}
theorem number_law (h : st[a]? = some (.lst (itL e kd t l f d))) (I : IF fs e kd t l f d) (b : Int) : ∃ e', m_law_number [.ref a, .int b] st = .ok e' st ∧ WF fs (d.toNat + 3) (2 * t + 2).toNat XYZ e' := by
  obtain ⟨x0, x1, x2, x3, x4, x5⟩ := it_ix h
  rw [m_law_number, fnM2, b_law_number]
  have id := fun (x : Str) (h : x ∈ XYZ) => h
  have hd0 := I.d0
  have ht1 := I.t1
  cases hk : I.kd with
  | tup k1 k2 =>
    refine ⟨.tup [.str "mod", .tup [.str "first", e], .int b], by simp -implicitDefEqProofs [x0, x1, gIsi_tup], ?_⟩
    refine .mod b (.val "first" rfl (.one I.wf) (by simp) (Nat.le_refl _)) (by omega)
  | int k =>
    by_cases hb : b < k
    · refine ⟨.tup [.str "mod", e, .int b], by simp -implicitDefEqProofs [x0, x1, gIsi_int, hb], ?_⟩
      exact .mod b (I.wf.up (Nat.le_succ _) (Nat.le_refl _)) (by omega)
    · refine ⟨e, by simp -implicitDefEqProofs [x0, x1, gIsi_int, hb], ?_⟩
      exact I.wf.up (by omega) (by omega)
/-- a new item from its first two and its bounds -/
theorem fin_item {Bo : Nat} {st1 : Mst} {e' kd' : MV} {t' l' f' d' : Int} (hB : st1[Bo]? = some (.lst [.int t', .int l', .int f', .int d'])) (I : IF fs e' kd' t' l' f' d') :
    ∃ R2 st2, gAdd (.ref st1.length) (.ref Bo) (st1 ++ [.lst [e', kd']]) = .ok (.ref R2) st2 ∧ Gr st1 st2 ∧ Cand fs st2 (.ref R2) := by
  obtain ⟨R2, st2, h1, h2, h3⟩ := cat_front (xs := [e', kd']) hB (by simp)
  exact ⟨R2, st2, h1, h2, R2, e', kd', t', l', f', d', rfl, h3, I⟩
theorem dat_nats (st : Mst) (xs : List Nat) : ∃ p, dat st 62 (nats xs) = some p := ⟨_, by
  simp only [nats, dat]
  rw [optAll_map (f := dat st 61) (g := fun (x : Nat) => MV.int x) (k := fun x => PyData.int x) (fun x => rfl)]
  rfl⟩
theorem dat_nats' (st : Mst) (xs : List Nat) : dat st 61 (nats xs) = some (.tuple (xs.map fun (x : Nat) => .int x)) := by
  simp only [nats, dat]
  rw [optAll_map (f := dat st 60) (g := fun (x : Nat) => MV.int x) (k := fun (x : Nat) => PyData.int x) (fun x => rfl)]
  rfl
theorem dat_third (st : Mst) (l : Lay) : ∃ p, dat st 62 (third l) = some p := by
  cases l with
  | cell nm n => exact ⟨_, rfl⟩
  | setting nm n => exact ⟨_, rfl⟩
  | fail nm n => exact ⟨_, rfl⟩
  | outside nm ar => exact dat_nats st ar
  | note nm tb =>
    refine ⟨.tuple (tb.map fun xs => .tuple (xs.map fun (x : Nat) => .int x)), ?_⟩
    · simp only [third, dat]
      rw [optAll_map (f := dat st 61) (g := nats) (k := fun xs => .tuple (xs.map fun (x : Nat) => .int x)) (fun x => dat_nats' st x)]
      rfl
theorem dat_enc (st : Mst) {l : Lay} (h : PyData.strOk (nameOf l) = true) : ∃ p, dat st 63 (enc l) = some p := by
  obtain ⟨p, hp⟩ := dat_third st l
  refine ⟨.tuple [.str (word l), .str (nameOf l), p], ?_⟩
  show (optAll (dat st 62) [.str (word l), .str (nameOf l), third l]).map PyData.tuple = _
  simp only [optAll, hp]
  simp only [dat, strOk_ofString, h, if_true, Option.map_some]
theorem dat_encs (st : Mst) : ∀ {ls : List Lay}, (∀ l ∈ ls, PyData.strOk (nameOf l) = true) → ∃ ps, optAll (dat st 63) (ls.map enc) = some ps ∧ ps.length = ls.length
  | [], _ => ⟨[], rfl, rfl⟩
  | l :: ls, h => by
    obtain ⟨p, hp⟩ := dat_enc st (h l List.mem_cons_self)
    obtain ⟨ps, h1, h2⟩ := dat_encs st fun x hx => h x (List.mem_cons_of_mem _ hx)
    exact ⟨p :: ps, by simp only [List.map_cons, optAll, hp, h1], by simp [h2]⟩
/-- targets == [] -/
theorem eq_nil {T N : Nat} {ls : List Lay} (hT : st[T]? = some (.lst (ls.map enc))) (hN : st[N]? = some (.lst [])) (h : ∀ l ∈ ls, PyData.strOk (nameOf l) = true) : gEq (.ref T) (.ref N) st = .ok (.bl (ls.isEmpty)) st := by
  obtain ⟨ps, h1, h2⟩ := dat_encs st h
  have d1 : dat st 64 (.ref T) = some (.list ps) := by simp only [dat, hT, h1]; rfl
  have d2 : dat st 64 (.ref N) = some (.list []) := by simp only [dat, hN]; rfl
  simp only [gEq, d1, d2]
  cases ls with
  | nil =>
    cases ps with
    | nil => rfl
    | cons p ps => simp at h2
  | cons l ls =>
    cases ps with
    | nil => simp at h2
    | cons p ps => rfl
end
end K17

set_option Elab.async false
set_option linter.all false
set_option maxRecDepth 100000
set_option autoImplicit false
/-! k17, plain law: what grows of one and two items. -/
namespace K17
open PySem BH
abbrev row3 (r0 r1 r2 : Int) : List MV := [.int r0, .int r1, .int r2]
theorem row_ix {st : Mst} {R : Nat} {r0 r1 r2 : Int} (h : st[R]? = some (.lst (row3 r0 r1 r2))) : gIx (.ref R) (.int 0) st = .ok (.int r0) st ∧ gIx (.ref R) (.int 1) st = .ok (.int r1) st ∧ gIx (.ref R) (.int 2) st = .ok (.int r2) st := by
  refine ⟨?_, ?_, ?_⟩ <;> rw [gIx_lst_ap _ _ _ h] <;> simp
def keptL : Lay → Bool
  | .cell _ _ => true
  | .note _ _ => true
  | _ => false
def tgtF : MV → Option MV
  | .tup (.str w :: r) => if w = ("cell" : Str) ∨ w = ("note" : Str) then some (.tup (.str w :: r)) else none
  | _ => none
theorem tgt_all (ls : List Lay) : (ls.map enc).filterMap tgtF = (ls.filter keptL).map enc := by
  induction ls with
  | nil => rfl
  | cons l ls ih => cases l <;> simp [enc, word, nameOf, third, tgtF, keptL, ih, List.filter_cons]
theorem keptL_w (l : Lay) : keptL l = (word l == "cell" || word l == "note") := by cases l <;> rfl
structure LaysOk (ls : List Lay) : Prop where
  ok : ∀ l ∈ ls, okL l = true ∧ kindL l = true
  nm : ∀ l ∈ ls, PyData.strOk (nameOf l) = true
  len : ls.length ≤ 5
def Res1 (fs : List Str) (st : Mst) : MV → Mst → Prop := fun v st' => Gr st st' ∧ Cand fs st' v
section
variable {fs : List Str} {e kd : MV} {t l f d : Int} {st : Mst} {a R : Nat} {r0 r1 r2 : Int} {ls : List Lay}
theorem unary_ok (hR : st[R]? = some (.lst (row3 r0 r1 r2))) (h : st[a]? = some (.lst (itL e kd t l f d))) (I : IF fs e kd t l f d) (L : LaysOk ls) :
    Post (m_law_unary [.ref R, .ref a, .tup (ls.map enc)] st) (Res1 fs st) := by
  obtain ⟨x0, x1, x2, x3, x4, x5⟩ := it_ix h
  obtain ⟨y0, y1, y2⟩ := row_ix hR
  have hd0 := I.d0
  have ht1 := I.t1
  have hl0 := I.l0
  have hlt := I.lt
  have hf0 := I.f0
  have hft := I.ft
  have hls := L.len
  obtain ⟨w, hw, bw⟩ := modC (x := r2) (m := 2) (by omega) st
  have hw : gMod (.int r2) (.int 2) st = .ok (.int w) st := hw
  rw [m_law_unary, fnM3, b_law_unary]
  have G1 := Gr.app st [.lst [.int (t + 1), .int l, .int f, .int (d + 1)]]
  have hB : (st ++ [.lst [.int (t + 1), .int l, .int f, .int (d + 1)]])[st.length]? = some (MO.lst [.int (t + 1), .int l, .int f, .int (d + 1)]) := last_snoc
  obtain ⟨st1, e1⟩ : ∃ x, x = st ++ [MO.lst [.int (t + 1), .int l, .int f, .int (d + 1)]] := ⟨_, rfl⟩
  obtain ⟨Bo, eB⟩ : ∃ x, x = st.length := ⟨_, rfl⟩
  rw [← e1] at G1
  rw [← e1, ← eB] at hB
  obtain ⟨x10, x11, x12, x13, x14, x15⟩ := it_ix (G1.get h)
  obtain ⟨y10, y11, y12⟩ := row_ix (G1.get hR)
  cases hk : I.kd with
  | tup k1 k2 =>
    have G2 := Gr.app st1 [.lst [.str "first", .str "second"]]
    have hix := gIx_lst_ap [.str "first", .str "second"] (w : Int) _ (last_snoc (st := st1))
    obtain ⟨st2, e2⟩ : ∃ x, x = st1 ++ [MO.lst [.str "first", .str "second"]] := ⟨_, rfl⟩
    rw [← e2] at G2 hix
    obtain ⟨x20, x21, x22, x23, x24, x25⟩ := it_ix (G2.get (G1.get h))
    have b2 : w = 0 ∨ w = 1 := by omega
    rcases b2 with rfl | rfl
    · obtain ⟨R3, st3, e3, G3, C3⟩ := fin_item (e' := .tup [.str "first", e]) (kd' := .int k1) (G2.get hB) ⟨.int _, hl0, by omega, hf0, by omega, by omega, by omega, (WF.val "first" rfl (.one I.wf) (by simp) (Nat.le_refl _)).up (by omega) (by omega)⟩
      simp -implicitDefEqProofs at hix
      simp -implicitDefEqProofs [y2, hw, x1, x2, x3, x4, x5, ← e1, ← eB, x11, gIsi_tup, ← e2, hix, x20, x21, e3, -List.append_assoc]
      exact ⟨(G1.trans G2).trans G3, C3⟩
    · obtain ⟨R3, st3, e3, G3, C3⟩ := fin_item (e' := .tup [.str "second", e]) (kd' := .int k2) (G2.get hB) ⟨.int _, hl0, by omega, hf0, by omega, by omega, by omega, (WF.val "second" rfl (.one I.wf) (by simp) (Nat.le_refl _)).up (by omega) (by omega)⟩
      simp -implicitDefEqProofs at hix
      simp -implicitDefEqProofs [y2, hw, x1, x2, x3, x4, x5, ← e1, ← eB, x11, gIsi_tup, ← e2, hix, x20, x21, e3, -List.append_assoc]
      exact ⟨(G1.trans G2).trans G3, C3⟩
  | int k =>
    have hcomp : ∀ env, env.length = 8 → lcL (srcItems (ls.map enc)) (.nm 7) (mOr (mTest (mBin gEq (mBin gIx (mVar 7) (mC (.int 0))) (mC (.str "cell")))) (mTest (mBin gEq (mBin gIx (mVar 7) (mC (.int 0))) (mC (.str "note"))))) (mVar 7) env st1.length (ls.length + 1) 0 (st1 ++ [.lst []]) = .ok (.ref st1.length) (st1 ++ [.lst ((ls.filter keptL).map enc)]) := fun env henv => by
      rw [lc_itemsF tgtF (by simp; omega) (by simp) rfl (fun x acc hx => ?_), tgt_all]
      obtain ⟨l, hl, rfl⟩ := List.mem_map.mp hx
      refine ⟨env.set 7 (some (enc l)), rfl, ?_⟩
      have h7 : (env.set 7 (some (enc l)))[7]? = some (some (enc l)) := by simp [henv]
      cases l <;> simp -implicitDefEqProofs [enc, word, nameOf, third, tgtF, henv, h7]
    have hT2 : (st1 ++ [.lst ((ls.filter keptL).map enc)])[st1.length]? = some (MO.lst ((ls.filter keptL).map enc)) := last_snoc
    have G2 := Gr.app st1 [.lst ((ls.filter keptL).map enc)]
    obtain ⟨T, eT⟩ : ∃ x, x = st1.length := ⟨_, rfl⟩
    obtain ⟨st2, e2⟩ : ∃ x, x = st1 ++ [MO.lst ((ls.filter keptL).map enc)] := ⟨_, rfl⟩
    rw [← e2, ← eT] at hT2 hcomp
    rw [← e2] at G2
    obtain ⟨x20, x21, x22, x23, x24, x25⟩ := it_ix (G2.get (G1.get h))
    obtain ⟨y20, y21, y22⟩ := row_ix (G2.get (G1.get hR))
    obtain ⟨q1, m1, b1⟩ := modC (x := r1) (m := 5) (by omega) st2
    have m1 : gMod (.int r1) (.int 5) st2 = .ok (.int q1) st2 := m1
    by_cases hq1 : q1 = 0
    · obtain ⟨q2, m2, b2⟩ := modC (x := r2) (m := 3) (by omega) st2
      have m2 : gMod (.int r2) (.int 3) st2 = .ok (.int q2) st2 := m2
      obtain ⟨R3, st3, e3, G3, C3⟩ := fin_item (e' := .tup [.str "mod", e, .int (1 + q2)]) (kd' := .int (if 1 + (q2 : Int) < k then 1 + (q2 : Int) else k)) (G2.get hB) ⟨.int _, hl0, by omega, hf0, by omega, by omega, by omega, (WF.mod (1 + (q2 : Int)) I.wf (Nat.le_refl _)).up (by omega) (by omega)⟩
      subst hq1
      have hmn := gMin_two k (1 + q2) st2
      simp -implicitDefEqProofs [y2, hw, x1, x2, x3, x4, x5, ← e1, ← eB, x11, gIsi_int, hcomp, ← eT, y21, m1, y22, m2, x20, x21, hmn, e3, -List.append_assoc]
      exact ⟨(G1.trans G2).trans G3, C3⟩
    · have hq1' : ¬ (q1 : Int) = 0 := by omega
      have hN3 : (st2 ++ [.lst []])[st2.length]? = some (MO.lst []) := last_snoc
      have G3 := Gr.app st2 [.lst []]
      obtain ⟨st3, e3⟩ : ∃ x, x = st2 ++ [MO.lst []] := ⟨_, rfl⟩
      obtain ⟨N, eN⟩ : ∃ x, x = st2.length := ⟨_, rfl⟩
      rw [← e3, ← eN] at hN3
      rw [← e3] at G3
      obtain ⟨x30, x31, x32, x33, x34, x35⟩ := it_ix (G3.get (G2.get (G1.get h)))
      obtain ⟨y30, y31, y32⟩ := row_ix (G3.get (G2.get (G1.get hR)))
      have hT3 := G3.get hT2
      have heq := eq_nil hT3 hN3 (fun l hl => L.nm l ((List.mem_filter.mp hl).1))
      have hTl := gLen_lst hT3
      rw [List.length_map] at hTl
      by_cases hem : (ls.filter keptL).isEmpty = true
      · obtain ⟨q2, m2, b2⟩ := modC (x := r2) (m := 3) (by omega) st3
        have m2 : gMod (.int r2) (.int 3) st3 = .ok (.int q2) st3 := m2
        obtain ⟨R4, st4, e4, G4, C4⟩ := fin_item (e' := .tup [.str "mod", e, .int (1 + q2)]) (kd' := .int (if 1 + (q2 : Int) < k then 1 + (q2 : Int) else k)) (G3.get (G2.get hB)) ⟨.int _, hl0, by omega, hf0, by omega, by omega, by omega, (WF.mod (1 + (q2 : Int)) I.wf (Nat.le_refl _)).up (by omega) (by omega)⟩
        have hmn := gMin_two k (1 + q2) st3
        rw [hem] at heq
        simp -implicitDefEqProofs [y2, hw, x1, x2, x3, x4, x5, ← e1, ← eB, x11, gIsi_int, hcomp, ← eT, y21, m1, hq1, ← e3, ← eN, heq, y32, m2, x30, x31, hmn, e4, -List.append_assoc]
        exact ⟨((G1.trans G2).trans G3).trans G4, C4⟩
      · have hpos : 0 < (ls.filter keptL).length := by
          rw [List.length_pos_iff]
          intro q
          rw [q] at hem
          exact hem rfl
        obtain ⟨q2, m2, b2⟩ := modC (x := r2) (m := (ls.filter keptL).length) hpos st3
        obtain ⟨ly, hly⟩ := get_of b2
        have hlm : ly ∈ ls.filter keptL := List.mem_of_getElem? hly
        have hin : ly ∈ ls := (List.mem_filter.mp hlm).1
        have hkl : keptL ly = true := by simpa using (List.mem_filter.mp hlm).2
        have hix := gIx_lst (st := st3) hT3 (i := (q2 : Int)) (k := q2) (v := enc ly) rfl (by rw [List.getElem?_map, hly]; rfl)
        have hem : (ls.filter keptL).isEmpty = false := by simpa using hem
        rw [hem] at heq
        have G4 := Gr.app st3 [.lst [.int (t + l + 3), .int l, .int f, .int (d + 3)]]
        have hB4 : (st3 ++ [.lst [.int (t + l + 3), .int l, .int f, .int (d + 3)]])[st3.length]? = some (MO.lst [.int (t + l + 3), .int l, .int f, .int (d + 3)]) := last_snoc
        obtain ⟨st4, e4⟩ : ∃ x, x = st3 ++ [MO.lst [.int (t + l + 3), .int l, .int f, .int (d + 3)]] := ⟨_, rfl⟩
        obtain ⟨Bo4, eB4⟩ : ∃ x, x = st3.length := ⟨_, rfl⟩
        rw [← e4, ← eB4] at hB4
        rw [← e4] at G4
        have h4 := G4.get (G3.get (G2.get (G1.get h)))
        have hnm := L.nm ly hin
        have ee0 : ∀ st, gIx (enc ly) (.int 0) st = .ok (.str (word ly)) st := fun st => by simp [enc]
        have ee1 : ∀ st, gIx (enc ly) (.int 1) st = .ok (.str (nameOf ly)) st := fun st => by simp [enc]
        have ee2 : ∀ st, gIx (enc ly) (.int 2) st = .ok (third ly) st := fun st => by simp [enc]
        cases ly with
        | cell nm n =>
          obtain ⟨e', en, W⟩ := number_law h4 I (n : Int)
          obtain ⟨R5, st5, e5, G5, C5⟩ := fin_item (e' := .tup [.str "put", .str nm, e']) (kd' := .int 1) hB4 ⟨.int _, hl0, by omega, hf0, by omega, by omega, by omega, (WF.give "put" nm (.inl rfl) hnm W (Nat.le_refl _)).up (by omega) (by omega)⟩
          simp -implicitDefEqProofs [y2, hw, x1, x2, x3, x4, x5, ← e1, ← eB, x11, gIsi_int, hcomp, ← eT, y21, m1, hq1, ← e3, ← eN, heq, y32, hTl, m2, hix, x32, x33, x34, x35, ← e4, ← eB4, ee0, ee1, ee2, word, nameOf, third, en, e5, -List.append_assoc, -gIx_tup_ap]
          exact ⟨(((G1.trans G2).trans G3).trans G4).trans G5, C5⟩
        | note nm tb =>
          obtain ⟨e', en, W⟩ := number_law h4 I (tb.length : Int)
          obtain ⟨R5, st5, e5, G5, C5⟩ := fin_item (e' := .tup [.str "note", .str nm, e']) (kd' := .int 1) hB4 ⟨.int _, hl0, by omega, hf0, by omega, by omega, by omega, (WF.give "note" nm (.inr rfl) hnm W (Nat.le_refl _)).up (by omega) (by omega)⟩
          simp -implicitDefEqProofs [y2, hw, x1, x2, x3, x4, x5, ← e1, ← eB, x11, gIsi_int, hcomp, ← eT, y21, m1, hq1, ← e3, ← eN, heq, y32, hTl, m2, hix, x32, x33, x34, x35, ← e4, ← eB4, ee0, ee1, ee2, word, nameOf, third, en, e5, -List.append_assoc, -gIx_tup_ap]
          exact ⟨(((G1.trans G2).trans G3).trans G4).trans G5, C5⟩
        | setting nm n => cases hkl
        | fail nm n => cases hkl
        | outside nm ar => cases hkl
end
end K17

set_option Elab.async false
set_option linter.all false
set_option maxRecDepth 100000
set_option autoImplicit false
namespace K17
open PySem BH
def tailB : MS :=
  (sSeq (sIf (mTest (mBin gEq (mBin gMod (mBin gIx (mVar 0) (mC (.int 2))) (mC (.int 2))) (mC (.int 0)))) (sRet (mBin gAdd (mLst (mCons (mTup (mCons (mC (.str "let")) (mCons (mC (.str "x")) (mCons (mCallF m_law_number (mCons (mVar 1) (mCons (mC (.int 2)) mNil)) []) (mCons (mBin gIx (mVar 2) (mC (.int 0))) mNil))))) (mCons (mBin gIx (mVar 2) (mC (.int 1))) mNil))) (mVar 3))) sNext)
    (sRet (mBin gAdd (mLst (mCons (mTup (mCons (mC (.str "let")) (mCons (mC (.str "y")) (mCons (mCallF m_law_number (mCons (mVar 1) (mCons (mC (.int 3)) mNil)) []) (mCons (mBin gIx (mVar 2) (mC (.int 0))) mNil))))) (mCons (mBin gIx (mVar 2) (mC (.int 1))) mNil))) (mVar 3))))
theorem b_binary_eq : b_law_binary = (sSeq (sAsg (mLst (mCons (mBin gAdd (mBin gAdd (mBin gIx (mVar 1) (mC (.int 2))) (mBin gMul (mCallB gMax (mCons (mC (.int 1)) (mCons (mBin gIx (mVar 1) (mC (.int 3))) mNil))) (mBin gIx (mVar 2) (mC (.int 2))))) (mC (.int 3))) (mCons (mBin gMul (mBin gIx (mVar 1) (mC (.int 3))) (mBin gIx (mVar 2) (mC (.int 3)))) (mCons (mBin gAdd (mBin gIx (mVar 1) (mC (.int 4))) (mBin gMul (mBin gIx (mVar 1) (mC (.int 3))) (mBin gIx (mVar 2) (mC (.int 4))))) (mCons (mBin gAdd (mCallB gMax (mCons (mBin gIx (mVar 1) (mC (.int 5))) (mCons (mBin gIx (mVar 2) (mC (.int 5))) mNil))) (mC (.int 3))) mNil))))) (gtName 3))
    (sSeq (sAsg (mAndV (mNotV (mCallB gIsi (mCons (mBin gIx (mVar 1) (mC (.int 1))) (mCons (mC (.ty "tuple")) mNil)))) (mNotV (mCallB gIsi (mCons (mBin gIx (mVar 2) (mC (.int 1))) (mCons (mC (.ty "tuple")) mNil))))) (gtName 4))
    (sSeq (sIf (mAnd (mTest (mBin gEq (mBin gMod (mBin gIx (mVar 0) (mC (.int 1))) (mC (.int 7))) (mC (.int 0)))) (mTru (mVar 4))) (sRet (mBin gAdd (mLst (mCons (mTup (mCons (mC (.str "pair")) (mCons (mBin gIx (mVar 1) (mC (.int 0))) (mCons (mBin gIx (mVar 2) (mC (.int 0))) mNil)))) (mCons (mTup (mCons (mBin gIx (mVar 1) (mC (.int 1))) (mCons (mBin gIx (mVar 2) (mC (.int 1))) mNil))) mNil))) (mVar 3))) sNext)
    (sSeq (sIf (mAnd (mTest (mBin gEq (mBin gMod (mBin gIx (mVar 0) (mC (.int 1))) (mC (.int 7))) (mC (.int 1)))) (mAnd (mTru (mVar 4)) (mTest (mBin gLe (mBin gAdd (mBin gIx (mVar 1) (mC (.int 1))) (mBin gIx (mVar 2) (mC (.int 1)))) (mC (.int 13)))))) (sRet (mBin gAdd (mLst (mCons (mTup (mCons (mC (.str "sum")) (mCons (mBin gIx (mVar 1) (mC (.int 0))) (mCons (mBin gIx (mVar 2) (mC (.int 0))) mNil)))) (mCons (mCallB gMax (mCons (mC (.int 0)) (mCons (mBin gSub (mBin gAdd (mBin gIx (mVar 1) (mC (.int 1))) (mBin gIx (mVar 2) (mC (.int 1)))) (mC (.int 1))) mNil))) mNil))) (mVar 3))) sNext)
    (sSeq (sIf (mAnd (mTest (mBin gEq (mBin gMod (mBin gIx (mVar 0) (mC (.int 1))) (mC (.int 7))) (mC (.int 2)))) (mTru (mVar 4))) (sRet (mBin gAdd (mLst (mCons (mTup (mCons (mC (.str "same")) (mCons (mBin gIx (mVar 1) (mC (.int 0))) (mCons (mBin gIx (mVar 2) (mC (.int 0))) mNil)))) (mCons (mC (.int 2)) mNil))) (mVar 3))) sNext)
    (sSeq (sIf (mAnd (mTru (mCallB gIsi (mCons (mBin gIx (mVar 1) (mC (.int 1))) (mCons (mC (.ty "tuple")) mNil)))) (mTest (mBin gLe (mCallB gMax (mCons (mBin gIx (mVar 1) (mC (.int 1))) mNil)) (mC (.int 2))))) (sRet (mBin gAdd (mLst (mCons (mTup (mCons (mC (.str "let")) (mCons (mC (.str "z")) (mCons (mBin gIx (mVar 1) (mC (.int 0))) (mCons (mBin gIx (mVar 2) (mC (.int 0))) mNil))))) (mCons (mBin gIx (mVar 2) (mC (.int 1))) mNil))) (mVar 3))) sNext)
    tailB)))))) := rfl
section
variable {fs : List Str} {e kd e2 kd2 : MV} {t l f d t2 l2 f2 d2 : Int} {st : Mst} {a b R : Nat} {r0 r1 r2 : Int}
theorem bin_if (I : IF fs e kd t l f d) (J : IF fs e2 kd2 t2 l2 f2 d2) {e' kd' : MV} (hk : Kd kd') (W : WF fs ((mx d d2).toNat + 4) (2 * t + 2 * t2 + 6).toNat XYZ e') :
    IF fs e' kd' (t + mx 1 l * t2 + 3) (l * l2) (f + l * f2) (mx d d2 + 3) := by
  have hM1 := mx_l 1 l
  have hMl := mx_r 1 l
  have a1 := I.l0; have a2 := I.lt; have a3 := I.f0; have a4 := I.ft; have a5 := I.t1; have a6 := I.d0
  have b1 := J.l0; have b2 := J.lt; have b3 := J.f0; have b4 := J.ft; have b5 := J.t1; have b6 := J.d0
  have p1 := Int.mul_le_mul_of_nonneg_right hM1 (show 0 ≤ t2 by omega)
  have p2 := Int.mul_le_mul hMl b2 b1 (show 0 ≤ mx 1 l by omega)
  have p3 := Int.mul_le_mul hMl b4 b3 (show 0 ≤ mx 1 l by omega)
  have p4 := Int.mul_nonneg a1 b1
  have p5 := Int.mul_nonneg a1 b3
  have p6 := mx_l d d2
  exact ⟨hk, p4, by omega, by omega, by omega, by omega, by omega, W.up (by omega) (by omega)⟩
abbrev binB (t l f d t2 l2 f2 d2 : Int) : List MV := [.int (t + mx 1 l * t2 + 3), .int (l * l2), .int (f + l * f2), .int (mx d d2 + 3)]
theorem xyz_ok {x : Str} (h : x = "x" ∨ x = "y" ∨ x = "z") : PyData.strOk x = true := by rcases h with rfl | rfl | rfl <;> decide +kernel
theorem let_wf {x : Str} (hx : x = "x" ∨ x = "y" ∨ x = "z") {e1 : MV} (I : IF fs e kd t l f d) (J : IF fs e2 kd2 t2 l2 f2 d2) (W : WF fs (d.toNat + 3) (2 * t + 2).toNat XYZ e1) : WF fs ((mx d d2).toNat + 4) (2 * t + 2 * t2 + 6).toNat XYZ (lets x e1 e2) := by
  have a5 := I.t1; have a6 := I.d0
  have b5 := J.t1; have b6 := J.d0
  have p6 := mx_l d d2
  have p7 := mx_r d d2
  exact .lets x (xyz_ok hx) (W.up (by omega) (Nat.le_refl _)) (WF.mono (fun _ h => h) _ J.wf (by omega) (Nat.le_refl _) (fun y hy => List.mem_cons_of_mem _ hy)) (by omega)
theorem tailB_ok {o : Option MV} {Bo : Nat} (hR : st[R]? = some (.lst (row3 r0 r1 r2))) (h : st[a]? = some (.lst (itL e kd t l f d))) (h2 : st[b]? = some (.lst (itL e2 kd2 t2 l2 f2 d2))) (I : IF fs e kd t l f d) (J : IF fs e2 kd2 t2 l2 f2 d2)
    (hB : st[Bo]? = some (.lst (binB t l f d t2 l2 f2 d2))) : Post (finB (tailB [some (.ref R), some (.ref a), some (.ref b), some (.ref Bo), o] st)) (Res1 fs st) := by
  obtain ⟨x0, x1, x2, x3, x4, x5⟩ := it_ix h
  obtain ⟨z0, z1, z2, z3, z4, z5⟩ := it_ix h2
  obtain ⟨y0, y1, y2⟩ := row_ix hR
  obtain ⟨q, hq, bq⟩ := modC (x := r2) (m := 2) (by omega) st
  have hq : gMod (.int r2) (.int 2) st = .ok (.int q) st := hq
  unfold tailB
  by_cases h0 : q = 0
  · obtain ⟨e', en, W⟩ := number_law h I 2
    obtain ⟨R5, st5, e5, G5, C5⟩ := fin_item (e' := lets "x" e' e2) (kd' := kd2) hB (bin_if I J J.kd (let_wf (.inl rfl) I J W))
    simp -implicitDefEqProofs [y2, hq, h0, en, z0, z1, e5]
    exact ⟨G5, C5⟩
  · obtain ⟨e', en, W⟩ := number_law h I 3
    obtain ⟨R5, st5, e5, G5, C5⟩ := fin_item (e' := lets "y" e' e2) (kd' := kd2) hB (bin_if I J J.kd (let_wf (.inr (.inl rfl)) I J W))
    simp -implicitDefEqProofs [y2, hq, h0, en, z0, z1, e5]
    exact ⟨G5, C5⟩
theorem binary_ok (hR : st[R]? = some (.lst (row3 r0 r1 r2))) (h : st[a]? = some (.lst (itL e kd t l f d))) (h2 : st[b]? = some (.lst (itL e2 kd2 t2 l2 f2 d2))) (I : IF fs e kd t l f d) (J : IF fs e2 kd2 t2 l2 f2 d2) (hs : t2 ≤ 1000) :
    Post (m_law_binary [.ref R, .ref a, .ref b] st) (Res1 fs st) := by
  obtain ⟨x0, x1, x2, x3, x4, x5⟩ := it_ix h
  obtain ⟨z0, z1, z2, z3, z4, z5⟩ := it_ix h2
  have b1 := J.l0; have b2 := J.lt; have b3 := J.f0; have b4 := J.ft; have b5 := J.t1; have b6 := J.d0
  have a5 := I.t1; have a6 := I.d0
  have m1 := gMul_r (mx 1 l) t2 st (small38 (by omega) (by omega))
  have m2 := gMul_r l l2 st (small38 b1 (by omega))
  have m3 := gMul_r l f2 st (small38 b3 (by omega))
  have g1 := gMax_two 1 l st
  have g2 := gMax_two d d2 st
  have G1 := Gr.app st [.lst (binB t l f d t2 l2 f2 d2)]
  have hB : (st ++ [.lst (binB t l f d t2 l2 f2 d2)])[st.length]? = some (MO.lst (binB t l f d t2 l2 f2 d2)) := last_snoc
  obtain ⟨st1, e1⟩ : ∃ x, x = st ++ [MO.lst (binB t l f d t2 l2 f2 d2)] := ⟨_, rfl⟩
  obtain ⟨Bo, eB⟩ : ∃ x, x = st.length := ⟨_, rfl⟩
  rw [← e1] at G1
  rw [← e1, ← eB] at hB
  simp only [binB] at e1
  have h' := G1.get h
  have h2' := G1.get h2
  have hR' := G1.get hR
  obtain ⟨x10, x11, x12, x13, x14, x15⟩ := it_ix h'
  obtain ⟨z10, z11, z12, z13, z14, z15⟩ := it_ix h2'
  obtain ⟨y10, y11, y12⟩ := row_ix hR'
  obtain ⟨q, hq, bq⟩ := modC (x := r1) (m := 7) (by omega) st1
  have hq : gMod (.int r1) (.int 7) st1 = .ok (.int q) st1 := hq
  have TB := fun o => tailB_ok (o := o) (fs := fs) hR' h' h2' I J hB
  have p6 := mx_l d d2
  have p7 := mx_r d d2
  have W1 := I.wf.up (d' := (mx d d2).toNat + 3) (s' := (2 * t).toNat) (by omega) (Nat.le_refl _)
  have W2 := J.wf.up (d' := (mx d d2).toNat + 3) (s' := (2 * t2).toNat) (by omega) (Nat.le_refl _)
  have fin : ∀ {r : Res MV}, Post r (Res1 fs st1) → Post r (Res1 fs st) := fun h => h.imp fun v s q => ⟨G1.trans q.1, q.2⟩
  rw [m_law_binary, fnM3, b_binary_eq]
  cases hk : I.kd with
  | tup k1 k2 =>
    have gm := gMax_tup k1 k2 st1
    by_cases hm : mx k1 k2 ≤ 2
    · obtain ⟨R5, st5, e5, G5, C5⟩ := fin_item (e' := lets "z" e e2) (kd' := kd2) hB (bin_if I J J.kd (let_wf (.inr (.inr rfl)) I J (I.wf.up (by omega) (by omega))))
      cases hk2 : J.kd with
      | tup j1 j2 =>
        simp -implicitDefEqProofs [x2, x3, g1, z2, m1, z3, m2, x4, z4, m3, x5, z5, g2, ← e1, ← eB, x11, z11, gIsi_tup, gIsi_int, y11, hq, x10, z10, gm, hm, e5]
        exact ⟨G1.trans G5, C5⟩
      | int j1 =>
        simp -implicitDefEqProofs [x2, x3, g1, z2, m1, z3, m2, x4, z4, m3, x5, z5, g2, ← e1, ← eB, x11, z11, gIsi_tup, gIsi_int, y11, hq, x10, z10, gm, hm, e5]
        exact ⟨G1.trans G5, C5⟩
    · cases hk2 : J.kd with
      | tup j1 j2 =>
        simp -implicitDefEqProofs [x2, x3, g1, z2, m1, z3, m2, x4, z4, m3, x5, z5, g2, ← e1, ← eB, x11, z11, gIsi_tup, gIsi_int, y11, hq, x10, z10, gm, hm]
        exact fin (TB _)
      | int j1 =>
        simp -implicitDefEqProofs [x2, x3, g1, z2, m1, z3, m2, x4, z4, m3, x5, z5, g2, ← e1, ← eB, x11, z11, gIsi_tup, gIsi_int, y11, hq, x10, z10, gm, hm]
        exact fin (TB _)
  | int k1 =>
    cases hk2 : J.kd with
    | tup j1 j2 =>
      simp -implicitDefEqProofs [x2, x3, g1, z2, m1, z3, m2, x4, z4, m3, x5, z5, g2, ← e1, ← eB, x11, z11, gIsi_tup, gIsi_int, y11, hq, x10, z10, hq]
      exact fin (TB _)
    | int j1 =>
      by_cases q0 : q = 0
      · obtain ⟨R5, st5, e5, G5, C5⟩ := fin_item (e' := .tup [.str "pair", e, e2]) (kd' := .tup [.int k1, .int j1]) hB (bin_if I J (.tup _ _) ((WF.val "pair" rfl (.two W1 W2) (by simp) (Nat.le_refl _)).up (by omega) (by omega)))
        simp -implicitDefEqProofs [x2, x3, g1, z2, m1, z3, m2, x4, z4, m3, x5, z5, g2, ← e1, ← eB, x11, z11, gIsi_tup, gIsi_int, y11, hq, x10, z10, q0, e5]
        exact ⟨G1.trans G5, C5⟩
      · by_cases q1 : q = 1 ∧ k1 + j1 ≤ 13
        · obtain ⟨q1, q13⟩ := q1
          obtain ⟨R5, st5, e5, G5, C5⟩ := fin_item (e' := .tup [.str "sum", e, e2]) (kd' := .int (mx 0 (k1 + j1 - 1))) hB (bin_if I J (.int _) ((WF.val "sum" rfl (.two W1 W2) (by simp) (Nat.le_refl _)).up (by omega) (by omega)))
          have gm := gMax_two 0 (k1 + j1 - 1) st1
          subst q1
          simp -implicitDefEqProofs [x2, x3, g1, z2, m1, z3, m2, x4, z4, m3, x5, z5, g2, ← e1, ← eB, x11, z11, gIsi_tup, gIsi_int, y11, hq, x10, z10, q13, gm, e5]
          exact ⟨G1.trans G5, C5⟩
        · have skip : q = 1 → ¬ k1 + j1 ≤ 13 := fun a b => q1 ⟨a, b⟩
          by_cases q2 : q = 2
          · obtain ⟨R5, st5, e5, G5, C5⟩ := fin_item (e' := .tup [.str "same", e, e2]) (kd' := .int 2) hB (bin_if I J (.int _) ((WF.val "same" rfl (.two W1 W2) (by simp) (Nat.le_refl _)).up (by omega) (by omega)))
            subst q2
            simp -implicitDefEqProofs [x2, x3, g1, z2, m1, z3, m2, x4, z4, m3, x5, z5, g2, ← e1, ← eB, x11, z11, gIsi_tup, gIsi_int, y11, hq, x10, z10, e5]
            exact ⟨G1.trans G5, C5⟩
          · by_cases q1' : q = 1
            · have := skip q1'
              subst q1'
              simp -implicitDefEqProofs [x2, x3, g1, z2, m1, z3, m2, x4, z4, m3, x5, z5, g2, ← e1, ← eB, x11, z11, gIsi_tup, gIsi_int, y11, hq, x10, z10, this]
              exact fin (TB _)
            · have q1i : ¬ (q : Int) = 1 := by omega
              have q2i : ¬ (q : Int) = 2 := by omega
              simp -implicitDefEqProofs [x2, x3, g1, z2, m1, z3, m2, x4, z4, m3, x5, z5, g2, ← e1, ← eB, x11, z11, gIsi_tup, gIsi_int, y11, hq, x10, z10, q0, q1i, q2i, q1', q2]
              exact fin (TB _)
end
end K17

set_option Elab.async false
set_option linter.all false
set_option maxRecDepth 100000
set_option autoImplicit false
/-! k17, plain law: rounds, tries, choices, calls. -/
namespace K17
open PySem BH
theorem gIs_kd {v : MV} (h : Kd v) (st : Mst) : gIs false v .non st = .ok (.bl false) st := by cases h <;> rfl
theorem gIs_non (st : Mst) : gIs false .non .non st = .ok (.bl true) st := rfl
section
variable {fs : List Str} {e kd e2 kd2 e3 kd3 : MV} {t l f d t2 l2 f2 d2 t3 l3 f3 d3 : Int} {st : Mst} {a b c R : Nat} {r0 r1 r2 : Int} {ls : List Lay}
theorem both_law (h : st[a]? = some (.lst (itL e kd t l f d))) (h2 : st[b]? = some (.lst (itL e2 kd2 t2 l2 f2 d2))) (hk : Kd kd) (hk2 : Kd kd2) : ∃ k, m_law_both [.ref a, .ref b] st = .ok k st ∧ (k = .non ∨ Kd k) := by
  obtain ⟨x0, x1, x2, x3, x4, x5⟩ := it_ix h
  obtain ⟨z0, z1, z2, z3, z4, z5⟩ := it_ix h2
  rw [m_law_both, fnM2, b_law_both]
  cases hk with
  | int k =>
    cases hk2 with
    | int j => exact ⟨.int (mx k j), by simp -implicitDefEqProofs [x1, z1, gIsi_int, gMax_two], .inr (.int _)⟩
    | tup j1 j2 => exact ⟨.non, by simp -implicitDefEqProofs [x1, z1, gIsi_int, gIsi_tup], .inl rfl⟩
  | tup k1 k2 =>
    cases hk2 with
    | int j => exact ⟨.non, by simp -implicitDefEqProofs [x1, z1, gIsi_int, gIsi_tup], .inl rfl⟩
    | tup j1 j2 => exact ⟨.tup [.int (mx k1 j1), .int (mx k2 j2)], by simp -implicitDefEqProofs [x1, z1, gIsi_tup, gMax_two], .inr (.tup _ _)⟩
theorem if_ok (h : st[a]? = some (.lst (itL e kd t l f d))) (h2 : st[b]? = some (.lst (itL e2 kd2 t2 l2 f2 d2))) (h3 : st[c]? = some (.lst (itL e3 kd3 t3 l3 f3 d3))) (I : IF fs e kd t l f d) (J : IF fs e2 kd2 t2 l2 f2 d2) (K : IF fs e3 kd3 t3 l3 f3 d3)
    (s2 : t2 ≤ 1000) (s3 : t3 ≤ 1000) (s1 : t ≤ 1000) : Post (m_law_if [.ref a, .ref b, .ref c] st) (fun v st' => Gr st st' ∧ (v = .non ∨ Cand fs st' v)) := by
  obtain ⟨x0, x1, x2, x3, x4, x5⟩ := it_ix h
  obtain ⟨z0, z1, z2, z3, z4, z5⟩ := it_ix h2
  obtain ⟨w0', w1', w2, w3, w4, w5⟩ := it_ix h3
  have a1 := I.l0; have a2 := I.lt; have a3 := I.f0; have a4 := I.ft; have a5 := I.t1; have a6 := I.d0
  have b1 := J.l0; have b2 := J.lt; have b3 := J.f0; have b4 := J.ft; have b5 := J.t1; have b6 := J.d0
  have c1 := K.l0; have c2 := K.lt; have c3 := K.f0; have c4 := K.ft; have c5 := K.t1; have c6 := K.d0
  obtain ⟨k, hk, hk2⟩ := both_law h2 h3 J.kd K.kd
  rw [m_law_if, fnM3, b_law_if]
  rcases hk2 with rfl | hkk
  · simp -implicitDefEqProofs [hk, gIs_non]
    exact .refl _
  · have gk := gIs_kd hkk
    have hM1 := mx_l 1 l
    have hMl := mx_r 1 l
    have n1 := mx_l l2 l3; have n2 := mx_l f2 f3
    have n3 := mx_le (k := t2 + t3) (show l2 ≤ t2 + t3 by omega) (show l3 ≤ t2 + t3 by omega)
    have n4 := mx_le (k := t2 + t3) (show f2 ≤ t2 + t3 by omega) (show f3 ≤ t2 + t3 by omega)
    have p1 := Int.mul_le_mul_of_nonneg_right hM1 (show 0 ≤ t2 + t3 by omega)
    have p2 := Int.mul_le_mul hMl n3 (show 0 ≤ mx l2 l3 by omega) (show 0 ≤ mx 1 l by omega)
    have p3 := Int.mul_le_mul hMl n4 (show 0 ≤ mx f2 f3 by omega) (show 0 ≤ mx 1 l by omega)
    have p4 := Int.mul_nonneg a1 (show 0 ≤ mx l2 l3 by omega)
    have p5 := Int.mul_nonneg a1 (show 0 ≤ mx f2 f3 by omega)
    have q1 := mx_l d d2; have q2 := mx_r d d2; have q3 := mx_l (mx d d2) d3; have q4 := mx_r (mx d d2) d3
    have m1 := gMul_r (mx 1 l) (t2 + t3) st (small38 (by omega) (by omega))
    have m2 := gMul_l l (mx l2 l3) st (small38 a1 (by omega))
    have m3 := gMul_l l (mx f2 f3) st (small38 a1 (by omega))
    have g1 := gMax_two 1 l st
    have g2 := gMax_two l2 l3 st
    have g3 := gMax_two f2 f3 st
    have g4 := gMax_three d d2 d3 st
    cases hkd : I.kd with
    | tup k1 k2 =>
      simp -implicitDefEqProofs [hk, gk, x1, gIsi_tup]
      exact .refl _
    | int k1 =>
      have hB : (st ++ [.lst [.int (t + mx 1 l * (t2 + t3) + 1), .int (l * mx l2 l3), .int (f + l * mx f2 f3), .int (mx (mx d d2) d3 + 1)]])[st.length]? = some (MO.lst [.int (t + mx 1 l * (t2 + t3) + 1), .int (l * mx l2 l3), .int (f + l * mx f2 f3), .int (mx (mx d d2) d3 + 1)]) := last_snoc
      have G1 := Gr.app st [.lst [.int (t + mx 1 l * (t2 + t3) + 1), .int (l * mx l2 l3), .int (f + l * mx f2 f3), .int (mx (mx d d2) d3 + 1)]]
      obtain ⟨st1, e1⟩ : ∃ x, x = st ++ [MO.lst [.int (t + mx 1 l * (t2 + t3) + 1), .int (l * mx l2 l3), .int (f + l * mx f2 f3), .int (mx (mx d d2) d3 + 1)]] := ⟨_, rfl⟩
      obtain ⟨Bo, eB⟩ : ∃ x, x = st.length := ⟨_, rfl⟩
      rw [← e1] at G1
      rw [← e1, ← eB] at hB
      obtain ⟨x10, x11, x12, x13, x14, x15⟩ := it_ix (G1.get h)
      obtain ⟨z10, z11, z12, z13, z14, z15⟩ := it_ix (G1.get h2)
      obtain ⟨w10, w11, w12, w13, w14, w15⟩ := it_ix (G1.get h3)
      have W : WF fs ((mx (mx d d2) d3 + 1).toNat + 1) (2 * (t + mx 1 l * (t2 + t3) + 1)).toNat XYZ (ite e e2 e3) :=
        WF.up (WF.ite (d := (mx (mx d d2) d3).toNat + 1) (I.wf.up (by omega) (Nat.le_refl _)) (J.wf.up (by omega) (Nat.le_refl _)) (K.wf.up (by omega) (Nat.le_refl _)) (Nat.le_refl _)) (by omega) (by omega)
      obtain ⟨R5, st5, e5, G5, C5⟩ := fin_item (e' := ite e e2 e3) (kd' := k) hB ⟨hkk, p4, by omega, by omega, by omega, by omega, by omega, W⟩
      simp -implicitDefEqProofs [hk, gk, x1, gIsi_int, x2, x3, x4, x5, z2, z3, z4, z5, w2, w3, w4, w5, g1, m1, g2, m2, g3, m3, g4, ← e1, ← eB, x10, z10, w10, e5]
      exact ⟨G1.trans G5, C5⟩
theorem round_ok (hR : st[R]? = some (.lst (row3 r0 r1 r2))) (h : st[a]? = some (.lst (itL e kd t l f d))) (h2 : st[b]? = some (.lst (itL e2 kd2 t2 l2 f2 d2))) (I : IF fs e kd t l f d) (J : IF fs e2 kd2 t2 l2 f2 d2) (s2 : t2 ≤ 1000) :
    Post (m_law_round [.ref R, .ref a, .ref b] st) (Res1 fs st) := by
  obtain ⟨x0, x1, x2, x3, x4, x5⟩ := it_ix h
  obtain ⟨z0, z1, z2, z3, z4, z5⟩ := it_ix h2
  obtain ⟨y0, y1, y2⟩ := row_ix hR
  have a1 := I.l0; have a2 := I.lt; have a3 := I.f0; have a4 := I.ft; have a5 := I.t1; have a6 := I.d0
  have b1 := J.l0; have b2 := J.lt; have b3 := J.f0; have b4 := J.ft; have b5 := J.t1; have b6 := J.d0
  obtain ⟨q, hq, bq⟩ := modC (x := r2) (m := 3) (by omega) st
  have hq : gMod (.int r2) (.int 3) st = .ok (.int q) st := hq
  rw [m_law_round, fnM3, b_law_round]
  have r := rngOf1_nat (j := (1 : Int) + q) (n := 1 + q) (st := st) (by omega) (by omega)
  simp -implicitDefEqProofs [y2, hq, x2, x3, x4, r]
  refine .finB (.bind (.range (fun i env st' => ∃ T L F o7 o8, env = [some (.ref R), some (.ref a), some (.ref b), some (.int (1 + q)), some (.int T), some (.int L), some (.int F), o7, o8] ∧ st' = st ∧ 0 ≤ L ∧ L ≤ T ∧ 0 ≤ F ∧ F ≤ T ∧ t + 3 + (if i = 0 then 0 else t2 + 2) ≤ T)
    ⟨_, _, _, _, _, rfl, rfl, a1, by omega, a3, by omega, by simp⟩ rfl ?_ ?_))
  · rintro i env st' hi ⟨T, L, F, o7, o8, rfl, rfl, l1, l2', f1, f2', t1'⟩
    refine ⟨_, _, rfl, ?_⟩
    have m1 := gMul_r L f2 st' (small38 b3 (by omega))
    have m2 := gMul_r (mx 1 L) (t2 + 2) st' (small38 (by omega) (by omega))
    have m3 := gMul_r L l2 st' (small38 b1 (by omega))
    have g1 := gMax_two 1 L st'
    have hM1 := mx_l 1 L
    have hMl := mx_r 1 L
    have p1 := Int.mul_le_mul_of_nonneg_right hM1 (show 0 ≤ t2 + 2 by omega)
    have p2 := Int.mul_le_mul hMl (show l2 ≤ t2 + 2 by omega) b1 (show 0 ≤ mx 1 L by omega)
    have p3 := Int.mul_le_mul hMl (show f2 ≤ t2 + 2 by omega) b3 (show 0 ≤ mx 1 L by omega)
    have p4 := Int.mul_nonneg l1 b1
    have p5 := Int.mul_nonneg l1 b3
    refine .nx (env := [some (.ref R), some (.ref a), some (.ref b), some (.int (1 + q)), some (.int (T + mx 1 L * (t2 + 2))), some (.int (L * l2)), some (.int (F + L * f2)), some (.int (0 + (i : Int))), o8]) (st := st') ?_ ⟨_, _, _, _, _, rfl, rfl, p4, by omega, by omega, by omega, ?_⟩
    · simp -implicitDefEqProofs [z4, m1, g1, z2, m2, z3, m3]
    · rw [if_neg (by omega)]
      split at t1' <;> omega
  · rintro env st' ⟨T, L, F, o7, o8, rfl, rfl, l1, l2', f1, f2', t1'⟩
    rw [if_neg (by omega)] at t1'
    obtain ⟨ea, ena, Wa⟩ := number_law h I 2
    obtain ⟨eb, enb, Wb⟩ := number_law h2 J 2
    have q1 := mx_l d d2; have q2 := mx_r d d2
    have g2 := gMax_two d d2 st'
    have W : WF fs ((mx d d2 + 3).toNat + 1) (2 * T).toNat XYZ (rep (1 + q) "x" ea eb) :=
      WF.up (WF.rep (d := (mx d d2).toNat + 3) (1 + q) "x" (xyz_ok (.inl rfl)) (Wa.up (by omega) (Nat.le_refl _)) (WF.mono (fun _ h => h) _ Wb (by omega) (Nat.le_refl _) (fun y hy => List.mem_cons_of_mem _ hy)) (Nat.le_refl _)) (by omega) (by omega)
    simp -implicitDefEqProofs [x5, z5, g2, ena, enb]
    exact ⟨.app _ _, _, _, _, _, _, _, _, rfl, last_snoc, .int _, l1, l2', f1, f2', by omega, by omega, W⟩
end
end K17

set_option Elab.async false
set_option linter.all false
set_option maxRecDepth 100000
set_option autoImplicit false
namespace K17
open PySem BH
/-- a function's item -/
structure FI (fs : List Str) (e kd : MV) (t l f d : Int) : Prop where
  kd : Kd kd
  l0 : 0 ≤ l
  lt : l ≤ t
  f0 : 0 ≤ f
  ft : f ≤ t
  t1 : 1 ≤ t
  tm : t ≤ 1000
  wf : ∃ s, WF fs 20 s XYZ e
/-- the law's list of functions -/
def FL (fs : List Str) (st : Mst) (xs : List MV) : Prop := xs.length = fs.length ∧ ∀ (i : Nat) (x : MV), xs[i]? = some x → ∃ (nm : Str) (a : Nat) (e kd : MV) (t l f d : Int), x = .tup [.str nm, .ref a] ∧ fs[i]? = some nm ∧ PyData.strOk nm = true ∧ st[a]? = some (.lst (itL e kd t l f d)) ∧ FI fs e kd t l f d
theorem FL.old {fs : List Str} {st st' : Mst} {xs : List MV} (h : FL fs st xs) (g : Old st st') : FL fs st' xs := by
  refine ⟨h.1, fun i x hx => ?_⟩
  obtain ⟨nm, a, e, kd, t, l, f, d, h1, h2, h3, h4, h5⟩ := h.2 i x hx
  exact ⟨nm, a, e, kd, t, l, f, d, h1, h2, h3, g _ _ h4, h5⟩
section
variable {fs : List Str} {e kd e2 kd2 : MV} {t l f d t2 l2 f2 d2 : Int} {st : Mst} {a b R : Nat} {r0 r1 r2 : Int} {ls : List Lay}
theorem call_ok {Fa : Nat} {xs : List MV} (hR : st[R]? = some (.lst (row3 r0 r1 r2))) (h : st[a]? = some (.lst (itL e kd t l f d))) (h2 : st[b]? = some (.lst (itL e2 kd2 t2 l2 f2 d2))) (I : IF fs e kd t l f d) (J : IF fs e2 kd2 t2 l2 f2 d2) (s1 : t ≤ 1000) (s2 : t2 ≤ 1000)
    (hF : st[Fa]? = some (.lst xs)) (F : FL fs st xs) (hpos : 0 < xs.length) :
    Post (m_law_call [.ref R, .ref a, .ref b, .ref Fa] st) (Res1 fs st) := by
  obtain ⟨x0, x1, x2, x3, x4, x5⟩ := it_ix h
  obtain ⟨z0, z1, z2, z3, z4, z5⟩ := it_ix h2
  obtain ⟨y0, y1, y2⟩ := row_ix hR
  have a1 := I.l0; have a2 := I.lt; have a3 := I.f0; have a4 := I.ft; have a5 := I.t1; have a6 := I.d0
  have b1 := J.l0; have b2 := J.lt; have b3 := J.f0; have b4 := J.ft; have b5 := J.t1; have b6 := J.d0
  obtain ⟨q, hq, bq⟩ := modC (x := r2) (m := xs.length) hpos st
  obtain ⟨x, hx⟩ := get_of bq
  obtain ⟨nm, ia, e3, kd3, t3, l3, f3, d3, rfl, hfs, ho, hi, K⟩ := F.2 q x hx
  obtain ⟨w0', w1', w2, w3, w4, w5⟩ := it_ix hi
  have c1 := K.l0; have c2 := K.lt; have c3 := K.f0; have c4 := K.ft; have c5 := K.t1; have c6 := K.tm
  have hlen := gLen_lst hF
  have hix := gIx_lst (st := st) hF (i := (q : Int)) (k := q) rfl hx
  have m1 := gMul_r l l2 st (small38 b1 (by omega))
  have m2 := gMul_r (mx 1 l) (t2 + 5) st (small38 (by omega) (by omega))
  have m3 := gMul_r (mx 1 (l * l2)) t3 st (small38 (by omega) (by omega))
  have m4 := gMul_r l f2 st (small38 b3 (by omega))
  have m5 := gMul_r (l * l2) f3 st (small38 c3 (by omega))
  have m6 := gMul_r (l * l2) l3 st (small38 c1 (by omega))
  have g1 := gMax_two 1 l st
  have g2 := gMax_two 1 (l * l2) st
  have g3 := gMax_two d d2 st
  obtain ⟨ea, ena, Wa⟩ := number_law h I 2
  obtain ⟨eb, enb, Wb⟩ := number_law h2 J 3
  have q1 := mx_l d d2; have q2 := mx_r d d2
  have hM1 := mx_l 1 l; have hMl := mx_r 1 l
  have hN1 := mx_l 1 (l * l2); have hNl := mx_r 1 (l * l2)
  have p0 := Int.mul_nonneg a1 b1
  have p1 := Int.mul_le_mul_of_nonneg_right hM1 (show 0 ≤ t2 + 5 by omega)
  have p2 := Int.mul_le_mul_of_nonneg_right hN1 (show 0 ≤ t3 by omega)
  have p3 := Int.mul_le_mul hNl c2 c1 (show 0 ≤ mx 1 (l * l2) by omega)
  have p4 := Int.mul_le_mul hNl c4 c3 (show 0 ≤ mx 1 (l * l2) by omega)
  have p5 := Int.mul_le_mul hMl (show f2 ≤ t2 + 5 by omega) b3 (show 0 ≤ mx 1 l by omega)
  have p6 := Int.mul_nonneg p0 c1
  have p7 := Int.mul_nonneg p0 c3
  have p8 := Int.mul_nonneg a1 b3
  rw [m_law_call, fnM4, b_law_call]
  have hd : ((mx d d2).toNat + 3) + 1 ≤ ((mx d d2 + 3).toNat + 1) := by omega
  have W : WF fs ((mx d d2 + 3).toNat + 1) (2 * (t + mx 1 l * (t2 + 5) + mx 1 (l * l2) * t3)).toNat XYZ (callE nm [ea, eb]) :=
    WF.up (WF.call (d := (mx d d2).toNat + 3) nm (List.mem_of_getElem? hfs) (.two (Wa.up (by omega) (Nat.le_refl _)) (Wb.up (by omega) (Nat.le_refl _))) (by simp) (Nat.le_refl _)) hd (by omega)
  simp -implicitDefEqProofs [y2, hlen, hq, hix, x3, z3, m1, x2, z2, g1, m2, g2, w2, m3, ena, enb, x4, z4, m4, w4, m5, w1', w3, m6, x5, z5, g3]
  exact ⟨.app _ _, _, _, _, _, _, _, _, rfl, last_snoc, K.kd, p6, by omega, by omega, by omega, by omega, by omega, W⟩
theorem try_ok (hR : st[R]? = some (.lst (row3 r0 r1 r2))) (h : st[a]? = some (.lst (itL e kd t l f d))) (h2 : st[b]? = some (.lst (itL e2 kd2 t2 l2 f2 d2))) (I : IF fs e kd t l f d) (J : IF fs e2 kd2 t2 l2 f2 d2) (s1 : t ≤ 1000) (s2 : t2 ≤ 1000)
    (L : LaysOk ls) : Post (m_law_try [.ref R, .ref a, .ref b, .tup (ls.map enc)] st) (fun v st' => Gr st st' ∧ (v = .non ∨ Cand fs st' v)) := by
  have a1 := I.l0; have a2 := I.lt; have a3 := I.f0; have a4 := I.ft; have a5 := I.t1; have a6 := I.d0
  have b1 := J.l0; have b2 := J.lt; have b3 := J.f0; have b4 := J.ft; have b5 := J.t1; have b6 := J.d0
  have hls := L.len
  rw [m_law_try, fnM4, b_law_try]
  have hT1 : (st ++ [.lst []])[st.length]? = some (MO.lst ([].map enc)) := last_snoc
  have r := rngOf1_nat (j := (ls.length : Int)) (n := ls.length) (st := st ++ [.lst []]) rfl (by omega)
  simp -implicitDefEqProofs [r]
  refine .finB (.bind (.range (fun i env st' => ∃ T tl many o6 o7 o8 o9 o10 o11, env = [some (.ref R), some (.ref a), some (.ref b), some (.tup (ls.map enc)), some (.ref T), some (.int many), o6, o7, o8, o9, o10, o11] ∧ Gr st st' ∧ st.length ≤ T ∧ st'[T]? = some (.lst (tl.map enc)) ∧
    (∀ x ∈ tl, x ∈ ls ∧ ∃ nm n, x = .fail nm n) ∧ tl.length ≤ i ∧ 1 ≤ many ∧ many ≤ 3 ^ i) ⟨st.length, [], _, _, _, _, _, _, _, rfl, .app _ _, Nat.le_refl _, hT1, by simp, by simp, by omega, by simp⟩ rfl ?_ ?_))
  · rintro i env st' hi ⟨T, tl, many, o6, o7, o8, o9, o10, o11, rfl, G, hTs, hT, htl, htn, hm1, hm2⟩
    refine ⟨_, _, rfl, ?_⟩
    obtain ⟨ly, hly⟩ := get_of hi
    have hin : ly ∈ ls := List.mem_of_getElem? hly
    have hix : ∀ st, gIx (.tup (ls.map enc)) (.int (i : Int)) st = .ok (enc ly) st := fun st => by simp [hly]
    have ee0 : ∀ st, gIx (enc ly) (.int 0) st = .ok (.str (word ly)) st := fun st => by simp [enc]
    have ee2 : ∀ st, gIx (enc ly) (.int 2) st = .ok (third ly) st := fun st => by simp [enc]
    have h3 : (3 : Int) ^ (i + 1) = 3 ^ i * 3 := Int.pow_succ 3 i
    have hpow : (0 : Int) < 3 ^ i := Int.pow_pos (by omega)
    cases ly with
    | setting nm n =>
      refine .nx (env := [some (.ref R), some (.ref a), some (.ref b), some (.tup (ls.map enc)), some (.ref T), some (.int many), some (.int (0 + (i : Int))), o7, o8, o9, o10, o11]) (st := st') ?_ ⟨T, tl, many, _, _, _, _, _, _, rfl, G, hTs, hT, htl, by omega, hm1, by omega⟩
      simp -implicitDefEqProofs [hix, ee0, word, -gIx_tup_ap]
    | note nm tb =>
      refine .nx (env := [some (.ref R), some (.ref a), some (.ref b), some (.tup (ls.map enc)), some (.ref T), some (.int many), some (.int (0 + (i : Int))), o7, o8, o9, o10, o11]) (st := st') ?_ ⟨T, tl, many, _, _, _, _, _, _, rfl, G, hTs, hT, htl, by omega, hm1, by omega⟩
      simp -implicitDefEqProofs [hix, ee0, word, -gIx_tup_ap]
    | outside nm ar =>
      refine .nx (env := [some (.ref R), some (.ref a), some (.ref b), some (.tup (ls.map enc)), some (.ref st'.length), some (.int many), some (.int (0 + (i : Int))), o7, o8, o9, o10, o11]) (st := st' ++ [.lst []]) ?_ ⟨st'.length, [], many, _, _, _, _, _, _, rfl, G.trans (.app _ _), G.len, last_snoc, by simp, by simp, hm1, by omega⟩
      simp -implicitDefEqProofs [hix, ee0, word, -gIx_tup_ap]
    | fail nm n =>
      have ht := tyM_lst hT
      have ha := gAppend_lst (y := enc (.fail nm n)) hT (by simp; omega)
      refine .nx (env := [some (.ref R), some (.ref a), some (.ref b), some (.tup (ls.map enc)), some (.ref T), some (.int many), some (.int (0 + (i : Int))), o7, o8, o9, o10, o11]) (st := st'.set T (.lst (tl.map enc ++ [enc (.fail nm n)]))) ?_
        ⟨T, tl ++ [.fail nm n], many, _, _, _, _, _, _, rfl, G.set hTs, hTs, by rw [get_set hT]; simp, ?_, by simp; omega, hm1, by omega⟩
      · simp -implicitDefEqProofs [hix, ee0, word, ht, ha, -gIx_tup_ap]
      · intro x hx
        rcases List.mem_append.mp hx with hx | hx
        · exact htl x hx
        · rw [List.mem_singleton.mp hx]; exact ⟨hin, nm, n, rfl⟩
    | cell nm n =>
      have hk := (L.ok _ hin).2
      simp only [kindL, decide_eq_true_eq] at hk
      have hmul := gMul_r many (n : Int) st' (small38 (by omega) (by omega))
      have p1 := Int.mul_le_mul hm2 (show (n : Int) ≤ 3 by omega) (show (0 : Int) ≤ n by omega) (Int.le_of_lt hpow)
      have p2 := Int.mul_le_mul hm1 (show (1 : Int) ≤ n by omega) (by omega) (show 0 ≤ many by omega)
      refine .nx (env := [some (.ref R), some (.ref a), some (.ref b), some (.tup (ls.map enc)), some (.ref T), some (.int (many * n)), some (.int (0 + (i : Int))), o7, o8, o9, o10, o11]) (st := st') ?_ ⟨T, tl, many * n, _, _, _, _, _, _, rfl, G, hTs, hT, htl, by omega, by omega, by omega⟩
      simp -implicitDefEqProofs [hix, ee0, ee2, word, third, hmul, -gIx_tup_ap]
  · rintro env st' ⟨T, tl, many, o6, o7, o8, o9, o10, o11, rfl, G, hTs, hT, htl, htn, hm1, hm2⟩
    have hmany : many ≤ 243 := by
      have : (3 : Int) ^ ls.length ≤ 3 ^ 5 := by
        have hc : ls.length = 0 ∨ ls.length = 1 ∨ ls.length = 2 ∨ ls.length = 3 ∨ ls.length = 4 ∨ ls.length = 5 := by omega
        rcases hc with hc | hc | hc | hc | hc | hc <;> rw [hc] <;> decide
      have : (3 : Int) ^ 5 = 243 := by decide
      omega
    have h' := G.get h
    have h2' := G.get h2
    have hR' := G.get hR
    obtain ⟨k, hk, hk2⟩ := both_law h' h2' I.kd J.kd
    have G3 := Gr.app st' [.lst []]
    have hN3 : (st' ++ [.lst []])[st'.length]? = some (MO.lst []) := last_snoc
    obtain ⟨st3, e3⟩ : ∃ x, x = st' ++ [MO.lst []] := ⟨_, rfl⟩
    obtain ⟨N, eN⟩ : ∃ x, x = st'.length := ⟨_, rfl⟩
    rw [← e3, ← eN] at hN3
    rw [← e3] at G3
    have hT3 := G3.get hT
    have heq := eq_nil hT3 hN3 (fun x hx => L.nm x (htl x hx).1)
    by_cases hem : tl.isEmpty = true
    · rw [hem] at heq
      simp -implicitDefEqProofs [hk, ← e3, ← eN, heq]
      exact G.trans G3
    · have hem' : tl.isEmpty = false := by simpa using hem
      rw [hem'] at heq
      rcases hk2 with rfl | hkk
      · simp -implicitDefEqProofs [hk, ← e3, ← eN, heq, gIs_non]
        exact G.trans G3
      · have gk := gIs_kd hkk
        have hpos : 0 < tl.length := by
          rw [List.length_pos_iff]
          intro q
          rw [q] at hem
          exact hem rfl
        have hTl := gLen_lst hT3
        rw [List.length_map] at hTl
        obtain ⟨x0, x1, x2, x3, x4, x5⟩ := it_ix (G3.get h')
        obtain ⟨z0, z1, z2, z3, z4, z5⟩ := it_ix (G3.get h2')
        obtain ⟨y0, y1, y2⟩ := row_ix (G3.get hR')
        obtain ⟨q2, m2, b2'⟩ := modC (x := r2) (m := tl.length) hpos st3
        obtain ⟨ly, hly⟩ := get_of b2'
        obtain ⟨hin, nm, n, rfl⟩ := htl ly (List.mem_of_getElem? hly)
        have hix := gIx_lst (st := st3) hT3 (i := (q2 : Int)) (k := q2) (v := enc (.fail nm n)) rfl (by rw [List.getElem?_map, hly]; rfl)
        have hkl := (L.ok _ hin).2
        simp only [kindL, decide_eq_true_eq] at hkl
        obtain ⟨q3, m3, b3'⟩ := modC (x := r1) (m := n) (by omega) st3
        have ee1 : ∀ st, gIx (enc (.fail nm n)) (.int 1) st = .ok (.str nm) st := fun st => by simp [enc, nameOf]
        have ee2 : ∀ st, gIx (enc (.fail nm n)) (.int 2) st = .ok (.int n) st := fun st => by simp [enc, third]
        have s0 := small38 (i := many) (by omega) (by omega)
        have n1 := gMul_l 3 l st3 (by decide)
        have n2 := gMul_r (1 + f) (3 + t2) st3 (small38 (by omega) (by omega))
        have n3 := gMul_l many (2 + t + 3 * l + (1 + f) * (3 + t2)) st3 s0
        have n4 := gMul_r f l2 st3 (small38 b1 (by omega))
        have n5 := gMul_l many (l + f * l2) st3 s0
        have n6 := gMul_r f f2 st3 (small38 b3 (by omega))
        have n7 := gMul_l many (f + f * f2) st3 s0
        have gm := gMax_two d d2 st3
        have q1 := mx_l d d2; have q2' := mx_r d d2
        have ex : (1 + f) * (3 + t2) = 3 + t2 + f * (3 + t2) := by rw [Int.add_mul, Int.one_mul]
        have p1 := Int.mul_le_mul_of_nonneg_left (show l2 ≤ 3 + t2 by omega) a3
        have p2 := Int.mul_le_mul_of_nonneg_left (show f2 ≤ 3 + t2 by omega) a3
        have p3 := Int.mul_nonneg a3 b1
        have p4 := Int.mul_nonneg a3 b3
        have p5 := Int.mul_le_mul_of_nonneg_left (show l + f * l2 ≤ 2 + t + 3 * l + (1 + f) * (3 + t2) by omega) (show 0 ≤ many by omega)
        have p6 := Int.mul_le_mul_of_nonneg_left (show f + f * f2 ≤ 2 + t + 3 * l + (1 + f) * (3 + t2) by omega) (show 0 ≤ many by omega)
        have p7 := Int.mul_le_mul_of_nonneg_right hm1 (show 0 ≤ 2 + t + 3 * l + (1 + f) * (3 + t2) by omega)
        have p8 := Int.mul_nonneg (show 0 ≤ many by omega) (show 0 ≤ l + f * l2 by omega)
        have p9 := Int.mul_nonneg (show 0 ≤ many by omega) (show 0 ≤ f + f * f2 by omega)
        have hnm := L.nm _ hin
        have W : WF fs ((mx d d2 + 1).toNat + 1) (2 * (many * (2 + t + 3 * l + (1 + f) * (3 + t2)))).toNat XYZ (tri nm q3 e e2) :=
          WF.up (WF.tri (d := (mx d d2).toNat + 1) nm q3 hnm (I.wf.up (by omega) (Nat.le_refl _)) (J.wf.up (by omega) (Nat.le_refl _)) (Nat.le_refl _)) (by omega) (by omega)
        simp -implicitDefEqProofs [hk, ← e3, ← eN, heq, gk, y2, hTl, m2, hix, ee1, y1, ee2, m3, x0, z0, x2, n1, x3, x4, z2, n2, n3, z3, n4, n5, z4, n6, n7, x5, z5, gm, -gIx_tup_ap]
        exact ⟨(G.trans G3).trans (.app _ _), ⟨_, _, _, _, _, _, _, rfl, last_snoc, hkk, p8, by omega, p9, by omega, by omega, by omega, W⟩⟩
end
end K17

set_option Elab.async false
set_option linter.all false
set_option maxRecDepth 100000
set_option autoImplicit false
/-! k17, plain law: leaves. -/
namespace K17
open PySem BH
theorem Item.set {fs : List Str} {st : Mst} {v : MV} {P : Nat} {ps : List MV} {o : MO} (h : Item fs st v) (hP : st[P]? = some (.lst ps)) (hr : ∀ x ∈ ps, ∃ a, x = .ref a) : Item fs (st.set P o) v := by
  obtain ⟨a, e, kd, t, l, f, d, rfl, h1, I, h3⟩ := h
  refine ⟨a, e, kd, t, l, f, d, rfl, get_set_ne h1 ?_, I, h3⟩
  rintro rfl
  rw [h1] at hP
  cases hP
  obtain ⟨b, hb⟩ := hr e (by simp)
  obtain ⟨ys, hy⟩ := I.wf.tup
  rw [hy] at hb
  cases hb
theorem Item.ref {fs : List Str} {st : Mst} {v : MV} (h : Item fs st v) : ∃ a, v = .ref a := by
  obtain ⟨a, e, kd, t, l, f, d, rfl, _⟩ := h
  exact ⟨a, rfl⟩
def Its (fs : List Str) (st : Mst) (xs : List MV) : Prop := ∀ v ∈ xs, Item fs st v
theorem Its.refs {fs : List Str} {st : Mst} {xs : List MV} (h : Its fs st xs) : ∀ x ∈ xs, ∃ a, x = .ref a := fun x hx => (h x hx).ref
theorem Its.gr {fs : List Str} {st st' : Mst} {xs : List MV} (h : Its fs st xs) (g : Gr st st') : Its fs st' xs := fun v hv => (h v hv).gr g
theorem Its.set {fs : List Str} {st : Mst} {xs : List MV} {P : Nat} {ps : List MV} {o : MO} (h : Its fs st xs) (hP : st[P]? = some (.lst ps)) (hr : ∀ x ∈ ps, ∃ a, x = .ref a) : Its fs (st.set P o) xs := fun v hv => (h v hv).set hP hr
/-- a list of items that is being made -/
structure Lvs (fs : List Str) (st0 : Mst) (Lv : Nat) (st : Mst) : Prop where
  gr : Gr st0 st
  ge : st0.length ≤ Lv
  at_ : ∃ xs, st[Lv]? = some (MO.lst xs) ∧ xs ≠ [] ∧ xs.length < 1000000 ∧ Its fs st xs
def leafO (e kd : MV) (t l f d : Int) : MO := .lst (itL e kd t l f d)
theorem leaf_if {fs : List Str} {e kd : MV} {t l f d : Int} (hk : Kd kd) (W : WF fs 1 1 XYZ e) (h : 0 ≤ l ∧ l ≤ t ∧ 0 ≤ f ∧ f ≤ t ∧ 1 ≤ t ∧ 0 ≤ d) : IF fs e kd t l f d :=
  ⟨hk, h.1, h.2.1, h.2.2.1, h.2.2.2.1, h.2.2.2.2.1, h.2.2.2.2.2, W.up (by omega) (by omega)⟩
def lvL1 : MS := (sFor (iRange1 (mCons (mDGet2 (mDC [("choose", 1), ("spread", 1), ("twochoose", 2), ("mixed", 1)]) (mVar 0) (mC (.int 0))) mNil)) (gtName 3) (sExpr (mBM "list" gAppend (mVar 2) (mCons (mLst (mCons (mTup (mCons (mC (.str "choose")) (mCons (mVar 3) mNil))) (mCons (mC (.int 2)) (mCons (mC (.int 3)) (mCons (mC (.int 2)) (mCons (mC (.int 0)) (mCons (mC (.int 1)) mNil))))))) mNil))))
def lvL2 : MS := (sFor (iRange1 (mCons (mDGet2 (mDC [("draw", 1), ("spread", 1), ("twodraw", 2), ("mixed", 1)]) (mVar 0) (mC (.int 0))) mNil)) (gtName 3) (sSeq (sExpr (mBM "list" gAppend (mVar 2) (mCons (mLst (mCons (mTup (mCons (mC (.str "draw")) (mCons (mVar 3) (mCons (mC (.int 1)) (mCons (mC (.int 2)) mNil))))) (mCons (mC (.int 2)) (mCons (mC (.int 3)) (mCons (mC (.int 2)) (mCons (mC (.int 0)) (mCons (mC (.int 1)) mNil))))))) mNil)))
    (sExpr (mBM "list" gAppend (mVar 2) (mCons (mLst (mCons (mTup (mCons (mC (.str "draw")) (mCons (mVar 3) (mCons (mC (.int 2)) (mCons (mC (.int 5)) mNil))))) (mCons (mC (.int 2)) (mCons (mC (.int 3)) (mCons (mC (.int 2)) (mCons (mC (.int 0)) (mCons (mC (.int 1)) mNil))))))) mNil)))))
def lvL3 : MS := (sFor (iOf (mVar 1)) (gtName 4) (sSeq (sIf (mTest (mBin gEq (mBin gIx (mVar 4) (mC (.int 0))) (mC (.str "cell")))) (sExpr (mBM "list" gAppend (mVar 2) (mCons (mLst (mCons (mTup (mCons (mC (.str "get")) (mCons (mBin gIx (mVar 4) (mC (.int 1))) mNil))) (mCons (mBin gIx (mVar 4) (mC (.int 2))) (mCons (mBin gAdd (mC (.int 1)) (mBin gIx (mVar 4) (mC (.int 2)))) (mCons (mBin gIx (mVar 4) (mC (.int 2))) (mCons (mC (.int 0)) (mCons (mC (.int 1)) mNil))))))) mNil))) sNext)
    (sSeq (sIf (mTest (mBin gEq (mBin gIx (mVar 4) (mC (.int 0))) (mC (.str "setting")))) (sExpr (mBM "list" gAppend (mVar 2) (mCons (mLst (mCons (mTup (mCons (mC (.str "look")) (mCons (mBin gIx (mVar 4) (mC (.int 1))) mNil))) (mCons (mBin gIx (mVar 4) (mC (.int 2))) (mCons (mBin gAdd (mC (.int 1)) (mBin gIx (mVar 4) (mC (.int 2)))) (mCons (mBin gIx (mVar 4) (mC (.int 2))) (mCons (mC (.int 0)) (mCons (mC (.int 1)) mNil))))))) mNil))) sNext)
    (sSeq (sIf (mTest (mBin gEq (mBin gIx (mVar 4) (mC (.int 0))) (mC (.str "fail")))) (sExpr (mBM "list" gAppend (mVar 2) (mCons (mLst (mCons (mTup (mCons (mC (.str "fail")) (mCons (mBin gIx (mVar 4) (mC (.int 1))) (mCons (mBin gSub (mBin gIx (mVar 4) (mC (.int 2))) (mC (.int 1))) mNil)))) (mCons (mC (.int 0)) (mCons (mC (.int 1)) (mCons (mC (.int 0)) (mCons (mC (.int 1)) (mCons (mC (.int 1)) mNil))))))) mNil))) sNext)
    (sIf (mTest (mBin gEq (mBin gIx (mVar 4) (mC (.int 0))) (mC (.str "outside")))) (sFor (iRange1 (mCons (mCallB gLen (mCons (mBin gIx (mVar 4) (mC (.int 2))) mNil)) mNil)) (gtName 5) (sSeq (sAsg (mBin gIx (mBin gIx (mVar 4) (mC (.int 2))) (mVar 5)) (gtName 6))
    (sExpr (mBM "list" gAppend (mVar 2) (mCons (mLst (mCons (mTup (mCons (mC (.str "ask")) (mCons (mBin gIx (mVar 4) (mC (.int 1))) (mCons (mVar 5) mNil)))) (mCons (mVar 6) (mCons (mBin gAdd (mC (.int 1)) (mVar 6)) (mCons (mVar 6) (mCons (mC (.int 0)) (mCons (mC (.int 1)) mNil))))))) mNil))))) sNext)))))
theorem b_leaves_eq : b_law_leaves = sSeq (sAsg (mLc (iRange1 (mCons (mC (.int 3)) mNil)) [7] (.nm 7) mYes (mLst (mCons (mTup (mCons (mC (.str "num")) (mCons (mVar 7) mNil))) (mCons (mBin gAdd (mVar 7) (mC (.int 1))) (mCons (mC (.int 1)) (mCons (mC (.int 1)) (mCons (mC (.int 0)) (mCons (mC (.int 0)) mNil)))))))) (gtName 2)) (sSeq (sAsg (mBin gAdd (mVar 2) (mLst (mCons (mLst (mCons (mTup (mCons (mC (.str "var")) (mCons (mC (.str "x")) mNil))) (mCons (mC (.int 2)) (mCons (mC (.int 1)) (mCons (mC (.int 1)) (mCons (mC (.int 0)) (mCons (mC (.int 0)) mNil))))))) (mCons (mLst (mCons (mTup (mCons (mC (.str "var")) (mCons (mC (.str "y")) mNil))) (mCons (mC (.int 3)) (mCons (mC (.int 1)) (mCons (mC (.int 1)) (mCons (mC (.int 0)) (mCons (mC (.int 0)) mNil))))))) (mCons (mLst (mCons (mTup (mCons (mC (.str "var")) (mCons (mC (.str "z")) mNil))) (mCons (mTup (mCons (mC (.int 2)) (mCons (mC (.int 2)) mNil))) (mCons (mC (.int 1)) (mCons (mC (.int 1)) (mCons (mC (.int 0)) (mCons (mC (.int 0)) mNil))))))) mNil))))) (gtName 2)) (sSeq lvL1 (sSeq lvL2 (sSeq lvL3 (sRet (mVar 2)))))) := rfl
section
variable {fs : List Str} {st0 st : Mst} {Lv : Nat}
/-- items.append([..]) -/
theorem Lvs.push {xs : List MV} {e kd : MV} {t l f d : Int} (h : Lvs fs st0 Lv st) (hx : st[Lv]? = some (.lst xs)) (hl : xs.length + 1 < 1000000) (I : IF fs e kd t l f d) (ht : t ≤ 38) (hd : d ≤ 15) :
    ∃ st2, gAppend (.ref Lv) [.ref st.length] (st ++ [MO.lst (itL e kd t l f d)]) = .ok .non st2 ∧ tyM "list" (.ref Lv) st = true ∧
    Lvs fs st0 Lv st2 ∧ st2[Lv]? = some (.lst (xs ++ [.ref st.length])) := by
  have hx' : (st ++ [.lst (itL e kd t l f d)])[Lv]? = some (.lst xs) := up hx
  obtain ⟨gr, ge, xs', hx2, hne, hlen, hit⟩ := h
  rw [hx] at hx2
  cases hx2
  have hit' := (hit.gr (.app st [.lst (itL e kd t l f d)])).set (o := .lst (xs ++ [.ref st.length])) hx' hit.refs
  refine ⟨_, gAppend_lst hx' (by omega), tyM_lst hx, ⟨(gr.trans (.app _ _)).set ge, ge, _, get_set hx', by simp, by simp; omega, fun v hv => ?_⟩, get_set hx'⟩
  rcases List.mem_append.mp hv with hv | hv
  · exact hit' v hv
  · rw [List.mem_singleton.mp hv]
    refine ⟨st.length, e, kd, t, l, f, d, rfl, ?_, I, ht, hd⟩
    exact get_set_ne last_snoc (by have := lt_of hx; omega)
theorem choose_n : ∀ kn ∈ kernels, ∃ c : Nat, c ≤ 2 ∧ (lookK (mergeM [] ([(("choose" : Str), (1 : Int)), ("spread", 1), ("twochoose", 2), ("mixed", 1)].map fun kv => (.inr kv.1, .int kv.2))) (.inr (Str.ofString kn))).getD (.int 0) = .int c := by
  intro kn hk
  simp only [kernels, List.mem_cons, List.not_mem_nil, or_false] at hk
  rcases hk with rfl | rfl | rfl | rfl | rfl | rfl | rfl
  · exact ⟨0, by omega, by simp [lookK, mergeM, putKM]⟩
  · exact ⟨1, by omega, by simp [lookK, mergeM, putKM]⟩
  · exact ⟨0, by omega, by simp [lookK, mergeM, putKM]⟩
  · exact ⟨1, by omega, by simp [lookK, mergeM, putKM]⟩
  · exact ⟨2, by omega, by simp [lookK, mergeM, putKM]⟩
  · exact ⟨0, by omega, by simp [lookK, mergeM, putKM]⟩
  · exact ⟨1, by omega, by simp [lookK, mergeM, putKM]⟩
theorem draw_n : ∀ kn ∈ kernels, ∃ c : Nat, c ≤ 2 ∧ (lookK (mergeM [] ([(("draw" : Str), (1 : Int)), ("spread", 1), ("twodraw", 2), ("mixed", 1)].map fun kv => (.inr kv.1, .int kv.2))) (.inr (Str.ofString kn))).getD (.int 0) = .int c := by
  intro kn hk
  simp only [kernels, List.mem_cons, List.not_mem_nil, or_false] at hk
  rcases hk with rfl | rfl | rfl | rfl | rfl | rfl | rfl
  · exact ⟨0, by omega, by simp [lookK, mergeM, putKM]⟩
  · exact ⟨0, by omega, by simp [lookK, mergeM, putKM]⟩
  · exact ⟨1, by omega, by simp [lookK, mergeM, putKM]⟩
  · exact ⟨1, by omega, by simp [lookK, mergeM, putKM]⟩
  · exact ⟨0, by omega, by simp [lookK, mergeM, putKM]⟩
  · exact ⟨2, by omega, by simp [lookK, mergeM, putKM]⟩
  · exact ⟨1, by omega, by simp [lookK, mergeM, putKM]⟩
theorem three_ok (env : BH.Env) (henv : env.length = 8) (st : Mst) : lcL (srcRange 0 3) (.nm 7) mYes (mLst (mCons (mTup (mCons (mC (.str "num")) (mCons (mVar 7) mNil))) (mCons (mBin gAdd (mVar 7) (mC (.int 1))) (mCons (mC (.int 1)) (mCons (mC (.int 1)) (mCons (mC (.int 0)) (mCons (mC (.int 0)) mNil))))))) env st.length 4 0 (st ++ [.lst []]) =
    .ok (.ref st.length) (st ++ [.lst [.ref (st.length + 1), .ref (st.length + 2), .ref (st.length + 3)], .lst (itL (.tup [.str "num", .int 0]) (.int 1) 1 1 0 0), .lst (itL (.tup [.str "num", .int 1]) (.int 2) 1 1 0 0), .lst (itL (.tup [.str "num", .int 2]) (.int 3) 1 1 0 0)]) := by
  have h7 : ∀ x : MV, (env.set 7 (some x))[7]? = some (some x) := fun x => by simp [henv]
  simp -implicitDefEqProofs [lcL, srcRange, h7, lappend, henv]
theorem strXYZ {x : String} (h : (x : Str) ∈ XYZ) : WF fs 1 1 XYZ (.tup [.str "var", .str x]) := .var x h (strOk_ofString x) (by omega)
theorem Lvs.more {xs : List MV} (D : List (L2.Key × MV)) (h : Lvs fs st0 Lv st) (hx : st[Lv]? = some (.lst xs)) : Lvs fs st0 Lv (st ++ [.dct D]) ∧ (st ++ [.dct D])[Lv]? = some (.lst xs) := by
  obtain ⟨gr, ge, xs', hx2, hne, hlen, hit⟩ := h
  exact ⟨⟨gr.trans (.app _ _), ge, xs', up hx2, hne, hlen, hit.gr (.app _ _)⟩, up hx⟩
/-- where the list stands and how long it is at most -/
def Lw (fs : List Str) (st0 : Mst) (Lv n : Nat) (st : Mst) : Prop := Lvs fs st0 Lv st ∧ ∃ xs, st[Lv]? = some (.lst xs) ∧ xs.length ≤ n
theorem Lw.push {n : Nat} {e kd : MV} {t l f d : Int} (h : Lw fs st0 Lv n st) (hl : n < 1000) (I : IF fs e kd t l f d) (ht : t ≤ 38) (hd : d ≤ 15) :
    ∃ st2, gAppend (.ref Lv) [.ref st.length] (st ++ [MO.lst (itL e kd t l f d)]) = .ok .non st2 ∧ tyM "list" (.ref Lv) st = true ∧ Lw fs st0 Lv (n + 1) st2 := by
  obtain ⟨h1, xs, hx, hlen⟩ := h
  obtain ⟨st2, a1, a2, a3, a4⟩ := h1.push hx (by omega) I ht hd
  exact ⟨st2, a1, a2, a3, _, a4, by simp; omega⟩
theorem Lw.more {n : Nat} (D : List (L2.Key × MV)) (h : Lw fs st0 Lv n st) : Lw fs st0 Lv n (st ++ [.dct D]) := by
  obtain ⟨h1, xs, hx, hlen⟩ := h
  obtain ⟨a1, a2⟩ := h1.more D hx
  exact ⟨a1, xs, a2, hlen⟩
theorem Lw.mono {n n' : Nat} (h : Lw fs st0 Lv n st) (hn : n ≤ n') : Lw fs st0 Lv n' st := by
  obtain ⟨h1, xs, hx, hlen⟩ := h
  exact ⟨h1, xs, hx, by omega⟩
abbrev lvE (kn : String) (ls : List Lay) (Lv : Nat) (o3 o4 o5 o6 o7 : Option MV) : BH.Env := [some (.str (Str.ofString kn)), some (.tup (ls.map enc)), some (.ref Lv), o3, o4, o5, o6, o7]
theorem lv1_ok {kn : String} {ls : List Lay} {o3 o4 o5 o6 o7 : Option MV} (hk : kn ∈ kernels) (h : Lw fs st0 Lv 6 st) :
    Post (lvL1 (lvE kn ls Lv o3 o4 o5 o6 o7) st) (fun fl st' => ∃ o3, fl = .nx (lvE kn ls Lv o3 o4 o5 o6 o7) ∧ Lw fs st0 Lv 8 st') := by
  obtain ⟨c, hc, dc⟩ := choose_n kn hk
  have r1 : ∀ st, rngOf1 [.int (c : Int)] st = .ok (srcRange 0 c) st := fun st => rngOf1_nat rfl (by omega)
  obtain ⟨D, eD⟩ : ∃ x, x = mergeM [] ([(("choose" : Str), (1 : Int)), ("spread", 1), ("twochoose", 2), ("mixed", 1)].map fun kv => (.inr kv.1, .int kv.2)) := ⟨_, rfl⟩
  rw [← eD] at dc
  have hd : dctOf (st ++ [.dct D]) (.ref st.length) = some _ := dctOf_dct last_snoc
  simp only [List.map_cons, List.map_nil] at eD
  have h' := h.more D
  unfold lvL1
  simp -implicitDefEqProofs [← eD, hd, dc, r1]
  refine .range (fun i env st' => (∃ o3, env = lvE kn ls Lv o3 o4 o5 o6 o7) ∧ Lw fs st0 Lv (6 + i) st') ⟨⟨_, rfl⟩, h'⟩ rfl ?_ ?_
  · rintro i env st' hi ⟨⟨o3, rfl⟩, hw⟩
    refine ⟨_, _, rfl, ?_⟩
    obtain ⟨st2, a1, a2, a3⟩ := hw.push (by omega) (leaf_if (e := .tup [.str "choose", .int (i : Int)]) (t := 3) (l := 2) (f := 0) (d := 1) (.int 2) (.piece "choose" [(i : Int)] (.inl rfl) (by simp) (by omega)) (by omega)) (by omega) (by omega)
    refine .nx (env := lvE kn ls Lv (some (.int (0 + (i : Int)))) o4 o5 o6 o7) (st := st2) ?_ ⟨⟨_, rfl⟩, a3⟩
    simp -implicitDefEqProofs [a1, a2]
  · rintro env st' ⟨⟨o3, rfl⟩, hw⟩
    exact ⟨⟨_, rfl⟩, hw.mono (by omega)⟩
theorem lv2_ok {kn : String} {ls : List Lay} {o3 o4 o5 o6 o7 : Option MV} (hk : kn ∈ kernels) (h : Lw fs st0 Lv 8 st) :
    Post (lvL2 (lvE kn ls Lv o3 o4 o5 o6 o7) st) (fun fl st' => ∃ o3, fl = .nx (lvE kn ls Lv o3 o4 o5 o6 o7) ∧ Lw fs st0 Lv 12 st') := by
  obtain ⟨c, hc, dc⟩ := draw_n kn hk
  have r1 : ∀ st, rngOf1 [.int (c : Int)] st = .ok (srcRange 0 c) st := fun st => rngOf1_nat rfl (by omega)
  obtain ⟨D, eD⟩ : ∃ x, x = mergeM [] ([(("draw" : Str), (1 : Int)), ("spread", 1), ("twodraw", 2), ("mixed", 1)].map fun kv => (.inr kv.1, .int kv.2)) := ⟨_, rfl⟩
  rw [← eD] at dc
  have hd : dctOf (st ++ [.dct D]) (.ref st.length) = some _ := dctOf_dct last_snoc
  simp only [List.map_cons, List.map_nil] at eD
  have h' := h.more D
  unfold lvL2
  simp -implicitDefEqProofs [← eD, hd, dc, r1]
  refine .range (fun i env st' => (∃ o3, env = lvE kn ls Lv o3 o4 o5 o6 o7) ∧ Lw fs st0 Lv (8 + 2 * i) st') ⟨⟨_, rfl⟩, h'⟩ rfl ?_ ?_
  · rintro i env st' hi ⟨⟨o3, rfl⟩, hw⟩
    refine ⟨_, _, rfl, ?_⟩
    obtain ⟨st2, a1, a2, a3⟩ := hw.push (by omega) (leaf_if (e := .tup [.str "draw", .int (i : Int), .int 1, .int 2]) (t := 3) (l := 2) (f := 0) (d := 1) (.int 2) (.piece "draw" [(i : Int), 1, 2] (.inr rfl) (by simp) (by omega)) (by omega)) (by omega) (by omega)
    obtain ⟨st3, b1, b2, b3⟩ := a3.push (by omega) (leaf_if (e := .tup [.str "draw", .int (i : Int), .int 2, .int 5]) (t := 3) (l := 2) (f := 0) (d := 1) (.int 2) (.piece "draw" [(i : Int), 2, 5] (.inr rfl) (by simp) (by omega)) (by omega)) (by omega) (by omega)
    refine .nx (env := lvE kn ls Lv (some (.int (0 + (i : Int)))) o4 o5 o6 o7) (st := st3) ?_ ⟨⟨_, rfl⟩, b3⟩
    simp -implicitDefEqProofs [a1, a2, b1, b2]
  · rintro env st' ⟨⟨o3, rfl⟩, hw⟩
    exact ⟨⟨_, rfl⟩, hw.mono (by omega)⟩
theorem lv3_ok {kn : String} {ls : List Lay} {o3 o4 o5 o6 o7 : Option MV} (L : LaysOk ls) (h : Lw fs st0 Lv 12 st) :
    Post (lvL3 (lvE kn ls Lv o3 o4 o5 o6 o7) st) (fun fl st' => ∃ o4 o5 o6, fl = .nx (lvE kn ls Lv o3 o4 o5 o6 o7) ∧ Lw fs st0 Lv 100 st') := by
  have hls := L.len
  unfold lvL3
  simp -implicitDefEqProofs
  refine .items (fun i env st' => (∃ o4 o5 o6, env = lvE kn ls Lv o3 o4 o5 o6 o7) ∧ Lw fs st0 Lv (12 + 2 * i) st') ⟨⟨_, _, _, rfl⟩, h⟩ (by simp) ?_ ?_
  · rintro i x env st' hx ⟨⟨o4, o5, o6, rfl⟩, hw⟩
    rw [List.getElem?_map] at hx
    obtain ⟨ly, hly, rfl⟩ := Option.map_eq_some_iff.mp hx
    have hi : i < ls.length := (List.getElem?_eq_some_iff.mp hly).1
    have hin : ly ∈ ls := List.mem_of_getElem? hly
    have hnm := L.nm _ hin
    have hkl := (L.ok _ hin).2
    refine ⟨lvE kn ls Lv o3 (some (enc ly)) o5 o6 o7, st', rfl, ?_⟩
    cases ly with
    | cell nm n =>
      simp only [kindL, decide_eq_true_eq] at hkl
      obtain ⟨st2, a1, a2, a3⟩ := hw.push (by omega) (leaf_if (e := .tup [.str "get", .str nm]) (t := 1 + n) (l := n) (f := 0) (d := 1) (.int n) (.lay "get" nm [] rfl hnm (by simp) (by omega)) (by omega)) (by omega) (by omega)
      refine .nx (env := lvE kn ls Lv o3 (some (enc (.cell nm n))) o5 o6 o7) (st := st2) ?_ ⟨⟨_, _, _, rfl⟩, a3.mono (by omega)⟩
      simp -implicitDefEqProofs [enc, word, nameOf, third, a1, a2]
    | setting nm n =>
      simp only [kindL, decide_eq_true_eq] at hkl
      obtain ⟨st2, a1, a2, a3⟩ := hw.push (by omega) (leaf_if (e := .tup [.str "look", .str nm]) (t := 1 + n) (l := n) (f := 0) (d := 1) (.int n) (.lay "look" nm [] rfl hnm (by simp) (by omega)) (by omega)) (by omega) (by omega)
      refine .nx (env := lvE kn ls Lv o3 (some (enc (.setting nm n))) o5 o6 o7) (st := st2) ?_ ⟨⟨_, _, _, rfl⟩, a3.mono (by omega)⟩
      simp -implicitDefEqProofs [enc, word, nameOf, third, a1, a2]
    | fail nm n =>
      simp only [kindL, decide_eq_true_eq] at hkl
      obtain ⟨st2, a1, a2, a3⟩ := hw.push (by omega) (leaf_if (e := .tup [.str "fail", .str nm, .int ((n : Int) - 1)]) (t := 1) (l := 0) (f := 1) (d := 1) (.int 0) (.lay "fail" nm [(n : Int) - 1] rfl hnm (by simp) (by omega)) (by omega)) (by omega) (by omega)
      refine .nx (env := lvE kn ls Lv o3 (some (enc (.fail nm n))) o5 o6 o7) (st := st2) ?_ ⟨⟨_, _, _, rfl⟩, a3.mono (by omega)⟩
      simp -implicitDefEqProofs [enc, word, nameOf, third, a1, a2]
    | note nm tb =>
      refine .nx (env := lvE kn ls Lv o3 (some (enc (.note nm tb))) o5 o6 o7) (st := st') ?_ ⟨⟨_, _, _, rfl⟩, hw.mono (by omega)⟩
      simp -implicitDefEqProofs [enc, word, nameOf, third]
    | outside nm ar =>
      simp only [kindL, Bool.and_eq_true, decide_eq_true_eq, List.all_eq_true] at hkl
      have r1 : ∀ st, rngOf1 [.int (ar.length : Int)] st = .ok (srcRange 0 ar.length) st := fun st => rngOf1_nat rfl (by omega)
      have hl : ∀ st, gLen [nats ar] st = .ok (.int ar.length) st := fun st => by simp [nats]
      refine .of ?_
      simp -implicitDefEqProofs [enc, word, nameOf, third, hl, r1]
      refine .range (fun j env st2 => (∃ o5 o6, env = lvE kn ls Lv o3 (some (enc (.outside nm ar))) o5 o6 o7) ∧ Lw fs st0 Lv (12 + 2 * i + j) st2) ⟨⟨_, _, rfl⟩, hw⟩ rfl ?_ ?_
      · rintro j env st2 hj ⟨⟨o5, o6, rfl⟩, hw2⟩
        refine ⟨_, _, rfl, ?_⟩
        obtain ⟨w, hwj⟩ := get_of hj
        have hwv := hkl.2 w (List.mem_of_getElem? hwj)
        have hix : ∀ st, gIx (nats ar) (.int (j : Int)) st = .ok (.int w) st := fun st => by simp [nats, hwj]
        obtain ⟨st3, a1, a2, a3⟩ := hw2.push (by omega) (leaf_if (e := .tup [.str "ask", .str nm, .int (j : Int)]) (t := 1 + w) (l := w) (f := 0) (d := 1) (.int w) (.lay "ask" nm [(j : Int)] rfl hnm (by simp) (by omega)) (by omega)) (by omega) (by omega)
        refine .nx (env := lvE kn ls Lv o3 (some (enc (.outside nm ar))) (some (.int (0 + (j : Int)))) (some (.int w)) o7) (st := st3) ?_ ⟨⟨_, _, rfl⟩, a3⟩
        simp -implicitDefEqProofs [enc, word, nameOf, third, hix, a1, a2]
      · rintro env st2 ⟨⟨o5, o6, rfl⟩, hw2⟩
        exact ⟨_, rfl, ⟨_, _, _, rfl⟩, hw2.mono (by omega)⟩
  · rintro env st' ⟨⟨o4, o5, o6, rfl⟩, hw⟩
    exact ⟨⟨_, _, _, rfl⟩, hw.mono (by simp; omega)⟩
theorem leaves_ok {kn : String} {ls : List Lay} (hk : kn ∈ kernels) (L : LaysOk ls) (st : Mst) : Post (m_law_leaves [.str kn, .tup (ls.map enc)] st) (fun v st' => ∃ Lv, v = .ref Lv ∧ Lvs fs st Lv st') := by
  rw [m_law_leaves, fnM2, b_leaves_eq]
  have r3 : ∀ st, rngOf1 [.int 3] st = .ok (srcRange 0 3) st := fun st => rfl
  have h3 := fun env (he : env.length = 8) => three_ok env he st
  obtain ⟨st1, e1⟩ : ∃ x, x = st ++ [MO.lst [.ref (st.length + 1), .ref (st.length + 2), .ref (st.length + 3)], .lst (itL (.tup [.str "num", .int 0]) (.int 1) 1 1 0 0), .lst (itL (.tup [.str "num", .int 1]) (.int 2) 1 1 0 0), .lst (itL (.tup [.str "num", .int 2]) (.int 3) 1 1 0 0)] := ⟨_, rfl⟩
  rw [← e1] at h3
  have hA : st1[st.length]? = some (MO.lst [.ref (st.length + 1), .ref (st.length + 2), .ref (st.length + 3)]) := by rw [e1]; simp
  have i1 : st1[st.length + 1]? = some (MO.lst (itL (.tup [.str "num", .int 0]) (.int 1) 1 1 0 0)) := by rw [e1, List.getElem?_append_right (by omega)]; simp
  have i2 : st1[st.length + 2]? = some (MO.lst (itL (.tup [.str "num", .int 1]) (.int 2) 1 1 0 0)) := by rw [e1, List.getElem?_append_right (by omega)]; simp
  have i3 : st1[st.length + 3]? = some (MO.lst (itL (.tup [.str "num", .int 2]) (.int 3) 1 1 0 0)) := by rw [e1, List.getElem?_append_right (by omega)]; simp
  have G1 : Gr st st1 := by rw [e1]; exact .app _ _
  obtain ⟨st2, e2⟩ : ∃ x, x = st1 ++ [MO.lst (itL (.tup [.str "var", .str "x"]) (.int 2) 1 1 0 0), .lst (itL (.tup [.str "var", .str "y"]) (.int 3) 1 1 0 0), .lst (itL (.tup [.str "var", .str "z"]) (.tup [.int 2, .int 2]) 1 1 0 0)] := ⟨_, rfl⟩
  have G2 : Gr st1 st2 := by rw [e2]; exact .app _ _
  have j1 : st2[st1.length]? = some (MO.lst (itL (.tup [.str "var", .str "x"]) (.int 2) 1 1 0 0)) := by rw [e2]; simp
  have j2 : st2[st1.length + 1]? = some (MO.lst (itL (.tup [.str "var", .str "y"]) (.int 3) 1 1 0 0)) := by rw [e2, List.getElem?_append_right (by omega)]; simp
  have j3 : st2[st1.length + 2]? = some (MO.lst (itL (.tup [.str "var", .str "z"]) (.tup [.int 2, .int 2]) 1 1 0 0)) := by rw [e2, List.getElem?_append_right (by omega)]; simp
  have el : st2.length = st1.length + 3 := by rw [e2]; simp
  have hcat : gAdd (.ref st.length) (.ref st2.length) (st2 ++ [.lst [.ref st1.length, .ref (st1.length + 1), .ref (st1.length + 1 + 1)]]) = _ := gAdd_lst (up (G2.get hA)) last_snoc (by simp)
  obtain ⟨xs0, ex0⟩ : ∃ x, x = [MV.ref (st.length + 1), .ref (st.length + 2), .ref (st.length + 3)] ++ [MV.ref st1.length, .ref (st1.length + 1), .ref (st1.length + 1 + 1)] := ⟨_, rfl⟩
  obtain ⟨st3, e3⟩ : ∃ x, x = st2 ++ [MO.lst [.ref st1.length, .ref (st1.length + 1), .ref (st1.length + 1 + 1)]] ++ [MO.lst xs0] := ⟨_, rfl⟩
  obtain ⟨Lv, eLv⟩ : ∃ x, x = (st2 ++ [MO.lst [.ref st1.length, .ref (st1.length + 1), .ref (st1.length + 1 + 1)]]).length := ⟨_, rfl⟩
  rw [← ex0, ← e3, ← eLv] at hcat
  have G3 : Gr st2 st3 := by rw [e3]; exact (Gr.app _ _).trans (.app _ _)
  have hLv : st3[Lv]? = some (.lst xs0) := by rw [e3, eLv]; exact last_snoc
  have G13 := (G1.trans G2).trans G3
  have hge : st.length ≤ Lv := by rw [eLv]; have := (G1.trans G2).len; simp; omega
  have LV0 : Lvs fs st Lv st3 := by
    refine ⟨G13, hge, xs0, hLv, by rw [ex0]; simp, by rw [ex0]; simp, fun v hv => ?_⟩
    rw [ex0] at hv
    simp only [List.cons_append, List.nil_append, List.mem_cons, List.not_mem_nil, or_false] at hv
    rcases hv with rfl | rfl | rfl | rfl | rfl | rfl
    · exact ⟨_, _, _, _, _, _, _, rfl, G3.get (G2.get i1), leaf_if (.int _) (.num _ (by omega)) (by omega), by omega, by omega⟩
    · exact ⟨_, _, _, _, _, _, _, rfl, G3.get (G2.get i2), leaf_if (.int _) (.num _ (by omega)) (by omega), by omega, by omega⟩
    · exact ⟨_, _, _, _, _, _, _, rfl, G3.get (G2.get i3), leaf_if (.int _) (.num _ (by omega)) (by omega), by omega, by omega⟩
    · exact ⟨_, _, _, _, _, _, _, rfl, G3.get j1, leaf_if (.int _) (strXYZ (by simp)) (by omega), by omega, by omega⟩
    · exact ⟨_, _, _, _, _, _, _, rfl, G3.get j2, leaf_if (.int _) (strXYZ (by simp)) (by omega), by omega, by omega⟩
    · exact ⟨_, _, _, _, _, _, _, rfl, G3.get j3, leaf_if (.tup _ _) (strXYZ (by simp)) (by omega), by omega, by omega⟩
  have hx0 : xs0.length = 6 := by rw [ex0]; rfl
  have W0 : Lw fs st Lv 6 st3 := ⟨LV0, xs0, hLv, by omega⟩
  obtain ⟨fl, st4, p1, o3, rfl, W1⟩ := lv1_ok (ls := ls) (o3 := none) (o4 := none) (o5 := none) (o6 := none) (o7 := none) hk W0
  obtain ⟨fl, st5, p2, o3', rfl, W2⟩ := lv2_ok (ls := ls) (o3 := o3) (o4 := none) (o5 := none) (o6 := none) (o7 := none) hk W1
  obtain ⟨fl, st6, p3, o4, o5, o6, rfl, W3⟩ := lv3_ok (kn := kn) (ls := ls) (o3 := o3') (o4 := none) (o5 := none) (o6 := none) (o7 := none) L W2
  have e3' : st2 ++ [MO.lst [.ref st1.length, .ref (st1.length + 1), .ref (st1.length + 1 + 1)], MO.lst xs0] = st3 := by rw [e3]; simp
  rw [el, e2] at hcat
  simp only [List.append_assoc, List.cons_append, List.nil_append] at hcat
  simp -implicitDefEqProofs [r3, h3, hcat, p1, p2, p3]
  exact W3.1
end
end K17

set_option Elab.async false
set_option linter.all false
set_option maxRecDepth 100000
set_option autoImplicit false
/-! k17, plain law: one turn. -/
namespace K17
open PySem BH
theorem dat_ints (st : Mst) : ∀ (xs : List Int) (n : Nat), 1 ≤ n → ∃ ps, optAll (dat st n) (xs.map .int) = some ps
  | [], _, _ => ⟨[], rfl⟩
  | x :: xs, n, h => by
    obtain ⟨ps, hp⟩ := dat_ints st xs n h
    obtain ⟨m, rfl⟩ : ∃ m, n = m + 1 := ⟨n - 1, by omega⟩
    exact ⟨.int x :: ps, by simp only [List.map_cons, optAll, hp]; rfl⟩
theorem dat_s {st : Mst} {n : Nat} {x : Str} (h : PyData.strOk x = true) (hn : 1 ≤ n) : dat st n (.str x) = some (.str x) := by
  obtain ⟨m, rfl⟩ : ∃ m, n = m + 1 := ⟨n - 1, by omega⟩
  simp only [dat, h, if_true]
theorem dat_i {st : Mst} {n : Nat} {x : Int} (hn : 1 ≤ n) : dat st n (.int x) = some (.int x) := by
  obtain ⟨m, rfl⟩ : ∃ m, n = m + 1 := ⟨n - 1, by omega⟩
  rfl
theorem dat_tup {st : Mst} {n : Nat} {xs : List MV} {ps : List PyData} (h : optAll (dat st n) xs = some ps) : dat st (n + 1) (.tup xs) = some (.tuple ps) := by
  simp only [dat, h]; rfl
theorem optAll_cons {α γ : Type} {f : α → Option γ} {x : α} {xs : List α} {y : γ} {ys : List γ} (h : f x = some y) (hs : optAll f xs = some ys) : optAll f (x :: xs) = some (y :: ys) := by simp only [optAll, h, hs]
theorem dat_wfs {fs : List Str} {st : Mst} {d n : Nat} {sc : List Str} (k : ∀ (s : Nat) (e : MV), WF fs d s sc e → ∃ p, dat st n e = some p) : ∀ {es : List MV} {s : Nat}, WFs fs d s sc es → ∃ ps, optAll (dat st n) es = some ps
  | [], _, _ => ⟨[], rfl⟩
  | e :: es, s, h => by
    cases h with
    | cons h hs _ =>
      obtain ⟨p, hp⟩ := k _ _ h
      obtain ⟨ps, hps⟩ := dat_wfs k hs
      exact ⟨_, optAll_cons hp hps⟩
theorem dat_wf {fs : List Str} (hf : ∀ f ∈ fs, PyData.strOk f = true) (st : Mst) : ∀ (d : Nat) (s : Nat) (sc : List Str) (e : MV), WF fs d s sc e → ∀ n, 2 * d + 1 ≤ n → ∃ p, dat st n e = some p
  | 0, _, _, _, h, _, _ => by cases h
  | d + 1, s, sc, e, h, n, hn => by
    obtain ⟨m, rfl⟩ : ∃ m, n = m + 1 := ⟨n - 1, by omega⟩
    have k : ∀ (m : Nat), 2 * d + 1 ≤ m → ∀ (s : Nat) (e : MV), WF fs d s sc e → ∃ p, dat st m e = some p := fun m hm s e h => dat_wf hf st d s sc e h m hm
    have lit : ∀ w : String, dat st m (.str (Str.ofString w)) = some (.str w) := fun w => dat_s (strOk_ofString w) (by omega)
    cases h with
    | num i h => exact ⟨_, dat_tup (optAll_cons (lit _) (optAll_cons (dat_i (by omega)) rfl))⟩
    | var x hx ho h => exact ⟨_, dat_tup (optAll_cons (lit _) (optAll_cons (dat_s ho (by omega)) rfl))⟩
    | piece w xs hw hx h =>
      obtain ⟨ps, hp⟩ := dat_ints st xs m (by omega)
      exact ⟨_, dat_tup (optAll_cons (lit _) hp)⟩
    | lay w nm xs hw ho hx h =>
      obtain ⟨ps, hp⟩ := dat_ints st xs m (by omega)
      exact ⟨_, dat_tup (optAll_cons (lit _) (optAll_cons (dat_s ho (by omega)) hp))⟩
    | give w nm hw ho ha h =>
      obtain ⟨p, hp⟩ := k m (by omega) _ _ ha
      exact ⟨_, dat_tup (optAll_cons (lit _) (optAll_cons (dat_s ho (by omega)) (optAll_cons hp rfl)))⟩
    | mod i ha h =>
      obtain ⟨p, hp⟩ := k m (by omega) _ _ ha
      exact ⟨_, dat_tup (optAll_cons (lit _) (optAll_cons hp (optAll_cons (dat_i (by omega)) rfl)))⟩
    | val w hw ha hl h =>
      obtain ⟨ps, hp⟩ := dat_wfs (k m (by omega)) ha
      exact ⟨_, dat_tup (optAll_cons (lit _) hp)⟩
    | lets x ho ha hb h =>
      obtain ⟨p, hp⟩ := k m (by omega) _ _ ha
      obtain ⟨q, hq⟩ := dat_wf hf st d _ _ _ hb m (by omega)
      exact ⟨_, dat_tup (optAll_cons (lit _) (optAll_cons (dat_s ho (by omega)) (optAll_cons hp (optAll_cons hq rfl))))⟩
    | ite ha hb he h =>
      obtain ⟨p, hp⟩ := k m (by omega) _ _ ha
      obtain ⟨q, hq⟩ := k m (by omega) _ _ hb
      obtain ⟨r, hr⟩ := k m (by omega) _ _ he
      exact ⟨_, dat_tup (optAll_cons (lit _) (optAll_cons hp (optAll_cons hq (optAll_cons hr rfl))))⟩
    | rep i x ho ha hb h =>
      obtain ⟨p, hp⟩ := k m (by omega) _ _ ha
      obtain ⟨q, hq⟩ := dat_wf hf st d _ _ _ hb m (by omega)
      exact ⟨_, dat_tup (optAll_cons (lit _) (optAll_cons (dat_i (by omega)) (optAll_cons (dat_s ho (by omega)) (optAll_cons hp (optAll_cons hq rfl)))))⟩
    | tri nm i ho ha hb h =>
      obtain ⟨p, hp⟩ := k m (by omega) _ _ ha
      obtain ⟨q, hq⟩ := k m (by omega) _ _ hb
      exact ⟨_, dat_tup (optAll_cons (lit _) (optAll_cons (dat_s ho (by omega)) (optAll_cons (dat_i (by omega)) (optAll_cons hp (optAll_cons hq rfl)))))⟩
    | call f hf' ha hl h =>
      obtain ⟨m2, rfl⟩ : ∃ m2, m = m2 + 1 := ⟨m - 1, by omega⟩
      obtain ⟨ps, hp⟩ := dat_wfs (k m2 (by omega)) ha
      exact ⟨_, dat_tup (optAll_cons (lit _) (optAll_cons (dat_s (hf f hf') (by omega)) (optAll_cons (dat_tup hp) rfl)))⟩
theorem dat_kd {k : MV} (h : Kd k) (st : Mst) (n : Nat) (hn : 2 ≤ n) : ∃ p, dat st n k = some p := by
  obtain ⟨m, rfl⟩ : ∃ m, n = m + 1 := ⟨n - 1, by omega⟩
  cases h with
  | int k => exact ⟨_, rfl⟩
  | tup a b => exact ⟨_, dat_tup (optAll_cons (dat_i (by omega)) (optAll_cons (dat_i (by omega)) rfl))⟩
theorem FL.strs {fs : List Str} {st : Mst} {xs : List MV} (h : FL fs st xs) : ∀ f ∈ fs, PyData.strOk f = true := fun f hf => by
  obtain ⟨i, hi, e⟩ := List.getElem_of_mem hf
  obtain ⟨x, hx⟩ := get_of (xs := xs) (i := i) (by rw [h.1]; exact hi)
  obtain ⟨nm, a, e', kd, t, l, f', d, h1, h2, h3, _⟩ := h.2 i x hx
  have : fs[i]? = some fs[i] := by simp [hi]
  rw [this, e] at h2
  cases h2
  exact h3
/-- functions != [] -/
theorem ne_nil {fs : List Str} {st : Mst} {xs : List MV} {Fa N : Nat} (hF : st[Fa]? = some (.lst xs)) (hN : st[N]? = some (.lst [])) (F : FL fs st xs) : gNe (.ref Fa) (.ref N) st = .ok (.bl (!xs.isEmpty)) st := by
  have each : ∀ x ∈ xs, ∃ p, dat st 63 x = some p := fun x hx => by
    obtain ⟨i, hi, e⟩ := List.getElem_of_mem hx
    have hxi : xs[i]? = some x := by simp [hi, e]
    obtain ⟨nm, a, e', kd, t, l, f', d, rfl, h2, h3, h4, K⟩ := F.2 i x hxi
    obtain ⟨s, W⟩ := K.wf
    obtain ⟨p1, hp1⟩ := dat_wf F.strs st _ _ _ _ W 61 (by omega)
    obtain ⟨p2, hp2⟩ := dat_kd K.kd st 61 (by omega)
    have hl : dat st 62 (.ref a) = some (.list [p1, p2, .int t, .int l, .int f', .int d]) := by
      simp only [dat, h4, itL]
      rw [optAll_cons hp1 (optAll_cons hp2 (optAll_cons (dat_i (by omega)) (optAll_cons (dat_i (by omega)) (optAll_cons (dat_i (by omega)) (optAll_cons (dat_i (by omega)) rfl)))))]
      rfl
    exact ⟨_, dat_tup (optAll_cons (dat_s h3 (by omega)) (optAll_cons hl rfl))⟩
  have all : ∀ ys : List MV, (∀ x ∈ ys, ∃ p, dat st 63 x = some p) → ∃ ps, optAll (dat st 63) ys = some ps ∧ ps.length = ys.length := by
    intro ys
    induction ys with
    | nil => intro _; exact ⟨[], rfl, rfl⟩
    | cons y ys ih =>
      intro h
      obtain ⟨p, hp⟩ := h y List.mem_cons_self
      obtain ⟨ps, h1, h2⟩ := ih fun x hx => h x (List.mem_cons_of_mem _ hx)
      exact ⟨p :: ps, optAll_cons hp h1, by simp [h2]⟩
  obtain ⟨ps, h1, h2⟩ := all xs each
  have d1 : dat st 64 (.ref Fa) = some (.list ps) := by simp only [dat, hF, h1]; rfl
  have d2 : dat st 64 (.ref N) = some (.list []) := by simp only [dat, hN]; rfl
  simp only [gNe, d1, d2]
  cases xs with
  | nil =>
    cases ps with
    | nil => rfl
    | cons p ps => simp at h2
  | cons l ls =>
    cases ps with
    | nil => simp at h2
    | cons p ps => rfl
section
variable {fs : List Str} {st : Mst} {Pa R Fa : Nat} {r0 r1 r2 : Int} {ls : List Lay} {ps xs : List MV}
def Grown (fs : List Str) (st : Mst) (n : Nat) : MV → Mst → Prop := fun v st' => ∃ (u : Nat) (it : MV), v = .tup [.int u, it] ∧ Gr st st' ∧ u ≤ n ∧ (it = .non ∨ Cand fs st' it)
theorem back_ix (hP : st[Pa]? = some (.lst ps)) (I : Its fs st ps) (j : Nat) (h0 : 0 < j) (h : j ≤ ps.length) : ∃ a e kd t l f d, gIx (.ref Pa) (.int (-(j : Int))) st = .ok (.ref a) st ∧ st[a]? = some (.lst (itL e kd t l f d)) ∧ IF fs e kd t l f d ∧ t ≤ 38 ∧ d ≤ 15 := by
  obtain ⟨v, hv⟩ := get_of (xs := ps) (i := ps.length - j) (by omega)
  obtain ⟨a, e, kd, t, l, f, d, rfl, h1, h2, h3, h4⟩ := I v (List.mem_of_getElem? hv)
  refine ⟨a, e, kd, t, l, f, d, ?_, h1, h2, h3, h4⟩
  rw [gIx_lst_ap _ _ _ hP, matI_neg _ j h0 h, hv]
theorem grown_ok (hR : st[R]? = some (.lst (row3 r0 r1 r2))) (hP : st[Pa]? = some (.lst ps)) (I : Its fs st ps) (L : LaysOk ls) (hF : st[Fa]? = some (.lst xs)) (F : FL fs st xs) :
    Post (m_law_grown [.ref R, .ref Pa, .tup (ls.map enc), .ref Fa] st) (Grown fs st ps.length) := by
  obtain ⟨y0, y1, y2⟩ := row_ix hR
  have hl := gLen_lst hP
  obtain ⟨q, hq, bq⟩ := modC (x := r0) (m := 9) (by omega) st
  have hq : gMod (.int r0) (.int 9) st = .ok (.int q) st := hq
  have gn : ∀ i st, gNeg (.int i) st = .ok (.int (-i)) st := fun i st => rfl
  rw [m_law_grown, fnM4, b_law_grown]
  have hc : q = 0 ∨ q = 1 ∨ q = 2 ∨ q = 3 ∨ q = 4 ∨ q = 5 ∨ q = 6 ∨ q = 7 ∨ q = 8 := by omega
  have non0 : Grown fs st ps.length (.tup [.int 0, .non]) st := ⟨0, .non, rfl, .refl _, Nat.zero_le _, .inl rfl⟩
  have n1 := fun (h : 1 ≤ ps.length) => back_ix hP I 1 (by omega) h
  have n2 := fun (h : 2 ≤ ps.length) => back_ix hP I 2 (by omega) h
  have n3 := fun (h : 3 ≤ ps.length) => back_ix hP I 3 (by omega) h
  rcases hc with rfl | rfl | rfl | rfl | rfl | rfl | rfl | rfl | rfl
  · simp -implicitDefEqProofs [y0, hq]
    exact non0
  · by_cases h1 : 1 ≤ ps.length
    · obtain ⟨a, e, kd, t, l, f, d, i1, i2, i3, i4, i5⟩ := n1 h1
      have i1 : gIx (.ref Pa) (.int (-1)) st = .ok (.ref a) st := i1
      obtain ⟨v, st', p1, p2, p3⟩ := unary_ok hR i2 i3 L
      have h1' : (1 : Int) ≤ ps.length := by omega
      simp -implicitDefEqProofs [y0, hq, hl, h1', gn, i1, p1]
      exact ⟨1, v, rfl, p2, h1, .inr p3⟩
    · have h1' : ¬ (1 : Int) ≤ ps.length := by omega
      simp -implicitDefEqProofs [y0, hq, hl, h1']
      exact non0
  · by_cases h2 : 2 ≤ ps.length
    · obtain ⟨a, e, kd, t, l, f, d, i1, i2, i3, i4, i5⟩ := n2 h2
      obtain ⟨b, e2, kd2, t2, l2, f2, d2, j1, j2, j3, j4, j5⟩ := n1 (by omega)
      have i1 : gIx (.ref Pa) (.int (-2)) st = .ok (.ref a) st := i1
      have j1 : gIx (.ref Pa) (.int (-1)) st = .ok (.ref b) st := j1
      have h2' : (2 : Int) ≤ ps.length := by omega
      obtain ⟨v, st', p1, p2, p3⟩ := binary_ok hR i2 j2 i3 j3 (by omega)
      simp -implicitDefEqProofs [y0, hq, hl, h2', gn, i1, j1, p1]
      exact ⟨2, v, rfl, p2, h2, .inr p3⟩
    · have h2' : ¬ (2 : Int) ≤ ps.length := by omega
      simp -implicitDefEqProofs [y0, hq, hl, h2']
      exact non0
  · by_cases h2 : 2 ≤ ps.length
    · obtain ⟨a, e, kd, t, l, f, d, i1, i2, i3, i4, i5⟩ := n2 h2
      obtain ⟨b, e2, kd2, t2, l2, f2, d2, j1, j2, j3, j4, j5⟩ := n1 (by omega)
      have i1 : gIx (.ref Pa) (.int (-2)) st = .ok (.ref a) st := i1
      have j1 : gIx (.ref Pa) (.int (-1)) st = .ok (.ref b) st := j1
      have h2' : (2 : Int) ≤ ps.length := by omega
      obtain ⟨v, st', p1, p2, p3⟩ := binary_ok hR i2 j2 i3 j3 (by omega)
      simp -implicitDefEqProofs [y0, hq, hl, h2', gn, i1, j1, p1]
      exact ⟨2, v, rfl, p2, h2, .inr p3⟩
    · have h2' : ¬ (2 : Int) ≤ ps.length := by omega
      simp -implicitDefEqProofs [y0, hq, hl, h2']
      exact non0
  · by_cases h2 : 2 ≤ ps.length
    · obtain ⟨a, e, kd, t, l, f, d, i1, i2, i3, i4, i5⟩ := n2 h2
      obtain ⟨b, e2, kd2, t2, l2, f2, d2, j1, j2, j3, j4, j5⟩ := n1 (by omega)
      have i1 : gIx (.ref Pa) (.int (-2)) st = .ok (.ref a) st := i1
      have j1 : gIx (.ref Pa) (.int (-1)) st = .ok (.ref b) st := j1
      have h2' : (2 : Int) ≤ ps.length := by omega
      obtain ⟨v, st', p1, p2, p3⟩ := binary_ok hR i2 j2 i3 j3 (by omega)
      simp -implicitDefEqProofs [y0, hq, hl, h2', gn, i1, j1, p1]
      exact ⟨2, v, rfl, p2, h2, .inr p3⟩
    · have h2' : ¬ (2 : Int) ≤ ps.length := by omega
      simp -implicitDefEqProofs [y0, hq, hl, h2']
      exact non0
  · by_cases h2 : 2 ≤ ps.length
    · obtain ⟨a, e, kd, t, l, f, d, i1, i2, i3, i4, i5⟩ := n2 h2
      obtain ⟨b, e2, kd2, t2, l2, f2, d2, j1, j2, j3, j4, j5⟩ := n1 (by omega)
      have i1 : gIx (.ref Pa) (.int (-2)) st = .ok (.ref a) st := i1
      have j1 : gIx (.ref Pa) (.int (-1)) st = .ok (.ref b) st := j1
      have h2' : (2 : Int) ≤ ps.length := by omega
      obtain ⟨v, st', p1, p2, p3⟩ := round_ok hR i2 j2 i3 j3 (by omega)
      simp -implicitDefEqProofs [y0, hq, hl, h2', gn, i1, j1, p1]
      exact ⟨2, v, rfl, p2, h2, .inr p3⟩
    · have h2' : ¬ (2 : Int) ≤ ps.length := by omega
      simp -implicitDefEqProofs [y0, hq, hl, h2']
      exact non0
  · by_cases h2 : 2 ≤ ps.length
    · obtain ⟨a, e, kd, t, l, f, d, i1, i2, i3, i4, i5⟩ := n2 h2
      obtain ⟨b, e2, kd2, t2, l2, f2, d2, j1, j2, j3, j4, j5⟩ := n1 (by omega)
      have i1 : gIx (.ref Pa) (.int (-2)) st = .ok (.ref a) st := i1
      have j1 : gIx (.ref Pa) (.int (-1)) st = .ok (.ref b) st := j1
      have h2' : (2 : Int) ≤ ps.length := by omega
      obtain ⟨v, st', p1, p2, p3⟩ := try_ok hR i2 j2 i3 j3 (by omega) (by omega) L
      simp -implicitDefEqProofs [y0, hq, hl, h2', gn, i1, j1, p1]
      exact ⟨2, v, rfl, p2, h2, p3⟩
    · have h2' : ¬ (2 : Int) ≤ ps.length := by omega
      simp -implicitDefEqProofs [y0, hq, hl, h2']
      exact non0
  · by_cases h3 : 3 ≤ ps.length
    · obtain ⟨a, e, kd, t, l, f, d, i1, i2, i3, i4, i5⟩ := n3 h3
      obtain ⟨b, e2, kd2, t2, l2, f2, d2, j1, j2, j3, j4, j5⟩ := n2 (by omega)
      obtain ⟨c, e3, kd3, t3, l3, f3, d3, k1, k2, k3, k4, k5⟩ := n1 (by omega)
      have i1 : gIx (.ref Pa) (.int (-3)) st = .ok (.ref a) st := i1
      have j1 : gIx (.ref Pa) (.int (-2)) st = .ok (.ref b) st := j1
      have k1 : gIx (.ref Pa) (.int (-1)) st = .ok (.ref c) st := k1
      have h3' : (3 : Int) ≤ ps.length := by omega
      obtain ⟨v, st', p1, p2, p3⟩ := if_ok i2 j2 k2 i3 j3 k3 (by omega) (by omega) (by omega)
      simp -implicitDefEqProofs [y0, hq, hl, h3', gn, i1, j1, k1, p1]
      exact ⟨3, v, rfl, p2, h3, p3⟩
    · have h3' : ¬ (3 : Int) ≤ ps.length := by omega
      simp -implicitDefEqProofs [y0, hq, hl, h3']
      exact non0
  · by_cases h2 : 2 ≤ ps.length
    · obtain ⟨a, e, kd, t, l, f, d, i1, i2, i3, i4, i5⟩ := n2 h2
      obtain ⟨b, e2, kd2, t2, l2, f2, d2, j1, j2, j3, j4, j5⟩ := n1 (by omega)
      have i1 : gIx (.ref Pa) (.int (-2)) st = .ok (.ref a) st := i1
      have j1 : gIx (.ref Pa) (.int (-1)) st = .ok (.ref b) st := j1
      have h2' : (2 : Int) ≤ ps.length := by omega
      have hN : (st ++ [.lst []])[st.length]? = some (MO.lst []) := last_snoc
      have G := Gr.app st [.lst []]
      obtain ⟨st1, e1⟩ : ∃ x, x = st ++ [MO.lst []] := ⟨_, rfl⟩
      obtain ⟨N, eN⟩ : ∃ x, x = st.length := ⟨_, rfl⟩
      rw [← e1, ← eN] at hN
      rw [← e1] at G
      have hne := ne_nil (G.get hF) hN (F.old (.gr G))
      by_cases hx : xs.isEmpty = true
      · rw [hx] at hne
        simp -implicitDefEqProofs [y0, hq, hl, h2', ← e1, ← eN, hne]
        exact ⟨0, .non, rfl, G, Nat.zero_le _, .inl rfl⟩
      · have hx' : xs.isEmpty = false := by simpa using hx
        rw [hx'] at hne
        have hpos : 0 < xs.length := by
          rw [List.length_pos_iff]
          intro q
          rw [q] at hx
          exact hx rfl
        obtain ⟨i1', i1''⟩ : gIx (.ref Pa) (.int (-2)) st1 = .ok (.ref a) st1 ∧ gIx (.ref Pa) (.int (-1)) st1 = .ok (.ref b) st1 := by
          obtain ⟨a', _, _, _, _, _, _, q1, q2, _⟩ := back_ix (G.get hP) (I.gr G) 2 (by omega) h2
          obtain ⟨b', _, _, _, _, _, _, q3, q4, _⟩ := back_ix (G.get hP) (I.gr G) 1 (by omega) (by omega)
          rw [gIx_lst_ap _ _ _ hP, show (-2 : Int) = -((2 : Nat) : Int) from rfl, matI_neg _ 2 (by omega) h2] at i1
          rw [gIx_lst_ap _ _ _ hP, show (-1 : Int) = -((1 : Nat) : Int) from rfl, matI_neg _ 1 (by omega) (by omega)] at j1
          constructor
          · rw [gIx_lst_ap _ _ _ (G.get hP), show (-2 : Int) = -((2 : Nat) : Int) from rfl, matI_neg _ 2 (by omega) h2]
            cases hz : ps[ps.length - 2]? with
            | none => rw [hz] at i1; cases i1
            | some z => rw [hz] at i1; cases i1; rfl
          · rw [gIx_lst_ap _ _ _ (G.get hP), show (-1 : Int) = -((1 : Nat) : Int) from rfl, matI_neg _ 1 (by omega) (by omega)]
            cases hz : ps[ps.length - 1]? with
            | none => rw [hz] at j1; cases j1
            | some z => rw [hz] at j1; cases j1; rfl
        obtain ⟨v, st', p1, p2, p3⟩ := call_ok (G.get hR) (G.get i2) (G.get j2) i3 j3 (by omega) (by omega) (G.get hF) (F.old (.gr G)) hpos
        simp -implicitDefEqProofs [y0, hq, hl, h2', ← e1, ← eN, hne, gn, i1', i1'', p1]
        exact ⟨2, v, rfl, G.trans p2, h2, .inr p3⟩
    · have h2' : ¬ (2 : Int) ≤ ps.length := by omega
      simp -implicitDefEqProofs [y0, hq, hl, h2']
      exact non0
end
end K17

set_option Elab.async false
set_option linter.all false
set_option maxRecDepth 100000
set_option autoImplicit false
/-! k17, plain law: an item. -/
namespace K17
open PySem BH
theorem mcut_m1 (xs : List MV) : mcut xs none (some (-1)) = xs.take (xs.length - 1) := by
  simp only [mcut, HT.sIx]
  by_cases h : xs.length = 0
  · have : xs = [] := List.length_eq_zero_iff.mp h
    subst this
    simp
  · rw [if_pos (by omega)]
    have : (max (-1 + (xs.length : Int)) 0).toNat = xs.length - 1 := by omega
    simp
    try omega
theorem _root_.BH.Post.revL {a n m : Nat} {xs : List MV} {g : MG} {body : MS} {env : BH.Env} {st : Mst} {Q : Fl → Mst → Prop} (I : Nat → BH.Env → Mst → Prop) (hr : ∀ i env st, I i env st → itemsOf st (.ref a) = some xs) (h0 : I 0 env st) (hm : m = n + 1) (hn : n = xs.length)
    (step : ∀ i x env st, x ∈ xs → I i env st → ∃ env1 s1, g x env st = .ok env1 s1 ∧ Turns (I (i + 1)) (body env1 s1)) (hk : ∀ env st, I n env st → Q (.nx env) st) : Post (forL (srcRev a n) g body m 0 env st) Q := by
  subst hm
  subst hn
  obtain ⟨env', st', h1, h2⟩ := for_rule (src := srcRev a xs.length) (g := g) (body := body) (n := xs.length) I (fun env st h => by simp [srcRev, hr _ _ _ h]) (fun i env st hi h => by
    have hx : xs[xs.length - 1 - i]? = some (xs[xs.length - 1 - i]'(by omega)) := by simp
    obtain ⟨env1, s1, q1, q2⟩ := step i _ env st (List.mem_of_getElem? hx) h
    refine ⟨_, env1, s1, ?_, q1, q2⟩
    simp only [srcRev, hr _ _ _ h, Option.bind_some, if_pos hi]
    rw [hx]; rfl) (xs.length + 1) 0 env st (Nat.zero_le _) (by omega) h0
  exact ⟨_, _, h1, hk _ _ h2⟩
theorem Its.old {fs : List Str} {st st' : Mst} {xs : List MV} (h : Its fs st xs) (g : Old st st') : Its fs st' xs := fun v hv => (h v hv).old g
section
variable {ns : List Int} {fs : List Str} {st : Mst} {Fa : Nat} {kn : String} {ls : List Lay} {xs : List MV}
theorem item_ok {k count : Nat} {most : Int} (h0 : st[0]? = some (.rol (ns.map .int))) (hk : kn ∈ kernels) (L : LaysOk ls) (hF : st[Fa]? = some (.lst xs)) (F : FL fs st xs) (hc1 : 1 ≤ count) (hc2 : count ≤ 100) (hm : most ≤ 38) :
    Post (m_law_item [.ref 0, .int k, .str (Str.ofString kn), .tup (ls.map enc), .ref Fa, .int count, .int most] st) (fun v st' => Item fs st' v ∧ Old st st') := by
  have un : m_law_item [.ref 0, .int k, .str (Str.ofString kn), .tup (ls.map enc), .ref Fa, .int count, .int most] st = finB (b_law_item ([.ref 0, .int k, .str (Str.ofString kn), .tup (ls.map enc), .ref Fa, .int count, .int most].map some ++ List.replicate (15 - 7) none) st) := by
    rw [m_law_item, fnM_ap]; rfl
  rw [un, b_law_item]
  have hP0 : (st ++ [.lst []])[st.length]? = some (MO.lst []) := last_snoc
  have G0 := Gr.app st [.lst []]
  obtain ⟨st0, e0⟩ : ∃ x, x = st ++ [MO.lst []] := ⟨_, rfl⟩
  obtain ⟨P0, eP0⟩ : ∃ x, x = st.length := ⟨_, rfl⟩
  rw [← e0, ← eP0] at hP0
  rw [← e0] at G0
  obtain ⟨v, st1, p1, Lv, rfl, LV⟩ := leaves_ok (fs := fs) hk L st0
  obtain ⟨G1, hge, lvs, hLv, hne, hlv, hits⟩ := LV
  have hlt := lt_of hP0
  have r := rngOf1_nat (j := (count : Int)) (n := count) (st := st1) rfl (by omega)
  have gn : ∀ i st, gNeg (.int i) st = .ok (.int (-i)) st := fun i st => rfl
  have hlpos : 0 < lvs.length := by
    rw [List.length_pos_iff]; exact hne
  simp -implicitDefEqProofs [← e0, ← eP0, p1, r]
  refine .finB (.bind (.range (fun i env st' => ∃ Pa ps o9 o10 o11 o12, env = [some (.ref 0), some (.int k), some (.str (Str.ofString kn)), some (.tup (ls.map enc)), some (.ref Fa), some (.int count), some (.int most), some (.ref Pa), some (.ref Lv), o9, o10, o11, o12, none, none] ∧
    Old st st' ∧ st.length ≤ Pa ∧ Pa ≠ Lv ∧ st'[Pa]? = some (.lst ps) ∧ st'[Lv]? = some (.lst lvs) ∧ Its fs st' ps ∧ Its fs st' lvs ∧ ps.length ≤ i ∧ (1 ≤ i → 1 ≤ ps.length))
    ⟨P0, [], _, _, _, _, rfl, .gr (G0.trans G1), by omega, by omega, G1.get hP0, hLv, (fun v hv => by cases hv), hits, by simp, by omega⟩ rfl ?_ ?_))
  · rintro i env st' hi ⟨Pa, ps, o9, o10, o11, o12, rfl, O, hPs, hPL, hP, hL', I, IL, hpl, hp1⟩
    refine ⟨_, _, rfl, ?_⟩
    obtain ⟨v, st2, q1, R, row, rfl, hR, hr3, hRge, hfr⟩ := row_ok (O _ _ h0) (k + i) 3 (by omega)
    have O2 : Old st' st2 := fun a o h => hfr [] a o (by simp) h
    obtain ⟨r0, r1, r2, rfl⟩ : ∃ r0 r1 r2, row = [r0, r1, r2] := by
      match row, hr3 with
      | [a, b, c], _ => exact ⟨a, b, c, rfl⟩
    have hR : st2[R]? = some (.lst (row3 r0 r1 r2)) := hR
    simp only [Int.natCast_add, Int.cast_ofNat_Int] at q1
    obtain ⟨v, st3, q2, u, it, rfl, G3, hu, hit⟩ := grown_ok hR (O2 _ _ hP) (I.old O2) L (O2 _ _ (O _ _ hF)) (F.old (O.trans O2))
    have O3 : Old st st3 := (O.trans O2).trans (.gr G3)
    have hP3 := G3.get (O2 _ _ hP)
    have hL3 := G3.get (O2 _ _ hL')
    have I3 := (I.old O2).gr G3
    have IL3 := (IL.old O2).gr G3
    obtain ⟨y0, y1, y2⟩ := row_ix (G3.get hR)
    have ll := gLen_lst hL3
    have pl := gLen_lst hP3
    obtain ⟨q, hq, bq⟩ := modC (x := r1) (m := lvs.length) hlpos st3
    obtain ⟨lf, hlf⟩ := get_of bq
    have hix := gIx_lst (st := st3) hL3 (i := (q : Int)) (k := q) rfl hlf
    have ht := tyM_lst hP3
    have ha := gAppend_lst (y := lf) hP3 (by omega)
    have leafC : ∀ o12', Turns ((fun i env st' => ∃ Pa ps o9 o10 o11 o12, env = [some (.ref 0), some (.int k), some (.str (Str.ofString kn)), some (.tup (ls.map enc)), some (.ref Fa), some (.int count), some (.int most), some (.ref Pa), some (.ref Lv), o9, o10, o11, o12, none, none] ∧
        Old st st' ∧ st.length ≤ Pa ∧ Pa ≠ Lv ∧ st'[Pa]? = some (.lst ps) ∧ st'[Lv]? = some (.lst lvs) ∧ Its fs st' ps ∧ Its fs st' lvs ∧ ps.length ≤ i ∧ (1 ≤ i → 1 ≤ ps.length)) (i + 1))
        (.ok (.nx [some (.ref 0), some (.int k), some (.str (Str.ofString kn)), some (.tup (ls.map enc)), some (.ref Fa), some (.int count), some (.int most), some (.ref Pa), some (.ref Lv), some (.int (i : Int)), some (.ref R), some (.int u), some o12', none, none]) (st3.set Pa (.lst (ps ++ [lf])))) := fun o12' => by
      refine .nx rfl ⟨Pa, ps ++ [lf], _, _, _, _, rfl, O3.set hPs, hPs, hPL, get_set hP3, get_set_ne hL3 hPL, fun v hv => ?_, IL3.set hP3 I3.refs, by simp; omega, by simp⟩
      rcases List.mem_append.mp hv with hv | hv
      · exact (I3 v hv).set hP3 I3.refs
      · rw [List.mem_singleton.mp hv]
        exact (IL3 lf (List.mem_of_getElem? hlf)).set hP3 I3.refs
    rcases hit with rfl | hC
    · simp -implicitDefEqProofs [q1, q2, gIs_non, y1, ll, hq, hix, ht, ha]
      have := leafC .non
      simpa using this
    · obtain ⟨a, e, kd, t, l, f, d, rfl, hC1, IFc⟩ := hC
      obtain ⟨x0, x1, x2, x3, x4, x5⟩ := it_ix hC1
      have gk : gIs false (.ref a) .non st3 = .ok (.bl false) st3 := rfl
      by_cases hbig : most < t ∨ 15 < d
      · have hbig' : most < t ∨ (¬ most < t ∧ 15 < d) := by omega
        rcases hbig' with hb | ⟨hb1, hb2⟩
        · simp -implicitDefEqProofs [q1, q2, gk, x2, hb, y1, ll, hq, hix, ht, ha]
          have := leafC (.ref a)
          simpa using this
        · simp -implicitDefEqProofs [q1, q2, gk, x2, hb1, x5, hb2, y1, ll, hq, hix, ht, ha]
          have := leafC (.ref a)
          simpa using this
      · have hb1 : ¬ most < t := fun h => hbig (.inl h)
        have hb2 : ¬ 15 < d := fun h => hbig (.inr h)
        have hsl := gSl_lst_ap ps st3 hP3 none (some ((ps.length : Int) - u))
        have hcut : mcut ps none (some ((ps.length : Int) - u)) = ps.take (ps.length - u) := by
          rw [show ((ps.length : Int) - u) = ((ps.length - u : Nat) : Int) by omega]
          exact mcut_to ps _
        rw [hcut] at hsl
        have hT4 : (st3 ++ [.lst (ps.take (ps.length - u))])[st3.length]? = some (MO.lst (ps.take (ps.length - u))) := last_snoc
        have G4 := Gr.app st3 [.lst (ps.take (ps.length - u))]
        obtain ⟨st4, e4⟩ : ∃ x, x = st3 ++ [MO.lst (ps.take (ps.length - u))] := ⟨_, rfl⟩
        obtain ⟨T4, eT4⟩ : ∃ x, x = st3.length := ⟨_, rfl⟩
        rw [← e4, ← eT4] at hT4
        rw [← e4] at G4
        rw [← e4, ← eT4] at hsl
        obtain ⟨P5, st5, q5, G5, hP5, hP5g⟩ := cat_ok' (ys := [.ref a]) hT4 (by simp; omega)
        have hLlt := lt_of (G4.get hL3)
        have hOl := lt_of (O3 _ _ hF)
        have hsl3 : st.length ≤ st4.length := by
          have a1 := G4.len
          have a2 := G3.len
          have a3 := lt_of (G3.get (O2 _ _ hP))
          omega
        refine .nx (env := [some (.ref 0), some (.int k), some (.str (Str.ofString kn)), some (.tup (ls.map enc)), some (.ref Fa), some (.int count), some (.int most), some (.ref P5), some (.ref Lv), some (.int (0 + (i : Int))), some (.ref R), some (.int u), some (.ref a), none, none]) (st := st5) ?_
          ⟨P5, ps.take (ps.length - u) ++ [.ref a], _, _, _, _, rfl, O3.trans (.gr (G4.trans G5)), by omega, by omega, hP5, (G4.trans G5).get hL3, fun v hv => ?_, IL3.gr (G4.trans G5), by simp; omega, by simp⟩
        · simp -implicitDefEqProofs [q1, q2, gk, x2, hb1, x5, hb2, pl, hsl, q5]
        · rcases List.mem_append.mp hv with hv | hv
          · exact (I3 v (List.mem_of_mem_take hv)).gr (G4.trans G5)
          · rw [List.mem_singleton.mp hv]
            exact ⟨a, e, kd, t, l, f, d, rfl, (G4.trans G5).get hC1, IFc, by omega, by omega⟩
  · rintro env st' ⟨Pa, ps, o9, o10, o11, o12, rfl, O, hPs, hPL, hP, hL', I, IL, hpl, hp1⟩
    have hp1 := hp1 hc1
    obtain ⟨a, e, kd, t, l, f, d, i1, i2, i3, i4, i5⟩ := back_ix hP I 1 (by omega) hp1
    have i1 : gIx (.ref Pa) (.int (-1)) st' = .ok (.ref a) st' := i1
    have hsl := gSl_lst_ap ps st' hP none (some (-1))
    rw [mcut_m1] at hsl
    have hT2 : (st' ++ [.lst (ps.take (ps.length - 1))])[st'.length]? = some (MO.lst (ps.take (ps.length - 1))) := last_snoc
    have G2 := Gr.app st' [.lst (ps.take (ps.length - 1))]
    obtain ⟨st2, e2⟩ : ∃ x, x = st' ++ [MO.lst (ps.take (ps.length - 1))] := ⟨_, rfl⟩
    obtain ⟨T2, eT2⟩ : ∃ x, x = st'.length := ⟨_, rfl⟩
    rw [← e2, ← eT2] at hT2 hsl
    rw [← e2] at G2
    have hrv : revOf (.ref T2) st2 = .ok (srcRev T2 (ps.take (ps.length - 1)).length) st2 := by simp only [revOf, itemsOf, hT2]
    have hsz : ∀ a n, (srcRev a n).size = n := fun a n => rfl
    simp -implicitDefEqProofs [gn, i1, hsl, iRevM, hrv, hsz]
    refine .bind (.revL (xs := ps.take (ps.length - 1)) (fun j env st3 => ∃ v o13 o14, env = [some (.ref 0), some (.int k), some (.str (Str.ofString kn)), some (.tup (ls.map enc)), some (.ref Fa), some (.int count), some (.int most), some (.ref Pa), some (.ref Lv), o9, o10, o11, some v, o13, o14] ∧ Gr st2 st3 ∧ Item fs st3 v) ?_
      ⟨.ref a, _, _, rfl, .refl _, a, e, kd, t, l, f, d, rfl, G2.get i2, i3, i4, i5⟩ rfl (by simp) ?_ ?_)
    · rintro j env st3 ⟨v, o13, o14, rfl, G3, _⟩
      exact itemsOf_lst (G3.get hT2)
    · rintro j x env st3 hx ⟨v, o13, o14, rfl, G3, a, e, kd, t, l, f, d, rfl, i2, i3, i4, i5⟩
      refine ⟨_, _, rfl, ?_⟩
      obtain ⟨b, e', kd', t', l', f', d', rfl, j2, j3, j4, j5⟩ := I x (List.mem_of_mem_take hx)
      have hR4 : (st3 ++ [.lst (row3 0 6 0)])[st3.length]? = some (MO.lst (row3 0 6 0)) := last_snoc
      have G4 := Gr.app st3 [.lst (row3 0 6 0)]
      obtain ⟨st4, e4⟩ : ∃ x, x = st3 ++ [MO.lst (row3 0 6 0)] := ⟨_, rfl⟩
      obtain ⟨R4, eR4⟩ : ∃ x, x = st3.length := ⟨_, rfl⟩
      rw [← e4, ← eR4] at hR4
      rw [← e4] at G4
      obtain ⟨v, st5, p5, G5, a2, e2', kd2, t2, l2, f2, d2, rfl, k2, k3⟩ := binary_ok hR4 (G4.get (G3.get (G2.get j2))) (G4.get i2) j3 i3 (by omega)
      obtain ⟨x0, x1, x2, x3, x4, x5⟩ := it_ix k2
      by_cases hs1 : t2 ≤ most
      · by_cases hs2 : d2 ≤ 15
        · refine .nx (env := [some (.ref 0), some (.int k), some (.str (Str.ofString kn)), some (.tup (ls.map enc)), some (.ref Fa), some (.int count), some (.int most), some (.ref Pa), some (.ref Lv), o9, o10, o11, some (.ref a2), some (.ref b), some (.ref a2)]) (st := st5) ?_ ⟨_, _, _, rfl, (G3.trans G4).trans G5, a2, e2', kd2, t2, l2, f2, d2, rfl, k2, k3, by omega, by omega⟩
          simp -implicitDefEqProofs [← e4, ← eR4, p5, x2, hs1, x5, hs2]
        · refine .nx (env := [some (.ref 0), some (.int k), some (.str (Str.ofString kn)), some (.tup (ls.map enc)), some (.ref Fa), some (.int count), some (.int most), some (.ref Pa), some (.ref Lv), o9, o10, o11, some (.ref a), some (.ref b), some (.ref a2)]) (st := st5) ?_ ⟨_, _, _, rfl, (G3.trans G4).trans G5, a, e, kd, t, l, f, d, rfl, G5.get (G4.get i2), i3, i4, i5⟩
          simp -implicitDefEqProofs [← e4, ← eR4, p5, x2, hs1, x5, hs2]
      · refine .nx (env := [some (.ref 0), some (.int k), some (.str (Str.ofString kn)), some (.tup (ls.map enc)), some (.ref Fa), some (.int count), some (.int most), some (.ref Pa), some (.ref Lv), o9, o10, o11, some (.ref a), some (.ref b), some (.ref a2)]) (st := st5) ?_ ⟨_, _, _, rfl, (G3.trans G4).trans G5, a, e, kd, t, l, f, d, rfl, G5.get (G4.get i2), i3, i4, i5⟩
        simp -implicitDefEqProofs [← e4, ← eR4, p5, x2, hs1]
    · rintro env st3 ⟨v, o13, o14, rfl, G3, IT⟩
      simp -implicitDefEqProofs
      exact ⟨IT, O.trans (.gr (G2.trans G3))⟩
end
end K17

set_option Elab.async false
set_option linter.all false
set_option maxRecDepth 100000
set_option autoImplicit false
/-! k17, plain law: nests; functions in a row. -/
namespace K17
open PySem BH
theorem maxI_some : ∀ xs : List Int, xs ≠ [] → ∃ m, maxI xs = some m
  | [], h => absurd rfl h
  | [i], _ => ⟨i, rfl⟩
  | i :: j :: r, _ => by
    obtain ⟨m, hm⟩ := maxI_some (j :: r) (by simp)
    exact ⟨_, by simp only [maxI, hm, Option.map_some]; rfl⟩
theorem optInts_map : ∀ xs : List Int, optInts (xs.map .int) = some xs
  | [] => rfl
  | x :: xs => by simp only [List.map_cons, optInts, optInts_map xs]; rfl
/-- a comprehension over a list whose element makes new things and gives an int -/
theorem lc_grow {P D : Nat} {xs : List MV} {t : Tgt} {elt : ME} {env : BH.Env} {base : Mst} (hP : base[P]? = some (.lst xs)) (hD : base.length ≤ D) (hl : xs.length < 1000)
    (step : ∀ x ∈ xs, ∀ st, ∃ env1 z st', t.put x env = some env1 ∧ elt env1 st = .ok (.int z) st' ∧ Gr st st') :
    ∀ (m i : Nat) (st : Mst) (ys : List Int), i ≤ xs.length → xs.length - i < m → ys.length = i → Gr base st → st[D]? = some (.lst (ys.map .int)) →
      ∃ (zs : List Int) (st' : Mst), lcL (srcList P xs.length) t mYes elt env D m i st = .ok (.ref D) st' ∧ st'[D]? = some (.lst (zs.map MV.int)) ∧ Gr base st' ∧ zs.length ≤ 1000
  | 0, i, st, ys, _, hm, _, _, _ => by omega
  | m + 1, i, st, ys, hi, hm, hy, G, hd => by
    have hit := itemsOf_lst (G.get hP)
    by_cases e : i = xs.length
    · subst e
      refine ⟨ys, st, ?_, hd, G, by omega⟩
      simp [lcL, srcList, hit]
    · obtain ⟨x, hx⟩ := get_of (xs := xs) (i := i) (by omega)
      obtain ⟨env1, z, st', h1, h2, G2⟩ := step x (List.mem_of_getElem? hx) st
      have hd2 := G2.get hd
      have hap : lappend D (.int z) st' = .ok () (st'.set D (.lst ((ys ++ [z]).map .int))) := by
        simp only [lappend, hd2]
        rw [if_pos (by simp; omega)]
        simp
      obtain ⟨zs, st2, q1, q2, q3, q4⟩ := lc_grow hP hD hl step m (i + 1) (st'.set D (.lst ((ys ++ [z]).map .int))) (ys ++ [z]) (by omega) (by omega) (by simp [hy]) ((G.trans G2).set hD) (get_set hd2)
      refine ⟨zs, st2, ?_, q2, q3, q4⟩
      simp only [lcL, srcList, hit, Option.map_some, hx, h1, mYes, noX_ok, Res.bind_ok, if_true, h2, hap]
      exact q1
section
variable {fs : List Str}
theorem nest_parts {n : Nat} {parts : List MV} {st : Mst} {e : Option MV} {P : Nat} (hP : st[P]? = some (.lst parts)) (hl : parts.length ≤ 20)
    (IH : ∀ x ∈ parts, ∀ st, ∃ i st', m_law_nest n [x] st = .ok (.int i) st' ∧ Gr st st') (o : Option MV) :
    ∃ i st', finB ((sRet (mCallB gMax (mCons (mBin gAdd (mLst (mCons (mC (.int 0)) mNil)) (mLc (iOf (mVar 1)) [2] (.nm 2) mYes (mBin gAdd (mC (.int 1)) (mCallF (m_law_nest n) (mCons (mVar 2) mNil) [])))) mNil))) [e, some (.ref P), o] st) = .ok (.int i) st' ∧ Gr st st' := by
  have G1 := Gr.app st [.lst [.int 0]]
  have h0 : (st ++ [.lst [.int 0]])[st.length]? = some (MO.lst [.int 0]) := last_snoc
  obtain ⟨st1, e1⟩ : ∃ x, x = st ++ [MO.lst [.int 0]] := ⟨_, rfl⟩
  obtain ⟨Z, eZ⟩ : ∃ x, x = st.length := ⟨_, rfl⟩
  rw [← e1, ← eZ] at h0
  rw [← e1] at G1
  have G2 := Gr.app st1 [.lst []]
  have hD : (st1 ++ [.lst []])[st1.length]? = some (MO.lst (([] : List Int).map .int)) := last_snoc
  obtain ⟨zs, st2, q1, q2, q3, q4⟩ := lc_grow (P := P) (D := st1.length) (t := .nm 2) (elt := mBin gAdd (mC (.int 1)) (mCallF (m_law_nest n) (mCons (mVar 2) mNil) [])) (env := [e, some (.ref P), none]) (base := st1) (G1.get hP) (Nat.le_refl _) (by omega) (fun x hx st => by
    obtain ⟨i, st', a1, a2⟩ := IH x hx st
    exact ⟨_, 1 + i, st', rfl, by simp -implicitDefEqProofs [a1], a2⟩) (parts.length + 1) 0 (st1 ++ [.lst []]) [] (by omega) (by omega) rfl G2 hD
  obtain ⟨R3, st3, c1, c2, c3⟩ := cat2_ok (q3.get h0) q2 (by simp; omega)
  obtain ⟨m, hm⟩ := maxI_some (0 :: zs) (by simp)
  have hg : gMax [.ref R3] st3 = .ok (.int m) st3 := by
    have := optInts_map (0 :: zs)
    simp only [List.map_cons] at this
    simp only [gMax, itemsOf, c3, List.cons_append, List.nil_append, this, Option.bind_some, hm]
  have hs : srcOf (.ref P) st1 = _ := srcOf_lst (G1.get hP)
  refine ⟨m, st3, ?_, (G1.trans q3).trans c2⟩
  simp -implicitDefEqProofs [← e1, ← eZ, hs, q1, c1, hg]
theorem nest_val {n : Nat} {w : String} {rest parts : List MV} (hw : (w == "call") = false) (hf : ∀ x ∈ rest, Flat x) (hp : rest.filterMap tupF = parts) (hl : rest.length ≤ 20)
    (IH : ∀ x ∈ parts, ∀ st, ∃ i st', m_law_nest n [x] st = .ok (.int i) st' ∧ Gr st st') (st : Mst) : ∃ i st', m_law_nest (n + 1) [.tup (.str w :: rest)] st = .ok (.int i) st' ∧ Gr st st' := by
  have hlp : parts.length ≤ 20 := by rw [← hp]; exact Nat.le_trans (List.length_filterMap_le _ _) hl
  have hcomp : ∀ env : BH.Env, env.length = 3 → lcL (srcItems rest) (.nm 2) (mTru (mCallB gIsi (mCons (mVar 2) (mCons (mC (.ty "tuple")) mNil)))) (mVar 2) env st.length (rest.length + 1) 0 (st ++ [.lst []]) = .ok (.ref st.length) (st ++ [.lst parts]) := fun env henv => by
    rw [lc_itemsF tupF (by omega) rfl rfl (fun x acc hx => ?_), hp]
    refine ⟨env.set 2 (some x), rfl, ?_⟩
    have h8 : (env.set 2 (some x))[2]? = some (some x) := by simp [henv]
    cases hf x hx with
    | tup xs =>
      simp only [tupF]
      constructor
      · simp -implicitDefEqProofs [h8, gIsi_tup, henv]
      · simp -implicitDefEqProofs [h8, henv]
    | str y =>
      simp only [tupF]
      simp -implicitDefEqProofs [h8, gIsi_str, henv]
    | int y =>
      simp only [tupF]
      simp -implicitDefEqProofs [h8, gIsi_int, henv]
  obtain ⟨i, st', q1, q2⟩ := nest_parts (n := n) (e := some (.tup (.str w :: rest))) (o := none) (last_snoc (st := st) (o := .lst parts)) hlp IH
  refine ⟨i, st', ?_, (Gr.app _ _).trans q2⟩
  rw [← q1, m_law_nest_s, fnM1, b_law_nest]
  simp -implicitDefEqProofs [mcut1, hcomp, hw]
theorem nest_call {n : Nat} {f : Str} {es : List MV} (hl : es.length ≤ 20) (IH : ∀ x ∈ es, ∀ st, ∃ i st', m_law_nest n [x] st = .ok (.int i) st' ∧ Gr st st') (st : Mst) : ∃ i st', m_law_nest (n + 1) [callE f es] st = .ok (.int i) st' ∧ Gr st st' := by
  have hcomp : ∀ env : BH.Env, env.length = 3 → lcL (srcItems [.str f, .tup es]) (.nm 2) (mTru (mCallB gIsi (mCons (mVar 2) (mCons (mC (.ty "tuple")) mNil)))) (mVar 2) env st.length 3 0 (st ++ [.lst []]) = .ok (.ref st.length) (st ++ [.lst [.tup es]]) := fun env henv => by
    refine (lc_itemsF (xs := [.str f, .tup es]) (m := 3) tupF (by simp) rfl rfl (fun x acc hx => ?_)).trans rfl
    refine ⟨env.set 2 (some x), rfl, ?_⟩
    have h8 : (env.set 2 (some x))[2]? = some (some x) := by simp [henv]
    simp at hx
    rcases hx with rfl | rfl
    · simp only [tupF]
      simp -implicitDefEqProofs [h8, gIsi_str, henv]
    · simp only [tupF]
      constructor
      · simp -implicitDefEqProofs [h8, gIsi_tup, henv]
      · simp -implicitDefEqProofs [h8, henv]
  have hli := gList_tup (xs := es) (st := st ++ [.lst [.tup es]]) (by omega)
  obtain ⟨i, st', q1, q2⟩ := nest_parts (n := n) (e := some (callE f es)) (o := none) (st := st ++ [.lst [.tup es]] ++ [.lst es]) last_snoc hl IH
  refine ⟨i, st', ?_, ((Gr.app _ _).trans (.app _ _)).trans q2⟩
  rw [← q1, m_law_nest_s, fnM1, b_law_nest]
  simp -implicitDefEqProofs [mcut1, hcomp, hli]
theorem nest_ok : ∀ (d : Nat) (s : Nat) (sc : List Str) (e : MV), WF fs d s sc e → ∀ n, d ≤ n → ∀ st, ∃ i st', m_law_nest n [e] st = .ok (.int i) st' ∧ Gr st st'
  | 0, _, _, _, h, _, _, _ => by cases h
  | d + 1, s, sc, e, h, n, hn, st => by
    obtain ⟨m, rfl⟩ : ∃ m, n = m + 1 := ⟨n - 1, by omega⟩
    have k : ∀ {s sc e}, WF fs d s sc e → ∀ st, ∃ i st', m_law_nest m [e] st = .ok (.int i) st' ∧ Gr st st' := fun h st => nest_ok d _ _ _ h m (by omega) st
    have ks : ∀ {es : List MV} {s sc}, WFs fs d s sc es → ∀ x ∈ es, ∀ st, ∃ i st', m_law_nest m [x] st = .ok (.int i) st' ∧ Gr st st' := by
      intro es
      induction es with
      | nil => intro s sc _ x hx; cases hx
      | cons y ys ih =>
        intro s sc h x hx
        cases h with
        | cons h hs _ =>
          rcases List.mem_cons.mp hx with rfl | hx
          · exact k h
          · exact ih hs x hx
    have fi : ∀ (xs : List Int) (x : MV), x ∈ xs.map MV.int → Flat x := fun xs x hx => by
      obtain ⟨y, _, rfl⟩ := List.mem_map.mp hx
      exact .int y
    have fz : ∀ xs : List Int, (xs.map MV.int).filterMap tupF = [] := fun xs => by
      induction xs with
      | nil => rfl
      | cons x xs ih => simpa [tupF] using ih
    cases h with
    | num i h => exact nest_val (parts := []) rfl (fun x hx => by simp at hx; subst hx; exact .int _) rfl (by simp) (fun x hx => by cases hx) st
    | var x hx ho h => exact nest_val (parts := []) rfl (fun x hx => by simp at hx; subst hx; exact .str _) rfl (by simp) (fun x hx => by cases hx) st
    | piece w xs hw hx h => exact nest_val (parts := []) (by rcases hw with rfl | rfl <;> rfl) (fi xs) (fz xs) (by simp; omega) (fun x hx => by cases hx) st
    | lay w nm xs hw ho hx h =>
      refine nest_val (parts := []) ?_ (fun x hx => ?_) (by simpa [tupF] using fz xs) (by simp; omega) (fun x hx => by cases hx) st
      · simp only [List.any_cons, List.any_nil, Bool.or_false, Bool.or_eq_true, beq_iff_eq] at hw
        rcases hw with rfl | rfl | rfl | rfl <;> rfl
      · rcases List.mem_cons.mp hx with rfl | hx
        · exact .str _
        · exact fi xs x hx
    | give w nm hw ho ha h =>
      obtain ⟨ya, rfl⟩ := ha.tup
      exact nest_val (parts := [.tup ya]) (by rcases hw with rfl | rfl <;> rfl) (fun x hx => by simp at hx; rcases hx with rfl | rfl; exact .str _; exact .tup _) rfl (by simp) (fun x hx => by simp at hx; subst hx; exact k ha) st
    | mod i ha h =>
      obtain ⟨ya, rfl⟩ := ha.tup
      exact nest_val (parts := [.tup ya]) rfl (fun x hx => by simp at hx; rcases hx with rfl | rfl; exact .tup _; exact .int _) rfl (by simp) (fun x hx => by simp at hx; subst hx; exact k ha) st
    | val w hw ha hl h =>
      refine nest_val ?_ (fun x hx => by obtain ⟨ys, rfl⟩ := ha.tup x hx; exact .tup _) (tup_all ha.tup) (by omega) (ks ha) st
      simp only [List.any_cons, List.any_nil, Bool.or_false, Bool.or_eq_true, beq_iff_eq] at hw
      rcases hw with rfl | rfl | rfl | rfl | rfl <;> rfl
    | lets x ho ha hb h =>
      obtain ⟨ya, rfl⟩ := ha.tup
      obtain ⟨yb, rfl⟩ := hb.tup
      exact nest_val (parts := [.tup ya, .tup yb]) rfl (fun x hx => by simp at hx; rcases hx with rfl | rfl | rfl; exact .str _; exact .tup _; exact .tup _) rfl (by simp) (fun x hx => by simp at hx; rcases hx with rfl | rfl; exact k ha; exact k hb) st
    | ite ha hb he h =>
      obtain ⟨ya, rfl⟩ := ha.tup
      obtain ⟨yb, rfl⟩ := hb.tup
      obtain ⟨ye, rfl⟩ := he.tup
      exact nest_val (parts := [.tup ya, .tup yb, .tup ye]) rfl (fun x hx => by simp at hx; rcases hx with rfl | rfl | rfl <;> exact .tup _) rfl (by simp) (fun x hx => by simp at hx; rcases hx with rfl | rfl | rfl; exact k ha; exact k hb; exact k he) st
    | rep i x ho ha hb h =>
      obtain ⟨ya, rfl⟩ := ha.tup
      obtain ⟨yb, rfl⟩ := hb.tup
      exact nest_val (parts := [.tup ya, .tup yb]) rfl (fun x hx => by simp at hx; rcases hx with rfl | rfl | rfl | rfl; exact .int _; exact .str _; exact .tup _; exact .tup _) rfl (by simp) (fun x hx => by simp at hx; rcases hx with rfl | rfl; exact k ha; exact k hb) st
    | tri nm i ho ha hb h =>
      obtain ⟨ya, rfl⟩ := ha.tup
      obtain ⟨yb, rfl⟩ := hb.tup
      exact nest_val (parts := [.tup ya, .tup yb]) rfl (fun x hx => by simp at hx; rcases hx with rfl | rfl | rfl | rfl; exact .str _; exact .int _; exact .tup _; exact .tup _) rfl (by simp) (fun x hx => by simp at hx; rcases hx with rfl | rfl; exact k ha; exact k hb) st
    | call f hf ha hl h => exact nest_call (by omega) (ks ha) st
end
end K17

set_option Elab.async false
set_option linter.all false
set_option maxRecDepth 100000
set_option autoImplicit false
/-! k17, plain law: the law's programs. -/
namespace K17
open PySem BH
def FnOk1 (names : List Str) (D S : Nat) (f : Fn) : Prop := WF names D S (f.params.map (·.1)) f.body ∧ (∀ p ∈ f.params, PyData.strOk p.1 = true) ∧ f.params.length ≤ 10
inductive FO (D S : Nat) : List Str → List Fn → Prop where
  | nil {names : List Str} : FO D S names []
  | cons {names : List Str} {f : Fn} {fs : List Fn} (h : FnOk1 names D S f) (hn : f.name ∉ names) (hs : FO D S (names ++ [f.name]) fs) : FO D S names (f :: fs)
theorem FO.at_ {D S : Nat} : ∀ {fs : List Fn} {names : List Str}, FO D S names fs → ∀ (i : Nat) (f : Fn), fs[i]? = some f → FnOk1 (names ++ (fs.take i).map (·.name)) D S f ∧ f.name ∉ names ++ (fs.take i).map (·.name)
  | [], _, _, i, f, h => by simp at h
  | g :: fs, names, h, 0, f, e => by
    cases h with
    | cons h hn hs =>
      simp at e
      subst e
      simpa using ⟨h, hn⟩
  | g :: fs, names, h, i + 1, f, e => by
    cases h with
    | cons h hn hs =>
      have := FO.at_ hs i f (by simpa using e)
      simpa [List.append_assoc] using this
theorem FO.ok {D S : Nat} {fs : List Fn} (h : FO D S [] fs) (hl : fs.length ≤ 10) (hD : 2 * D ≤ 60) (hS : S ≤ 1000) : FnsOk fs := by
  refine ⟨hl, fun i f hf => ?_, fun i f hf => ?_⟩
  · simpa using (h.at_ i f hf).2
  · have := (h.at_ i f hf).1
    simp only [List.nil_append] at this
    exact ⟨⟨D, S, hD, hS, this.1⟩, this.2⟩
theorem FnOk1.mono {names names' : List Str} {D D' S S' : Nat} {f : Fn} (h : FnOk1 names D S f) (hn : ∀ x ∈ names, x ∈ names') (hD : D ≤ D') (hS : S ≤ S') : FnOk1 names' D' S' f :=
  ⟨WF.mono hn _ h.1 hD hS (fun _ h => h), h.2⟩
theorem FO.mono {D D' S S' : Nat} (hD : D ≤ D') (hS : S ≤ S') : ∀ {fs : List Fn} {names : List Str}, FO D S names fs → FO D' S' names fs
  | [], _, _ => .nil
  | f :: fs, names, h => by
    cases h with
    | cons h hn hs => exact .cons (h.mono (fun _ h => h) hD hS) hn (FO.mono hD hS hs)
theorem FO.snoc {D S : Nat} : ∀ {fs : List Fn} {names : List Str} {f : Fn}, FO D S names fs → FnOk1 (names ++ fs.map (·.name)) D S f → f.name ∉ names ++ fs.map (·.name) → FO D S names (fs ++ [f])
  | [], _, f, _, h1, h2 => .cons (by simpa using h1) (by simpa using h2) .nil
  | g :: fs, names, f, h, h1, h2 => by
    cases h with
    | cons h hn hs => exact .cons h hn (FO.snoc hs (by simpa [List.append_assoc] using h1) (by simpa [List.append_assoc] using h2))
/-- one more name before -/
theorem FO.name {D S : Nat} {x : Str} : ∀ {fs : List Fn} {names : List Str}, FO D S names fs → (∀ f ∈ fs, f.name ≠ x) → FO D S (names ++ [x]) fs
  | [], _, _, _ => .nil
  | f :: fs, names, h, hx => by
    cases h with
    | cons h hn hs =>
      refine .cons (h.mono (fun y hy => List.mem_append_left _ hy) (Nat.le_refl _) (Nat.le_refl _)) ?_ ?_
      · intro hy
        rcases List.mem_append.mp hy with hy | hy
        · exact hn hy
        · exact hx f List.mem_cons_self (List.mem_singleton.mp hy)
      · have := FO.name (x := x) hs fun g hg => hx g (List.mem_cons_of_mem _ hg)
        -- the names are the same, in another row
        have perm : ∀ {fs : List Fn} {n1 n2 : List Str}, (∀ y, y ∈ n1 ↔ y ∈ n2) → FO D S n1 fs → FO D S n2 fs := by
          intro fs
          induction fs with
          | nil => intro _ _ _ _; exact .nil
          | cons g gs ih =>
            intro n1 n2 e h
            cases h with
            | cons h hn hs => exact .cons (h.mono (fun y hy => (e y).mp hy) (Nat.le_refl _) (Nat.le_refl _)) (fun q => hn ((e _).mpr q)) (ih (fun y => by simp [e y]) hs)
        exact perm (fun y => by simp [or_comm, or_left_comm, or_assoc]) this
/-- a function is put in at a place -/
theorem FO.insert {D S : Nat} {x : Fn} (hx : FnOk1 [] D S x) : ∀ (at_ : Nat) {fs : List Fn} {names : List Str}, FO D S names fs → (∀ f ∈ fs, f.name ≠ x.name) → x.name ∉ names → FO D S names (fs.take at_ ++ x :: fs.drop at_)
  | 0, fs, names, h, hn, hx2 => by
    simpa using FO.cons (hx.mono (fun y hy => by cases hy) (Nat.le_refl _) (Nat.le_refl _)) hx2 (h.name hn)
  | at_ + 1, [], names, h, hn, hx2 => by
    simpa using FO.cons (hx.mono (fun y hy => by cases hy) (Nat.le_refl _) (Nat.le_refl _)) hx2 FO.nil
  | at_ + 1, f :: fs, names, h, hn, hx2 => by
    cases h with
    | cons h hn2 hs =>
      refine .cons h hn2 (FO.insert hx at_ hs (fun g hg => hn g (List.mem_cons_of_mem _ hg)) ?_)
      intro hy
      rcases List.mem_append.mp hy with hy | hy
      · exact hx2 hy
      · exact hn f List.mem_cons_self (List.mem_singleton.mp hy).symm
def fgN (i : Nat) : Str := if i = 0 then "f" else "g"
structure PO (fs : List Fn) (main : MV) : Prop where
  len : fs.length ≤ 2
  nm : ∀ (i : Nat) (f : Fn), fs[i]? = some f → f.name = fgN i
  fo : FO 18 100 [] fs
  main : WF (fs.map (·.name)) 19 100 [] main
abbrev xyP : List (Str × MV) := [("x", .int 2), ("y", .int 3)]
theorem fg_let : ∀ i ∈ List.range 2, gIx (.str ("fg" : Str)) (.int (i : Nat)) = fun st => .ok (.str (fgN i)) st := by
  intro i hi
  have : i = 0 ∨ i = 1 := by simp at hi; omega
  rcases this with rfl | rfl
  · funext st
    exact gIx_let (i := 0) (c := 102) rfl (by decide)
  · funext st
    exact gIx_let (i := 1) (c := 103) rfl (by decide)
theorem fgN_ok (i : Nat) : PyData.strOk (fgN i) = true := by unfold fgN; split <;> exact strOk_ofString _
theorem fgN_inj {i j : Nat} (hi : i < 2) (hj : j < 2) (h : fgN i = fgN j) : i = j := by
  unfold fgN at h
  split at h <;> split at h
  · omega
  · simp at h
  · simp at h
  · omega
def bodyOf (e : MV) : MV := lets "z" (.tup [.str "pair", .tup [.str "var", .str "x"], .tup [.str "num", .int 1]]) e
theorem body_wf {names : List Str} {e kd : MV} {t l f d : Int} (I : IF names e kd t l f d) (ht : t ≤ 38) (hd : d ≤ 15) : WF names 17 90 ["x", "y"] (bodyOf e) := by
  have h1 : WF names 2 3 ["x", "y"] (.tup [.str "pair", .tup [.str "var", .str "x"], .tup [.str "num", .int 1]]) := .val "pair" rfl (.two (.var "x" (by simp) (strOk_ofString _) (Nat.le_refl 1)) (.num 1 (Nat.le_refl 1))) (by simp) (by omega)
  have a1 := I.t1; have a2 := I.d0
  refine .lets (d := 16) "z" (strOk_ofString _) (h1.up (by omega) (Nat.le_refl _)) (WF.mono (fun _ h => h) _ I.wf (by omega) (Nat.le_refl _) (fun y hy => ?_)) (by omega)
  simp at hy ⊢
  rcases hy with rfl | rfl | rfl <;> simp
def mainOf (a b c : Int) (e : MV) : MV := lets "x" (.tup [.str "num", .int a]) (lets "y" (.tup [.str "num", .int b]) (lets "z" (.tup [.str "pair", .tup [.str "num", .int c], .tup [.str "var", .str "x"]]) e))
theorem main_wf {names : List Str} {e kd : MV} {t l f d a b c : Int} (I : IF names e kd t l f d) (ht : t ≤ 38) (hd : d ≤ 15) : WF names 19 100 [] (mainOf a b c e) := by
  have h1 : WF names 2 3 ["y", "x"] (.tup [.str "pair", .tup [.str "num", .int c], .tup [.str "var", .str "x"]]) := .val "pair" rfl (.two (.num c (Nat.le_refl 1)) (.var "x" (by simp) (strOk_ofString _) (Nat.le_refl 1))) (by simp) (by omega)
  have a1 := I.t1; have a2 := I.d0
  refine .lets (d := 18) (sb := 97) "x" (strOk_ofString _) (.num a (Nat.le_refl 1)) ?_ (by omega)
  refine .lets (d := 17) (sb := 90) "y" (strOk_ofString _) (.num b (Nat.le_refl 1)) ?_ (by omega)
  refine .lets (d := 16) "z" (strOk_ofString _) (h1.up (by omega) (Nat.le_refl _)) (WF.mono (fun _ h => h) _ I.wf (by omega) (Nat.le_refl _) (fun y hy => ?_)) (by omega)
  simp at hy ⊢
  rcases hy with rfl | rfl | rfl <;> simp
theorem set_keep {st : Mst} {a P : Nat} {xs ps : List MV} {o : MO} (h : st[a]? = some (.lst xs)) (hP : st[P]? = some (.lst ps)) (n : xs.length ≠ ps.length) : (st.set P o)[a]? = some (.lst xs) := by
  refine get_set_ne h ?_
  rintro rfl
  rw [h] at hP
  cases hP
  exact n rfl
theorem FI.mono {names names' : List Str} {e kd : MV} {t l f d : Int} (h : FI names e kd t l f d) (hn : ∀ x ∈ names, x ∈ names') : FI names' e kd t l f d := by
  obtain ⟨s, W⟩ := h.wf
  exact ⟨h.kd, h.l0, h.lt, h.f0, h.ft, h.t1, h.tm, s, WF.mono hn _ W (Nat.le_refl _) (Nat.le_refl _) (fun _ h => h)⟩
theorem FL.keep {names : List Str} {st : Mst} {xs : List MV} {P : Nat} {ps : List MV} {o : MO} (h : FL names st xs) (hP : st[P]? = some (.lst ps)) (n : ps.length < 6) : FL names (st.set P o) xs := by
  refine ⟨h.1, fun i x hx => ?_⟩
  obtain ⟨nm, a, e, kd, t, l, f, d, h1, h2, h3, h4, h5⟩ := h.2 i x hx
  exact ⟨nm, a, e, kd, t, l, f, d, h1, h2, h3, set_keep h4 hP (by simp; omega), h5⟩
theorem FL.snoc {names : List Str} {st : Mst} {xs : List MV} {nm : Str} {a : Nat} {e kd : MV} {t l f d : Int} (h : FL names st xs) (ho : PyData.strOk nm = true) (ha : st[a]? = some (.lst (itL e kd t l f d))) (I : FI (names ++ [nm]) e kd t l f d) : FL (names ++ [nm]) st (xs ++ [.tup [.str nm, .ref a]]) := by
  refine ⟨by simp [h.1], fun i x hx => ?_⟩
  rcases getElem?_snoc hx with hx | ⟨rfl, rfl⟩
  · obtain ⟨nm', a', e', kd', t', l', f', d', h1, h2, h3, h4, h5⟩ := h.2 i x hx
    have hi := (List.getElem?_eq_some_iff.mp h2).1
    exact ⟨nm', a', e', kd', t', l', f', d', h1, by rw [List.getElem?_append_left hi]; exact h2, h3, h4, h5.mono (fun x hx => List.mem_append_left _ hx)⟩
  · exact ⟨nm, a, e, kd, t, l, f, d, rfl, by rw [h.1]; simp, ho, ha, I⟩
section
variable {ns : List Int} {st : Mst} {kn : String} {ls : List Lay}
theorem program_ok {count : Nat} (h0 : st[0]? = some (.rol (ns.map .int))) (hk : kn ∈ kernels) (L : LaysOk ls) (hc1 : 1 ≤ count) (hc2 : count ≤ 100) :
    Post (m_law_program [.ref 0, .int 1, .str (Str.ofString kn), .tup (ls.map enc), .int count, .int 38] st) (fun v st' => ∃ fs main, v = .tup [.tup (fs.map Fn.enc), main] ∧ PO fs main ∧ Old st st') := by
  have un : m_law_program [.ref 0, .int 1, .str (Str.ofString kn), .tup (ls.map enc), .int count, .int 38] st = finB (b_law_program ([.ref 0, .int 1, .str (Str.ofString kn), .tup (ls.map enc), .int count, .int 38].map some ++ List.replicate (13 - 6) none) st) := by
    rw [m_law_program, fnM_ap]; rfl
  rw [un, b_law_program]
  obtain ⟨v, st1, p1, R, row, rfl, hR, hr4, hRge, hfr⟩ := row_ok h0 1 4 (by omega)
  have O1 : Old st st1 := fun a o h => hfr [] a o (by simp) h
  obtain ⟨r0, r1, r2, r3, rfl⟩ : ∃ r0 r1 r2 r3, row = [r0, r1, r2, r3] := by
    match row, hr4 with
    | [a, b, c, d], _ => exact ⟨a, b, c, d, rfl⟩
  simp only [Int.natCast_one, Int.cast_ofNat_Int] at p1
  have hFe : (st1 ++ [.lst []])[st1.length]? = some (MO.lst []) := last_snoc
  have G2 := (Gr.app st1 [MO.lst []]).trans (.app _ [MO.lst []])
  have hTe : (st1 ++ [.lst []] ++ [.lst []])[(st1 ++ [MO.lst []]).length]? = some (MO.lst (([] : List Fn).map Fn.enc)) := last_snoc
  have hFe2 : (st1 ++ [.lst []] ++ [.lst []])[st1.length]? = some (MO.lst []) := up hFe
  obtain ⟨st2, e2⟩ : ∃ x, x = st1 ++ [MO.lst []] ++ [MO.lst []] := ⟨_, rfl⟩
  obtain ⟨F0, eF0⟩ : ∃ x, x = st1.length := ⟨_, rfl⟩
  have eT : (st1 ++ [MO.lst []]).length = F0 + 1 := by rw [eF0]; simp
  rw [eT, ← e2] at hTe
  rw [← e2, ← eF0] at hFe2
  rw [← e2] at G2
  have O2 : Old st st2 := O1.trans (.gr G2)
  have e2' : st2 = st1 ++ [MO.lst [], MO.lst []] := by rw [e2]; simp
  have rix : ∀ {st'}, st'[R]? = some (MO.lst ([r0, r1, r2, r3].map .int)) → gIx (.ref R) (.int 0) st' = .ok (.int r0) st' ∧ gIx (.ref R) (.int 1) st' = .ok (.int r1) st' ∧ gIx (.ref R) (.int 2) st' = .ok (.int r2) st' ∧ gIx (.ref R) (.int 3) st' = .ok (.int r3) st' := fun {st'} h => by
    refine ⟨?_, ?_, ?_, ?_⟩ <;> rw [gIx_lst_ap _ _ _ h] <;> simp
  obtain ⟨y0, y1, y2, y3⟩ := rix (G2.get hR)
  obtain ⟨n, hn, bn⟩ := modC (x := r0) (m := 3) (by omega) st2
  have hn : gMod (.int r0) (.int 3) st2 = .ok (.int n) st2 := hn
  have r := rngOf1_nat (j := (n : Int)) (n := n) (st := st2) rfl (by omega)
  have hsl : st.length ≤ F0 := by rw [eF0]; have := lt_of (O1 _ _ h0); have := lt_of hR; omega
  simp -implicitDefEqProofs [p1, ← eF0, ← e2', y0, hn, r]
  refine .finB (.bind (.range (fun i env st' => ∃ Fa xs fs o9 o10 o11, env = [some (.ref 0), some (.int 1), some (.str (Str.ofString kn)), some (.tup (ls.map enc)), some (.int count), some (.int 38), some (.ref R), some (.ref Fa), some (.ref (F0 + 1)), o9, o10, o11, none] ∧
    Old st st' ∧ st'[R]? = some (MO.lst ([r0, r1, r2, r3].map .int)) ∧ st'[Fa]? = some (.lst xs) ∧ FL (fs.map (·.name)) st' xs ∧ st'[F0 + 1]? = some (.lst (fs.map Fn.enc)) ∧ fs.length = i ∧ (∀ (j : Nat) (f : Fn), fs[j]? = some f → f.name = fgN j) ∧ FO 18 100 [] fs)
    ⟨F0, [], [], _, _, _, rfl, O2, G2.get hR, hFe2, ⟨rfl, by simp⟩, hTe, rfl, by simp, .nil⟩ rfl ?_ ?_))
  · rintro i env st' hi ⟨Fa, xs, fs, o9, o10, o11, rfl, O, hR', hF, F, hT, rfl, hnm, hfo⟩
    refine ⟨_, _, rfl, ?_⟩
    obtain ⟨y0, y1, y2, y3⟩ := rix hR'
    obtain ⟨q, hq, bq⟩ := modC (x := r1) (m := 3) (by omega) st'
    have hq : gMod (.int r1) (.int 3) st' = .ok (.int q) st' := hq
    obtain ⟨v, st3, q3, IT, O3⟩ := item_ok (k := 2 + 6 * fs.length) (count := 4 + q) (most := 12) (O _ _ h0) hk L hF F (by omega) (by omega) (by omega)
    simp only [Int.natCast_add, Int.natCast_mul, Int.cast_ofNat_Int] at q3
    have hm := gMul_l 6 (fs.length : Int) st' (by decide)
    have hdv : gDiv (.int 38) (.int 3) st' = .ok (.int 12) st' := by
      rw [gDiv_int 38 3 st' (by omega)]; rfl
    obtain ⟨a, e, kd, t, l, f, d, rfl, hI, IFe, ht, hd⟩ := IT
    obtain ⟨x0, x1, x2, x3, x4, x5⟩ := it_ix hI
    have hfg := congrFun (fg_let fs.length (by simp; omega))
    -- [body, kind, tree + 4] + item[3:]
    have G4 := Gr.app st3 [.lst [bodyOf e, kd, .int (t + 4)]]
    have hA4 : (st3 ++ [.lst [bodyOf e, kd, .int (t + 4)]])[st3.length]? = some (MO.lst [bodyOf e, kd, .int (t + 4)]) := last_snoc
    obtain ⟨st4, e4⟩ : ∃ x, x = st3 ++ [MO.lst [bodyOf e, kd, .int (t + 4)]] := ⟨_, rfl⟩
    obtain ⟨A4, eA4⟩ : ∃ x, x = st3.length := ⟨_, rfl⟩
    rw [← e4, ← eA4] at hA4
    rw [← e4] at G4
    have hs4 := gSl_lst_ap _ st4 (G4.get hI) (some 3) none
    have hcut : mcut (itL e kd t l f d) (some 3) none = [.int l, .int f, .int d] := mcut_from (itL e kd t l f d) 3
    rw [hcut] at hs4
    have hB5 : (st4 ++ [.lst [.int l, .int f, .int d]])[st4.length]? = some (MO.lst [.int l, .int f, .int d]) := last_snoc
    have G5 := Gr.app st4 [.lst [.int l, .int f, .int d]]
    obtain ⟨st5, e5⟩ : ∃ x, x = st4 ++ [MO.lst [.int l, .int f, .int d]] := ⟨_, rfl⟩
    obtain ⟨B5, eB5⟩ : ∃ x, x = st4.length := ⟨_, rfl⟩
    rw [← e5, ← eB5] at hB5 hs4
    rw [← e5] at G5
    obtain ⟨R6, st6, q6, G6, h6⟩ := cat2_ok (G5.get hA4) hB5 (by simp)
    obtain ⟨R7, st7, q7, G7, h7⟩ := cat_ok (ys := [.tup [.str (fgN fs.length), .ref R6]]) (G6.get (G5.get (G4.get (O3 _ _ hF)))) (by simp [F.1]; omega)
    have G37 := ((G4.trans G5).trans G6).trans G7
    have hT7 := G37.get (O3 _ _ hT)
    have ht7 := tyM_lst hT7
    have ha7 := gAppend_lst (y := Fn.enc ⟨fgN fs.length, xyP, bodyOf e⟩) hT7 (by simp; omega)
    simp only [bodyOf] at e4
    have hne7 : F0 + 1 ≠ R7 := by
      rintro rfl
      rw [h7] at hT7
      simp only [Option.some.injEq, MO.lst.injEq] at hT7
      have hl := congrArg List.length hT7
      simp [F.1] at hl
    have O8 : Old st (st7.set (F0 + 1) (.lst (fs.map Fn.enc ++ [Fn.enc ⟨fgN fs.length, xyP, bodyOf e⟩]))) := ((O.trans O3).trans (.gr G37)).set (by omega)
    obtain ⟨nf, enf⟩ : ∃ x : Fn, x = ⟨fgN fs.length, xyP, bodyOf e⟩ := ⟨_, rfl⟩
    have nfn : nf.name = fgN fs.length := by rw [enf]
    rw [← enf] at ha7 O8
    have hnew : nf.name ∉ fs.map (·.name) := fun hx => by
      obtain ⟨g, hg, eg⟩ := List.mem_map.mp hx
      obtain ⟨j, hj, ej⟩ := List.getElem_of_mem hg
      have hjn := hnm j g (by simp [hj, ej])
      rw [nfn, hjn] at eg
      have := fgN_inj (by omega) (by omega) eg
      omega
    have B1 := body_wf IFe ht hd
    have ok1 : FnOk1 ([] ++ fs.map (·.name)) 18 100 nf := by
      rw [enf]
      refine ⟨B1.up (by omega) (by omega), fun p hp => ?_, by simp⟩
      simp at hp
      rcases hp with rfl | rfl <;> exact strOk_ofString _
    have F8 : FL (fs.map (·.name) ++ [fgN fs.length]) (st7.set (F0 + 1) (.lst (fs.map Fn.enc ++ [Fn.enc nf]))) (xs ++ [.tup [.str (fgN fs.length), .ref R6]]) := by
      refine FL.keep (FL.snoc (F.old (O3.trans (.gr G37))) (fgN_ok _) (e := bodyOf e) (kd := kd) (t := t + 4) (l := l) (f := f) (d := d) (G7.get h6) ?_) hT7 (by simp; omega)
      have a1 := IFe.l0; have a2 := IFe.lt; have a3 := IFe.f0; have a4 := IFe.ft; have a5 := IFe.t1
      exact ⟨IFe.kd, a1, by omega, a3, by omega, by omega, by omega, 90, WF.mono (fun x hx => List.mem_append_left _ hx) _ B1 (by omega) (Nat.le_refl _) (fun y hy => by simp at hy ⊢; rcases hy with rfl | rfl <;> simp)⟩
    refine .nx (env := [some (.ref 0), some (.int 1), some (.str (Str.ofString kn)), some (.tup (ls.map enc)), some (.int count), some (.int 38), some (.ref R), some (.ref R7), some (.ref (F0 + 1)), some (.int (0 + (fs.length : Int))), some (.ref a), some (bodyOf e), none]) (st := st7.set (F0 + 1) (.lst (fs.map Fn.enc ++ [Fn.enc nf]))) ?_
      ⟨R7, xs ++ [.tup [.str (fgN fs.length), .ref R6]], fs ++ [nf], _, _, _, rfl, O8, set_keep (G37.get (O3 _ _ hR')) hT7 (by simp; omega), set_keep h7 hT7 (by simp [F.1]), by simpa [nfn] using F8, by rw [get_set hT7]; simp, by simp, fun j g hj => ?_, hfo.snoc ok1 (by simpa using hnew)⟩
    · simp only [enf, Fn.enc, List.map_cons, List.map_nil, bodyOf] at ha7
      have e26 : (1 : Int) + 1 + 6 * (fs.length : Int) = 2 + 6 * fs.length := by omega
      simp -implicitDefEqProofs [y1, hq, hm, hdv, e26, q3, x0, hfg, x1, x2, ← e4, ← eA4, hs4, q6, q7, ht7, ha7, enf, Fn.enc, bodyOf]
    · rcases getElem?_snoc hj with hj | ⟨rfl, rfl⟩
      · exact hnm j g hj
      · exact nfn
  · rintro env st' ⟨Fa, xs, fs, o9, o10, o11, rfl, O, hR', hF, F, hT, rfl, hnm, hfo⟩
    obtain ⟨y0, y1, y2, y3⟩ := rix hR'
    obtain ⟨v, st3, q3, IT, O3⟩ := item_ok (k := 14) (count := count) (most := 38) (O _ _ h0) hk L hF F hc1 hc2 (by omega)
    simp only [Int.cast_ofNat_Int] at q3
    obtain ⟨a, e, kd, t, l, f, d, rfl, hI, IFe, htm, hd⟩ := IT
    obtain ⟨x0, x1, x2, x3, x4, x5⟩ := it_ix hI
    obtain ⟨z0, z1, z2, z3⟩ := rix (O3 _ _ hR')
    obtain ⟨j2, m2, b2⟩ := modC (x := r2) (m := 2) (by omega) st3
    have m2 : gMod (.int r2) (.int 2) st3 = .ok (.int j2) st3 := m2
    obtain ⟨j3, m3, b3⟩ := modC (x := r2) (m := 3) (by omega) st3
    have m3 : gMod (.int r2) (.int 3) st3 = .ok (.int j3) st3 := m3
    obtain ⟨j4, m4, b4⟩ := modC (x := r3) (m := 2) (by omega) st3
    have m4 : gMod (.int r3) (.int 2) st3 = .ok (.int j4) st3 := m4
    have ht := gTuple_lst (O3 _ _ hT)
    simp -implicitDefEqProofs [q3, z2, m2, x0, z3, m4, m3, ht]
    exact ⟨fs, mainOf j4 j3 j2 e, ⟨rfl, rfl⟩, ⟨by omega, hnm, hfo, main_wf IFe htm hd⟩, O.trans O3⟩
end
end K17

set_option Elab.async false
set_option linter.all false
set_option maxRecDepth 100000
set_option autoImplicit false
/-! k17, plain law: one function more. -/
namespace K17
open PySem BH
def tailM : MS := (sSeq (sAsg (mBin gMod (mCallB gInt (mCons (mBin gIx (mVar 1) (mC (.int 5))) mNil)) (mBin gAdd (mCallB gLen (mCons (mBin gIx (mVar 0) (mC (.int 0))) mNil)) (mC (.int 1)))) (gtName 10))
    (sSeq (sAsg (mBin gAdd (mBin gAdd (mCallB gList (mCons (mSl (mBin gIx (mVar 0) (mC (.int 0))) mNoPart (mPart (mVar 10))) mNil)) (mLst (mCons (mVar 5) mNil))) (mCallB gList (mCons (mSl (mBin gIx (mVar 0) (mC (.int 0))) (mPart (mVar 10)) mNoPart) mNil))) (gtName 11))
    (sRet (mTup (mCons (mCallB gTuple (mCons (mVar 11) mNil)) (mCons (mTup (mCons (mC (.str "pair")) (mCons (mTup (mCons (mC (.str "call")) (mCons (mC (.str "main")) (mCons (mVar 6) mNil)))) (mCons (mBin gIx (mVar 0) (mC (.int 1))) mNil)))) mNil))))))
theorem b_more_eq : b_law_more = sSeq (sAsg (mLc (iRange1 (mCons (mC (.int 3)) mNil)) [10] (.nm 10) mYes (mTup (mCons (mC (.str "num")) (mCons (mBin gMod (mCallB gInt (mCons (mBin gIx (mVar 1) (mVar 10)) mNil)) (mBin gAdd (mC (.int 2)) (mVar 10))) mNil)))) (gtName 2)) (sSeq (sAsg (mTup (mCons (mC (.str "pair")) (mCons (mBin gIx (mVar 2) (mC (.int 1))) (mCons (mBin gIx (mVar 2) (mC (.int 2))) mNil)))) (gtName 3)) (sSeq (sAsg (mBin gMod (mCallB gInt (mCons (mBin gIx (mVar 1) (mC (.int 3))) mNil)) (mC (.int 4))) (gtName 4)) (sSeq (sIf (mTest (mBin gEq (mVar 4) (mC (.int 0)))) (sSeq (sAsg (mTup (mCons (mC (.str "main")) (mCons (mTup mNil) (mCons (mTup (mCons (mC (.str "num")) (mCons (mBin gMod (mCallB gInt (mCons (mBin gIx (mVar 1) (mC (.int 4))) mNil)) (mC (.int 60))) mNil))) mNil)))) (gtName 5))
    (sAsg (mTup mNil) (gtName 6))) (sIf (mTest (mBin gEq (mVar 4) (mC (.int 1)))) (sSeq (sAsg (mTup (mCons (mC (.str "pair")) (mCons (mTup (mCons (mC (.str "num")) (mCons (mBin gMod (mCallB gInt (mCons (mBin gAdd (mBin gIx (mVar 1) (mC (.int 1))) (mBin gMod (mBin gIx (mVar 1) (mC (.int 4))) (mC (.int 2)))) mNil)) (mC (.int 3))) mNil))) (mCons (mTup (mCons (mC (.str "num")) (mCons (mBin gMod (mCallB gInt (mCons (mBin gAdd (mBin gIx (mVar 1) (mC (.int 2))) (mBin gMod (mBin gDiv (mBin gIx (mVar 1) (mC (.int 4))) (mC (.int 2))) (mC (.int 2)))) mNil)) (mC (.int 4))) mNil))) mNil)))) (gtName 7))
    (sSeq (sAsg (mTup (mCons (mC (.str "same")) (mCons (mTup (mCons (mC (.str "pair")) (mCons (mTup (mCons (mC (.str "var")) (mCons (mC (.str "z")) mNil))) (mCons (mTup (mCons (mC (.str "num")) (mCons (mC (.int 0)) mNil))) mNil)))) (mCons (mTup (mCons (mC (.str "pair")) (mCons (mVar 7) (mCons (mTup (mCons (mC (.str "num")) (mCons (mC (.int 0)) mNil))) mNil)))) mNil)))) (gtName 8))
    (sSeq (sAsg (mTup (mCons (mC (.str "main")) (mCons (mTup (mCons (mTup (mCons (mC (.str "z")) (mCons (mTup (mCons (mC (.int 3)) (mCons (mC (.int 4)) mNil))) mNil))) mNil)) (mCons (mTup (mCons (mC (.str "pair")) (mCons (mTup (mCons (mC (.str "first")) (mCons (mTup (mCons (mC (.str "var")) (mCons (mC (.str "z")) mNil))) mNil))) (mCons (mVar 8) mNil)))) mNil)))) (gtName 5))
    (sAsg (mTup (mCons (mVar 3) mNil)) (gtName 6))))) (sIf (mTest (mBin gEq (mVar 4) (mC (.int 2)))) (sSeq (sAsg (mTup (mCons (mC (.str "if")) (mCons (mTup (mCons (mC (.str "var")) (mCons (mC (.str "a")) mNil))) (mCons (mTup (mCons (mC (.str "var")) (mCons (mC (.str "x")) mNil))) (mCons (mTup (mCons (mC (.str "second")) (mCons (mTup (mCons (mC (.str "var")) (mCons (mC (.str "b")) mNil))) mNil))) mNil))))) (gtName 9))
    (sSeq (sAsg (mTup (mCons (mC (.str "main")) (mCons (mTup (mCons (mTup (mCons (mC (.str "a")) (mCons (mC (.int 2)) mNil))) (mCons (mTup (mCons (mC (.str "x")) (mCons (mC (.int 3)) mNil))) (mCons (mTup (mCons (mC (.str "b")) (mCons (mTup (mCons (mC (.int 3)) (mCons (mC (.int 4)) mNil))) mNil))) mNil)))) (mCons (mVar 9) mNil)))) (gtName 5))
    (sAsg (mTup (mCons (mBin gIx (mVar 2) (mC (.int 0))) (mCons (mBin gIx (mVar 2) (mC (.int 1))) (mCons (mVar 3) mNil)))) (gtName 6)))) (sSeq (sAsg (mTup (mCons (mC (.str "let")) (mCons (mC (.str "x")) (mCons (mTup (mCons (mC (.str "pair")) (mCons (mTup (mCons (mC (.str "var")) (mCons (mC (.str "x")) mNil))) (mCons (mTup (mCons (mC (.str "var")) (mCons (mC (.str "f")) mNil))) mNil)))) (mCons (mTup (mCons (mC (.str "pair")) (mCons (mTup (mCons (mC (.str "var")) (mCons (mC (.str "x")) mNil))) (mCons (mTup (mCons (mC (.str "var")) (mCons (mC (.str "f")) mNil))) mNil)))) mNil))))) (gtName 9))
    (sSeq (sAsg (mTup (mCons (mC (.str "main")) (mCons (mTup (mCons (mTup (mCons (mC (.str "x")) (mCons (mC (.int 3)) mNil))) (mCons (mTup (mCons (mC (.str "f")) (mCons (mC (.int 4)) mNil))) mNil))) (mCons (mVar 9) mNil)))) (gtName 5))
    (sAsg (mTup (mCons (mBin gIx (mVar 2) (mC (.int 1))) (mCons (mBin gIx (mVar 2) (mC (.int 2))) mNil))) (gtName 6))))))) tailM))) := rfl

abbrev row6 (r0 r1 r2 r3 r4 r5 : Int) : List MV := [.int r0, .int r1, .int r2, .int r3, .int r4, .int r5]
theorem row6_ix {st : Mst} {R : Nat} {r0 r1 r2 r3 r4 r5 : Int} (h : st[R]? = some (.lst (row6 r0 r1 r2 r3 r4 r5))) : gIx (.ref R) (.int 0) st = .ok (.int r0) st ∧ gIx (.ref R) (.int 1) st = .ok (.int r1) st ∧ gIx (.ref R) (.int 2) st = .ok (.int r2) st ∧
    gIx (.ref R) (.int 3) st = .ok (.int r3) st ∧ gIx (.ref R) (.int 4) st = .ok (.int r4) st ∧ gIx (.ref R) (.int 5) st = .ok (.int r5) st := by
  refine ⟨?_, ?_, ?_, ?_, ?_, ?_⟩ <;> rw [gIx_lst_ap _ _ _ h] <;> simp
abbrev progV (fs : List Fn) (main : MV) : MV := .tup [.tup (fs.map Fn.enc), main]
structure PO2 (fs : List Fn) (main : MV) : Prop where
  len : fs.length ≤ 5
  fo : FO 28 400 [] fs
  main : WF (fs.map (·.name)) 28 400 [] main
theorem take_map {α γ : Type} (f : α → γ) (xs : List α) (n : Nat) : (xs.map f).take n = (xs.take n).map f := by simp [List.map_take]
section
variable {fs : List Fn} {main : MV} {x : Fn} {hd : List MV} {st : Mst} {R : Nat} {r0 r1 r2 r3 r4 r5 : Int}
theorem tailM_ok {o2 o3 o4 o7 o8 o9 o10 o11 : Option MV} (hR : st[R]? = some (.lst (row6 r0 r1 r2 r3 r4 r5))) (hl : fs.length ≤ 2) (hh : hd.length ≤ 3) :
    Post (finB (tailM [some (progV fs main), some (.ref R), o2, o3, o4, some x.enc, some (.tup hd), o7, o8, o9, o10, o11] st)) (fun v st' => (∃ j, v = progV (fs.take j ++ x :: fs.drop j) (.tup [.str "pair", callE "main" hd, main])) ∧ Gr st st') := by
  obtain ⟨y0, y1, y2, y3, y4, y5⟩ := row6_ix hR
  obtain ⟨j, hj, bj⟩ := modC (x := r5) (m := fs.length + 1) (by omega) st
  simp only [Int.natCast_add, Int.cast_ofNat_Int] at hj
  have c1 := mcut_to (fs.map Fn.enc) j
  have c2 := mcut_from (fs.map Fn.enc) j
  have l1 := gList_tup (xs := (fs.map Fn.enc).take j) (st := st) (by simp; omega)
  have hA : (st ++ [.lst ((fs.map Fn.enc).take j)])[st.length]? = some (MO.lst ((fs.map Fn.enc).take j)) := last_snoc
  have G1 := Gr.app st [.lst ((fs.map Fn.enc).take j)]
  obtain ⟨st1, e1⟩ : ∃ x, x = st ++ [MO.lst ((fs.map Fn.enc).take j)] := ⟨_, rfl⟩
  obtain ⟨A, eA⟩ : ∃ x, x = st.length := ⟨_, rfl⟩
  rw [← e1, ← eA] at hA l1
  rw [← e1] at G1
  obtain ⟨R2, st2, q2, G2, h2⟩ := cat_ok (ys := [x.enc]) hA (by simp; omega)
  have l3 := gList_tup (xs := (fs.map Fn.enc).drop j) (st := st2) (by simp; omega)
  have hB : (st2 ++ [.lst ((fs.map Fn.enc).drop j)])[st2.length]? = some (MO.lst ((fs.map Fn.enc).drop j)) := last_snoc
  have G3 := Gr.app st2 [.lst ((fs.map Fn.enc).drop j)]
  obtain ⟨st3, e3⟩ : ∃ x, x = st2 ++ [MO.lst ((fs.map Fn.enc).drop j)] := ⟨_, rfl⟩
  obtain ⟨B, eB⟩ : ∃ x, x = st2.length := ⟨_, rfl⟩
  rw [← e3, ← eB] at hB l3
  rw [← e3] at G3
  obtain ⟨R4, st4, q4, G4, h4⟩ := cat2_ok (G3.get h2) hB (by simp; omega)
  have ht := gTuple_lst h4
  unfold tailM
  simp -implicitDefEqProofs [y5, hj, c1, l1, q2, c2, l3, q4, ht, -List.map_take, -List.map_drop]
  exact ⟨⟨j, by simp [List.map_take, List.map_drop]⟩, ((G1.trans G2).trans G3).trans G4⟩
theorem lc3 (hR : st[R]? = some (.lst (row6 r0 r1 r2 r3 r4 r5))) (o0 : Option MV) : lcL (srcRange 0 3) (.nm 10) mYes (mTup (mCons (mC (.str "num")) (mCons (mBin gMod (mCallB gInt (mCons (mBin gIx (mVar 1) (mVar 10)) mNil)) (mBin gAdd (mC (.int 2)) (mVar 10))) mNil))) [o0, some (.ref R), none, none, none, none, none, none, none, none, none, none] st.length 4 0 (st ++ [.lst []]) =
    .ok (.ref st.length) (st ++ [.lst [.tup [.str "num", .int (r0 % 2)], .tup [.str "num", .int (r1 % 3)], .tup [.str "num", .int (r2 % 4)]]]) := by
  have ix := fun (g : Mst) => row6_ix (up hR (g := g))
  have i0 := fun g => (ix g).1
  have i1 := fun g => (ix g).2.1
  have i2 := fun g => (ix g).2.2.1
  have m2 := fun i st => gMod_int i 2 st (by omega)
  have m3 := fun i st => gMod_int i 3 st (by omega)
  have m4 := fun i st => gMod_int i 4 st (by omega)
  simp -implicitDefEqProofs [lcL, srcRange, lappend, i0, i1, i2, m2, m3, m4]
theorem nm_ne {fs : List Fn} (h : ∀ (i : Nat) (f : Fn), fs[i]? = some f → f.name = fgN i) {s : String} (hs : (s == "f") = false) (hs2 : (s == "g") = false) : ∀ f ∈ fs, f.name ≠ (s : Str) := fun f hf e => by
  obtain ⟨j, hj, ej⟩ := List.getElem_of_mem hf
  have := h j f (by simp [hj, ej])
  rw [e] at this
  unfold fgN at this
  split at this
  · simp at this
    rw [this] at hs
    simp at hs
  · simp at this
    rw [this] at hs2
    simp at hs2
theorem num_wf {names : List Str} {sc : List Str} (i : Int) : WF names 1 1 sc (.tup [.str "num", .int i]) := .num i (Nat.le_refl 1)
theorem var_wf {names : List Str} {sc : List Str} {x : String} (h : (x : Str) ∈ sc) : WF names 1 1 sc (.tup [.str "var", .str x]) := .var x h (strOk_ofString x) (Nat.le_refl 1)
theorem v1 {names : List Str} {d s : Nat} {sc : List Str} {a : MV} (w : String) (hw : w = "first" ∨ w = "second") (ha : WF names d s sc a) : WF names (d + 1) (s + 1) sc (.tup [.str w, a]) := .val w (by rcases hw with rfl | rfl <;> rfl) (.one ha) (by simp) (Nat.le_refl _)
theorem v2 {names : List Str} {d d' D s s' : Nat} {sc : List Str} {a b : MV} (w : String) (hw : w = "pair" ∨ w = "sum" ∨ w = "same") (ha : WF names d s sc a) (hb : WF names d' s' sc b) (h : d ≤ D) (h' : d' ≤ D) : WF names (D + 1) (s + s' + 1) sc (.tup [.str w, a, b]) :=
  .val w (by rcases hw with rfl | rfl | rfl <;> rfl) (.two (ha.up h (Nat.le_refl _)) (hb.up h' (Nat.le_refl _))) (by simp) (Nat.le_refl _)
theorem more_ok (hR : st[R]? = some (.lst (row6 r0 r1 r2 r3 r4 r5))) (P : PO fs main) :
    Post (m_law_more [progV fs main, .ref R] st) (fun v st' => (∃ fs' main', v = progV fs' main' ∧ PO2 fs' main') ∧ Gr st st') := by
  rw [m_law_more, fnM2, b_more_eq]
  have h3 := fun o => lc3 hR o
  have hN : (st ++ [.lst [.tup [.str "num", .int (r0 % 2)], .tup [.str "num", .int (r1 % 3)], .tup [.str "num", .int (r2 % 4)]]])[st.length]? = some (MO.lst [.tup [.str "num", .int (r0 % 2)], .tup [.str "num", .int (r1 % 3)], .tup [.str "num", .int (r2 % 4)]]) := last_snoc
  have G1 := Gr.app st [.lst [.tup [.str "num", .int (r0 % 2)], .tup [.str "num", .int (r1 % 3)], .tup [.str "num", .int (r2 % 4)]]]
  obtain ⟨st1, e1⟩ : ∃ x, x = st ++ [MO.lst [.tup [.str "num", .int (r0 % 2)], .tup [.str "num", .int (r1 % 3)], .tup [.str "num", .int (r2 % 4)]]] := ⟨_, rfl⟩
  obtain ⟨N, eN⟩ : ∃ x, x = st.length := ⟨_, rfl⟩
  rw [← e1, ← eN] at hN
  simp only [← e1, ← eN] at h3
  rw [← e1] at G1
  have hR1 := G1.get hR
  obtain ⟨y0, y1, y2, y3, y4, y5⟩ := row6_ix hR1
  have n0 : gIx (.ref N) (.int 0) st1 = .ok (.tup [.str "num", .int (r0 % 2)]) st1 := by rw [gIx_lst_ap _ _ _ hN]; simp
  have n1 : gIx (.ref N) (.int 1) st1 = .ok (.tup [.str "num", .int (r1 % 3)]) st1 := by rw [gIx_lst_ap _ _ _ hN]; simp
  have n2 : gIx (.ref N) (.int 2) st1 = .ok (.tup [.str "num", .int (r2 % 4)]) st1 := by rw [gIx_lst_ap _ _ _ hN]; simp
  obtain ⟨w, hw, bw⟩ := modC (x := r3) (m := 4) (by omega) st1
  have hw : gMod (.int r3) (.int 4) st1 = .ok (.int w) st1 := hw
  have m60 := gMod_int r4 60 st1 (by omega)
  have m2 := fun i => gMod_int i 2 st1 (by omega)
  have m3 := fun i => gMod_int i 3 st1 (by omega)
  have m4 := fun i => gMod_int i 4 st1 (by omega)
  have d2 := gDiv_int r4 2 st1 (by omega)
  have r3' : ∀ st, rngOf1 [.int 3] st = .ok (srcRange 0 3) st := fun st => rfl
  -- what a function more gives
  have fin : ∀ (x : Fn) (hd : List MV) {o2 o3 o4 o7 o8 o9 o10 o11 : Option MV}, x.name = "main" → FnOk1 [] 28 400 x → hd.length ≤ 3 → (∀ names, WFs names 26 200 [] hd) →
      Post (finB (tailM [some (progV fs main), some (.ref R), o2, o3, o4, some x.enc, some (.tup hd), o7, o8, o9, o10, o11] st1)) (fun v st' => (∃ fs' main', v = progV fs' main' ∧ PO2 fs' main') ∧ Gr st st') := by
    intro x hd o2 o3 o4 o7 o8 o9 o10 o11 hn hx hl hW
    refine (tailM_ok hR1 P.len hl).imp fun v st' q => ?_
    obtain ⟨⟨j, rfl⟩, G⟩ := q
    refine ⟨⟨_, _, rfl, ?_, ?_, ?_⟩, G1.trans G⟩
    · have := P.len
      simp
      omega
    · exact FO.insert hx j (P.fo.mono (by omega) (by omega)) (fun f hf => by rw [hn]; exact nm_ne P.nm rfl rfl f hf) (by simp)
    · have sub : ∀ y ∈ fs.map (·.name), y ∈ (fs.take j ++ x :: fs.drop j).map (·.name) := fun y hy => by
        have : fs.map (·.name) = (fs.take j).map (·.name) ++ (fs.drop j).map (·.name) := by rw [← List.map_append, List.take_append_drop]
        rw [this] at hy
        rw [List.map_append, List.map_cons]
        rcases List.mem_append.mp hy with hy | hy
        · exact List.mem_append_left _ hy
        · exact List.mem_append_right _ (List.mem_cons_of_mem _ hy)
      have hcall : WF ((fs.take j ++ x :: fs.drop j).map (·.name)) 27 201 [] (callE "main" hd) := .call "main" (by rw [← hn]; simp) (hW _) (by omega) (Nat.le_refl _)
      exact (v2 (D := 27) "pair" (.inl rfl) hcall (WF.mono sub _ P.main (Nat.le_refl _) (Nat.le_refl _) (fun _ h => h)) (Nat.le_refl _) (by omega)).up (Nat.le_refl _) (by omega)
  have okp : ∀ {ps : List (Str × MV)} {s : List String}, ps.map (·.1) = s.map Str.ofString → ∀ p ∈ ps, PyData.strOk p.1 = true := fun {ps s} h p hp => by
    have : p.1 ∈ ps.map (·.1) := List.mem_map.mpr ⟨p, hp, rfl⟩
    rw [h] at this
    obtain ⟨y, _, e⟩ := List.mem_map.mp this
    rw [← e]
    exact strOk_ofString y
  have pairW : ∀ names sc i j, WF names 2 3 sc (.tup [.str "pair", .tup [.str "num", .int i], .tup [.str "num", .int j]]) := fun names sc i j => v2 (D := 1) "pair" (.inl rfl) (num_wf i) (num_wf j) (Nat.le_refl _) (Nat.le_refl _)
  have hc : w = 0 ∨ w = 1 ∨ w = 2 ∨ w = 3 := by omega
  rcases hc with rfl | rfl | rfl | rfl
  · simp -implicitDefEqProofs [r3', h3, ← e1, ← eN, n1, n2, y3, hw, y4, m60]
    exact fin ⟨"main", [], .tup [.str "num", .int (r4 % 60)]⟩ [] rfl ⟨(num_wf _).up (by omega) (by omega), by simp, by simp⟩ (by simp) (fun _ => .nil)
  · simp -implicitDefEqProofs [r3', h3, ← e1, ← eN, n1, n2, y3, hw, y4, y1, y2, m2, m3, m4, d2]
    refine fin ⟨"main", [("z", .tup [.int 3, .int 4])], .tup [.str "pair", .tup [.str "first", .tup [.str "var", .str "z"]], .tup [.str "same", .tup [.str "pair", .tup [.str "var", .str "z"], .tup [.str "num", .int 0]], .tup [.str "pair", .tup [.str "pair", .tup [.str "num", .int ((r1 + r4 % 2) % 3)], .tup [.str "num", .int ((r2 + r4 / 2 % 2) % 4)]], .tup [.str "num", .int 0]]]]⟩ [.tup [.str "pair", .tup [.str "num", .int (r1 % 3)], .tup [.str "num", .int (r2 % 4)]]] rfl ⟨?_, okp (s := ["z"]) rfl, by simp⟩ (by simp) (fun names => .one ((pairW names [] _ _).up (by omega) (by omega)))
    refine (v2 (D := 4) "pair" (.inl rfl) (v1 "first" (.inl rfl) (var_wf (by simp))) (v2 (D := 3) "same" (.inr (.inr rfl)) (v2 (D := 1) "pair" (.inl rfl) (var_wf (by simp)) (num_wf 0) (by omega) (by omega)) (v2 (D := 2) "pair" (.inl rfl) (pairW _ _ _ _) (num_wf 0) (by omega) (by omega)) (by omega) (by omega)) (by omega) (by omega)).up (by omega) (by omega)
  · simp -implicitDefEqProofs [r3', h3, ← e1, ← eN, n0, n1, n2, y3, hw]
    refine fin ⟨"main", [("a", .int 2), ("x", .int 3), ("b", .tup [.int 3, .int 4])], ite (.tup [.str "var", .str "a"]) (.tup [.str "var", .str "x"]) (.tup [.str "second", .tup [.str "var", .str "b"]])⟩ [.tup [.str "num", .int (r0 % 2)], .tup [.str "num", .int (r1 % 3)], .tup [.str "pair", .tup [.str "num", .int (r1 % 3)], .tup [.str "num", .int (r2 % 4)]]] rfl ⟨?_, okp (s := ["a", "x", "b"]) rfl, by simp⟩ (by simp)
      (fun names => .cons ((num_wf _).up (by omega) (Nat.le_refl _)) (.cons ((num_wf _).up (by omega) (Nat.le_refl _)) (.one ((pairW names [] _ _).up (by omega) (Nat.le_refl _))) (Nat.le_refl _)) (by omega))
    exact WF.up (WF.ite (d := 2) ((var_wf (by simp)).up (by omega) (Nat.le_refl _)) ((var_wf (by simp)).up (by omega) (Nat.le_refl _)) (v1 "second" (.inr rfl) (var_wf (by simp))) (Nat.le_refl _)) (by omega) (by omega)
  · simp -implicitDefEqProofs [r3', h3, ← e1, ← eN, n1, n2, y3, hw]
    refine fin ⟨"main", [("x", .int 3), ("f", .int 4)], lets "x" (.tup [.str "pair", .tup [.str "var", .str "x"], .tup [.str "var", .str "f"]]) (.tup [.str "pair", .tup [.str "var", .str "x"], .tup [.str "var", .str "f"]])⟩ [.tup [.str "num", .int (r1 % 3)], .tup [.str "num", .int (r2 % 4)]] rfl ⟨?_, okp (s := ["x", "f"]) rfl, by simp⟩ (by simp)
      (fun names => .cons ((num_wf _).up (by omega) (Nat.le_refl _)) (.one ((num_wf _).up (by omega) (Nat.le_refl _))) (by omega))
    exact WF.up (WF.lets (d := 2) "x" (strOk_ofString _) (v2 (D := 1) "pair" (.inl rfl) (var_wf (by simp)) (var_wf (by simp)) (by omega) (by omega)) (v2 (D := 1) "pair" (.inl rfl) (var_wf (by simp)) (var_wf (by simp)) (by omega) (by omega)) (Nat.le_refl _)) (by omega) (by omega)
end
end K17

set_option Elab.async false
set_option linter.all false
set_option maxRecDepth 100000
set_option autoImplicit false
/-! k17, plain law: failings that are caught. -/
namespace K17
open PySem BH
section
variable {fs : List Fn} {main : MV} {st : Mst} {R : Nat} {r0 r1 r2 r3 r4 r5 : Int} {ls : List Lay}
theorem caught_po (P : PO fs main) {nm : Str} (hn : PyData.strOk nm = true) (i j : Int) :
    PO2 (fs ++ [⟨"t", [], lets "y" (.tup [.str "num", .int 1]) (.tup [.str "fail", .str nm, .int i])⟩, ⟨"u", [], rep 2 "x" (.tup [.str "num", .int 0]) (lets "w" (.tup [.str "pair", .tup [.str "var", .str "x"], tri nm j (.tup [.str "sum", .tup [.str "num", .int 3], lets "z" (rep 2 "y" (.tup [.str "num", .int 0]) (lets "z" main (callE "t" []))) (callE "t" [])]) main])
      (.tup [.str "sum", .tup [.str "first", .tup [.str "var", .str "w"]], ite (.tup [.str "var", .str "x"]) (.tup [.str "num", .int 1]) (.tup [.str "num", .int 2])]))⟩]) (.tup [.str "pair", callE "u" [], main]) := by
  obtain ⟨F, hF⟩ : ∃ x : Fn, x = ⟨"t", [], lets "y" (.tup [.str "num", .int 1]) (.tup [.str "fail", .str nm, .int i])⟩ := ⟨_, rfl⟩
  obtain ⟨U, hU⟩ : ∃ x : Fn, x = ⟨"u", [], rep 2 "x" (.tup [.str "num", .int 0]) (lets "w" (.tup [.str "pair", .tup [.str "var", .str "x"], tri nm j (.tup [.str "sum", .tup [.str "num", .int 3], lets "z" (rep 2 "y" (.tup [.str "num", .int 0]) (lets "z" main (callE "t" []))) (callE "t" [])]) main])
      (.tup [.str "sum", .tup [.str "first", .tup [.str "var", .str "w"]], ite (.tup [.str "var", .str "x"]) (.tup [.str "num", .int 1]) (.tup [.str "num", .int 2])]))⟩ := ⟨_, rfl⟩
  rw [← hF, ← hU]
  have hl := P.len
  have nF : F.name = "t" := by rw [hF]
  have nU : U.name = "u" := by rw [hU]
  have okF : FnOk1 ([] ++ fs.map (·.name)) 28 400 F := by
    rw [hF]
    refine ⟨WF.up (WF.lets (d := 1) "y" (strOk_ofString _) (num_wf 1) (.lay "fail" nm [i] rfl hn (by simp) (Nat.le_refl 1)) (Nat.le_refl _)) (by omega) (by omega), by simp, by simp⟩
  have okU : FnOk1 ([] ++ (fs ++ [F]).map (·.name)) 28 400 U := by
    rw [hU]
    refine ⟨?_, by simp, by simp⟩
    have hmem : ("t" : Str) ∈ [] ++ (fs ++ [F]).map (·.name) := by simp [nF]
    have sub : ∀ y ∈ fs.map (·.name), y ∈ [] ++ (fs ++ [F]).map (·.name) := fun y hy => by
      rw [List.map_append, List.nil_append]
      exact List.mem_append_left _ hy
    generalize [] ++ (fs ++ [F]).map (·.name) = names at hmem sub
    have ends : ∀ sc d, WF names (d + 1) 1 sc (callE "t" []) := fun sc d => .call (sa := 0) "t" hmem .nil (by simp) (Nat.le_refl _)
    have mn : ∀ sc, WF names 19 100 sc main := fun sc => WF.mono sub _ P.main (Nat.le_refl _) (Nat.le_refl _) (fun x hx => by cases hx)
    have inner : ∀ sc, WF names 21 108 sc (rep 2 "y" (.tup [.str "num", .int 0]) (lets "z" main (callE "t" []))) := fun sc =>
      .rep (d := 20) (sa := 1) (sb := 103) 2 "y" (strOk_ofString _) ((num_wf 0).up (by omega) (Nat.le_refl _)) (.lets (d := 19) "z" (strOk_ofString _) (mn _) (ends _ 18) (by omega)) (by omega)
    have body : ∀ sc, WF names 23 113 sc (.tup [.str "sum", .tup [.str "num", .int 3], lets "z" (rep 2 "y" (.tup [.str "num", .int 0]) (lets "z" main (callE "t" []))) (callE "t" [])]) := fun sc =>
      v2 (D := 22) "sum" (.inr (.inl rfl)) (num_wf 3) (.lets (d := 21) (sa := 108) (sb := 1) (s := 111) "z" (strOk_ofString _) (inner _) (ends _ 20) (by omega)) (by omega) (Nat.le_refl _)
    have tr : ∀ sc, WF names 24 215 sc (tri nm j (.tup [.str "sum", .tup [.str "num", .int 3], lets "z" (rep 2 "y" (.tup [.str "num", .int 0]) (lets "z" main (callE "t" []))) (callE "t" [])]) main) := fun sc =>
      .tri (d := 23) nm j hn (body _) ((mn _).up (by omega) (Nat.le_refl _)) (by omega)
    have lst : ∀ sc, ("w" : Str) ∈ sc → ("x" : Str) ∈ sc → WF names 3 8 sc (.tup [.str "sum", .tup [.str "first", .tup [.str "var", .str "w"]], ite (.tup [.str "var", .str "x"]) (.tup [.str "num", .int 1]) (.tup [.str "num", .int 2])]) := fun sc hw hx =>
      v2 (D := 2) "sum" (.inr (.inl rfl)) (v1 "first" (.inl rfl) (var_wf hw)) (.ite (d := 1) (s := 5) (var_wf hx) (num_wf 1) (num_wf 2) (by omega)) (Nat.le_refl _) (Nat.le_refl _)
    refine .rep (d := 27) (sa := 1) (sb := 300) 2 "x" (strOk_ofString _) ((num_wf 0).up (by omega) (Nat.le_refl _)) ?_ (by omega)
    refine .lets (d := 26) (sa := 217) (sb := 8) "w" (strOk_ofString _) ((v2 (D := 24) "pair" (.inl rfl) (var_wf (by simp)) (tr _) (by omega) (Nat.le_refl _)).up (by omega) (Nat.le_refl _)) ((lst _ (by simp) (by simp)).up (by omega) (Nat.le_refl _)) (by omega)
  have neT := nm_ne P.nm (s := "t") rfl rfl
  have neU := nm_ne P.nm (s := "u") rfl rfl
  have hfo : FO 28 400 [] ((fs ++ [F]) ++ [U]) := by
    refine FO.snoc (FO.snoc (P.fo.mono (by omega) (by omega)) okF ?_) okU ?_
    · rw [nF, List.nil_append]
      intro hx
      obtain ⟨g, hg, e⟩ := List.mem_map.mp hx
      exact neT g hg e
    · rw [nU, List.nil_append, List.map_append]
      intro hx
      rcases List.mem_append.mp hx with hx | hx
      · obtain ⟨g, hg, e⟩ := List.mem_map.mp hx
        exact neU g hg e
      · simp [nF] at hx
  refine ⟨by simp; omega, by simpa [List.append_assoc] using hfo, ?_⟩
  have hmu : ("u" : Str) ∈ (fs ++ [F, U]).map (·.name) := by simp [nU]
  have sub : ∀ y ∈ fs.map (·.name), y ∈ (fs ++ [F, U]).map (·.name) := fun y hy => by
    rw [List.map_append]
    exact List.mem_append_left _ hy
  exact (v2 (D := 19) "pair" (.inl rfl) (WF.call (d := 0) (sa := 0) (s := 1) "u" hmu .nil (by simp) (Nat.le_refl _)) (WF.mono sub _ P.main (Nat.le_refl _) (Nat.le_refl _) (fun _ h => h)) (by omega) (Nat.le_refl _)).up (by omega) (by omega)
theorem caught_ok (hR : st[R]? = some (.lst (row6 r0 r1 r2 r3 r4 r5))) (P : PO fs main) (L : LaysOk ls) :
    Post (m_law_caught [progV fs main, .tup (ls.map enc), .ref R] st) (fun v st' => (∃ fs' main', v = progV fs' main' ∧ PO2 fs' main') ∧ Gr st st') := by
  have hls := L.len
  rw [m_law_caught, fnM3, b_law_caught]
  have hT1 : (st ++ [.lst []])[st.length]? = some (MO.lst ([].map enc)) := last_snoc
  simp -implicitDefEqProofs
  refine .finB (.bind (.items (fun i env st' => ∃ (T : Nat) (tl : List Lay) (o4 : Option MV), env = [some (progV fs main), some (.tup (ls.map enc)), some (.ref R), some (.ref T), o4, none, none, none, none, none, none, none, none] ∧ Gr st st' ∧ st.length ≤ T ∧ st'[T]? = some (.lst (tl.map enc)) ∧
    (∀ x ∈ tl, x ∈ ls ∧ ∃ nm n, x = .fail nm n) ∧ tl.length ≤ i) ⟨st.length, [], _, rfl, .app _ _, Nat.le_refl _, hT1, by simp, by simp⟩ (by simp) ?_ ?_))
  · rintro i x env st' hx ⟨T, tl, o4, rfl, G, hTs, hT, htl, htn⟩
    rw [List.getElem?_map] at hx
    obtain ⟨ly, hly, rfl⟩ := Option.map_eq_some_iff.mp hx
    have hi : i < ls.length := (List.getElem?_eq_some_iff.mp hly).1
    have hin : ly ∈ ls := List.mem_of_getElem? hly
    refine ⟨_, _, rfl, ?_⟩
    have ee0 : ∀ st, gIx (enc ly) (.int 0) st = .ok (.str (word ly)) st := fun st => by simp [enc]
    have same : (word ly == "outside") = false → (word ly == "fail") = false → Turns (fun (env : BH.Env) (st' : Mst) => ∃ (T : Nat) (tl : List Lay) (o4 : Option MV), env = [some (progV fs main), some (.tup (ls.map enc)), some (.ref R), some (.ref T), o4, none, none, none, none, none, none, none, none] ∧ Gr st st' ∧ st.length ≤ T ∧ st'[T]? = some (.lst (tl.map enc)) ∧
        (∀ x ∈ tl, x ∈ ls ∧ ∃ nm n, x = .fail nm n) ∧ tl.length ≤ i + 1) ((sSeq (sIf (mTest (mBin gEq (mBin gIx (mVar 4) (mC (.int 0))) (mC (.str "outside")))) (sAsg (mLst mNil) (gtName 3)) sNext)
        (sIf (mTest (mBin gEq (mBin gIx (mVar 4) (mC (.int 0))) (mC (.str "fail")))) (sExpr (mBM "list" gAppend (mVar 3) (mCons (mVar 4) mNil))) sNext)) [some (progV fs main), some (.tup (ls.map enc)), some (.ref R), some (.ref T), some (enc ly), none, none, none, none, none, none, none, none] st') := fun h1 h2 => by
      refine .nx (env := [some (progV fs main), some (.tup (ls.map enc)), some (.ref R), some (.ref T), some (enc ly), none, none, none, none, none, none, none, none]) (st := st') ?_ ⟨T, tl, _, rfl, G, hTs, hT, htl, by omega⟩
      simp -implicitDefEqProofs [ee0, h1, h2]
    cases ly with
    | setting nm n => exact same rfl rfl
    | note nm tb => exact same rfl rfl
    | cell nm n => exact same rfl rfl
    | outside nm ar =>
      refine .nx (env := [some (progV fs main), some (.tup (ls.map enc)), some (.ref R), some (.ref st'.length), some (enc (.outside nm ar)), none, none, none, none, none, none, none, none]) (st := st' ++ [.lst []]) ?_ ⟨st'.length, [], _, rfl, G.trans (.app _ _), G.len, last_snoc, by simp, by simp⟩
      simp -implicitDefEqProofs [ee0, word]
    | fail nm n =>
      have ht := tyM_lst hT
      have ha := gAppend_lst (y := enc (.fail nm n)) hT (by simp; omega)
      refine .nx (env := [some (progV fs main), some (.tup (ls.map enc)), some (.ref R), some (.ref T), some (enc (.fail nm n)), none, none, none, none, none, none, none, none]) (st := st'.set T (.lst (tl.map enc ++ [enc (.fail nm n)]))) ?_
        ⟨T, tl ++ [.fail nm n], _, rfl, G.set hTs, hTs, by rw [get_set hT]; simp, ?_, by simp; omega⟩
      · simp -implicitDefEqProofs [ee0, word, ht, ha]
      · intro x hx
        rcases List.mem_append.mp hx with hx | hx
        · exact htl x hx
        · rw [List.mem_singleton.mp hx]; exact ⟨hin, nm, n, rfl⟩
  · rintro env st' ⟨T, tl, o4, rfl, G, hTs, hT, htl, htn⟩
    have G3 := Gr.app st' [.lst []]
    have hN3 : (st' ++ [.lst []])[st'.length]? = some (MO.lst []) := last_snoc
    obtain ⟨st3, e3⟩ : ∃ x, x = st' ++ [MO.lst []] := ⟨_, rfl⟩
    obtain ⟨N, eN⟩ : ∃ x, x = st'.length := ⟨_, rfl⟩
    rw [← e3, ← eN] at hN3
    rw [← e3] at G3
    have hT3 := G3.get hT
    have heq := eq_nil hT3 hN3 (fun x hx => L.nm x (htl x hx).1)
    have G13 := G.trans G3
    have hR3 := G13.get hR
    obtain ⟨y0, y1, y2, y3, y4, y5⟩ := row6_ix hR3
    obtain ⟨w, hw, bw⟩ := modC (x := r5) (m := 3) (by omega) st3
    have hw : gMod (.int r5) (.int 3) st3 = .ok (.int w) st3 := hw
    by_cases hem : tl.isEmpty = true
    · rw [hem] at heq
      obtain ⟨v, st4, q1, q2, q3⟩ := more_ok hR3 P
      simp -implicitDefEqProofs [← e3, ← eN, heq, q1]
      exact ⟨q2, G13.trans q3⟩
    · have hem' : tl.isEmpty = false := by simpa using hem
      rw [hem'] at heq
      by_cases hw0 : w = 0
      · obtain ⟨v, st4, q1, q2, q3⟩ := more_ok hR3 P
        simp -implicitDefEqProofs [← e3, ← eN, heq, y5, hw, hw0, q1]
        exact ⟨q2, G13.trans q3⟩
      · obtain ⟨ni, st4, n1, G4⟩ := nest_ok 19 100 [] main P.main 60 (by omega) st3
        have G14 := G13.trans G4
        have hR4 := G14.get hR
        by_cases hbig : 15 < ni
        · obtain ⟨v, st5, q1, q2, q3⟩ := more_ok hR4 P
          simp -implicitDefEqProofs [← e3, ← eN, heq, y5, hw, hw0, n1, hbig, q1]
          exact ⟨q2, G14.trans q3⟩
        · obtain ⟨z0, z1, z2, z3, z4, z5⟩ := row6_ix hR4
          have hpos : 0 < tl.length := by
            rw [List.length_pos_iff]
            intro q
            rw [q] at hem
            exact hem rfl
          have hT4 := G4.get hT3
          have hTl := gLen_lst hT4
          rw [List.length_map] at hTl
          obtain ⟨q2, m2, b2'⟩ := modC (x := r4) (m := tl.length) hpos st4
          obtain ⟨ly, hly⟩ := get_of b2'
          obtain ⟨hin, nm, n, rfl⟩ := htl ly (List.mem_of_getElem? hly)
          have hix := gIx_lst (st := st4) hT4 (i := (q2 : Int)) (k := q2) (v := enc (.fail nm n)) rfl (by rw [List.getElem?_map, hly]; rfl)
          have hkl := (L.ok _ hin).2
          simp only [kindL, decide_eq_true_eq] at hkl
          have ma := gMod_int r2 (n : Int) st4 (by omega)
          have mb := gMod_int r3 (n : Int) st4 (by omega)
          have ee1 : ∀ st, gIx (enc (.fail nm n)) (.int 1) st = .ok (.str nm) st := fun st => by simp [enc, nameOf]
          have ee2 : ∀ st, gIx (enc (.fail nm n)) (.int 2) st = .ok (.int n) st := fun st => by simp [enc, third]
          have hlen2 : fs.length + 2 ≤ 16777216 := by have := P.len; omega
          simp -implicitDefEqProofs [← e3, ← eN, heq, y5, hw, hw0, n1, hbig, z4, hTl, m2, hix, ee1, z2, ee2, ma, z3, mb, hlen2]
          refine ⟨⟨_, _, ?_, caught_po P (L.nm _ hin) (r2 % n) (r3 % n)⟩, G14⟩
          simp [progV, Fn.enc, nameOf]
end
end K17

set_option Elab.async false
set_option linter.all false
set_option maxRecDepth 100000
set_option autoImplicit false
/-! k17, plain law: a book from a list of layers. -/
namespace K17
open PySem BH
theorem post_enumL {a n : Nat} {xs : List MV} {m : Nat} {g : MG} {body : MS} {env : BH.Env} {st : Mst} {Q : Fl → Mst → Prop} (I : Nat → BH.Env → Mst → Prop) (hr : ∀ i env st, I i env st → itemsOf st (.ref a) = some xs) (h0 : I 0 env st) (hm : m = n + 1) (hn : n = xs.length)
    (step : ∀ i x env st, xs[i]? = some x → I i env st → ∃ env1 s1, g (.tup [.int i, x]) env st = .ok env1 s1 ∧ Turns (I (i + 1)) (body env1 s1)) (hk : ∀ env st, I xs.length env st → Q (.nx env) st) : Post (forL (srcEnum (srcList a n)) g body m 0 env st) Q := by
  subst hm
  subst hn
  obtain ⟨env', st', h1, h2⟩ := for_rule (src := srcEnum (srcList a xs.length)) (g := g) (body := body) (n := xs.length) I (fun env st h => by simp [srcEnum, srcList, hr _ _ _ h]) (fun i env st hi h => by
    have hx : xs[i]? = some xs[i] := by simp [hi]
    obtain ⟨env1, s1, h1, h2⟩ := step i xs[i] env st hx h
    exact ⟨_, env1, s1, by simp only [srcEnum, srcList, hr _ _ _ h, Option.map_some, hx], h1, h2⟩) (xs.length + 1) 0 env st (Nat.zero_le _) (by omega) h0
  exact ⟨_, _, h1, hk _ _ h2⟩
theorem init_okL {k : String} {ls : List Lay} {a Q : Nat} {st : Mst} (B : BookOk k ls) (ha : st[a]? = some (.ins 1 [])) (hQ : st[Q]? = some (.lst (ls.map enc))) :
    Post (m_Book_init [.ref a, .str k, .ref Q] st) fun v st' => v = .non ∧ st'[a]? = some (bookO k ls) ∧ Fr [a] st st' := by
  rw [m_Book_init, fnM3, b_Book_init]
  have hl5 := B.good.1
  have hk : ∀ st, gInK true k_CHOICES (.str k) st = .ok (.bl false) st := fun st => by
    simp only [gInK, B.kern]
    rfl
  have q5 : ¬ (5 : Int) < ls.length := by omega
  have hQ1 : (st ++ [.lst []])[Q]? = some (MO.lst (ls.map enc)) := up hQ
  have hsq : srcSeq (.ref Q) (st ++ [.lst []]) = .ok (srcList Q ls.length) (st ++ [.lst []]) := by
    have := srcOf_lst hQ1
    rw [List.length_map] at this
    exact this
  have hsz : ∀ a n, (srcEnum (srcList a n)).size = n := fun a n => rfl
  have hl0 := gLen_lst hQ
  rw [List.length_map] at hl0
  simp -implicitDefEqProofs [hk, c_MOST_LAYERS, q5, hl0, hsq, hsz]
  refine .finB (.bind (post_enumL (xs := ls.map enc) (fun i env st' => (∃ o5 o6, env = [some (.ref a), some (.str k), some (.ref Q), some (.ref st.length), some (.int (mulS ls i)), o5, o6]) ∧ Fr [] st st' ∧ st'[st.length]? = some (.lst (((ls.take i).map nameOf).map MV.str))) (fun i env st' h => itemsOf_lst (h.2.1 Q _ (by simp) hQ)) ⟨⟨_, _, rfl⟩, .app _ _ _, last_snoc⟩ (by simp) (by simp) ?_ ?_))
  · rintro i x env st' hx ⟨⟨o5, o6, rfl⟩, Fi, hN⟩
    rw [List.getElem?_map] at hx
    obtain ⟨l, h, rfl⟩ := Option.map_eq_some_iff.mp hx
    have hm := List.mem_of_getElem? h
    have hi := (List.getElem?_eq_some_iff.mp h).1
    refine ⟨_, _, rfl, ?_⟩
    obtain ⟨g, hy⟩ := layer_ok (B.names l hm) (B.good.2 l hm) (B.kinds l hm) st'
    have hN2 := up hN (g := g)
    have hdf := B.diff i hi
    rw [h] at hdf
    have hin : gIn false (.str (nameOf l)) (.ref st.length) (st' ++ g) = .ok (.bl false) (st' ++ g) := by
      have q1 : (((ls.take i).map nameOf).map MV.str).all mflat = true := by
        rw [List.all_eq_true]
        intro z hz
        obtain ⟨y, _, rfl⟩ := List.mem_map.mp hz
        rfl
      have q2 : ((((ls.take i).map nameOf).map MV.str).any fun z => meq z (.str (nameOf l))) = false := by
        rw [List.all_eq_true] at hdf
        rw [List.any_eq_false]
        intro z hz
        obtain ⟨y, hy, rfl⟩ := List.mem_map.mp hz
        have := hdf y hy
        simpa [meq] using this
      simp only [gIn, itemsOf, hN2, q1, q2]
      rfl
    have e0 : ∀ st, gIx (enc l) (.int 0) st = .ok (.str (word l)) st := fun st => by simp [enc]
    have e1 : ∀ st, gIx (enc l) (.int 1) st = .ok (.str (nameOf l)) st := fun st => by simp [enc]
    have ht := tyM_lst hN2
    have hap := gAppend_lst (y := .str (nameOf l)) hN2 (by simp; omega)
    have tk : (ls.take (i + 1)).map nameOf = (ls.take i).map nameOf ++ [nameOf l] := by rw [take_snoc h]; simp
    have fin : Fr [] st ((st' ++ g).set st.length (.lst (((ls.take i).map nameOf).map MV.str ++ [.str (nameOf l)]))) ∧ ((st' ++ g).set st.length (.lst (((ls.take i).map nameOf).map MV.str ++ [.str (nameOf l)])))[st.length]? = some (.lst (((ls.take (i + 1)).map nameOf).map MV.str)) := by
      refine ⟨(((Fi.mono (by simp)).trans (.app _ _ _)).trans (.put st.length _ _)).new (Nat.le_refl _) _, ?_⟩
      rw [List.getElem?_set_self (lt_of hN2), tk]
      simp
    simp -implicitDefEqProofs at fin
    by_cases hv : varied l
    · have e2 : ∀ st, gIx (enc l) (.int 2) st = .ok (.int (count l)) st := fun st => by cases l <;> simp [enc, varied, third, count] at hv ⊢
      have hmm := fun st => gMul_r (mulS ls i) (count l : Int) st (by have := B.good.at h; simp [small64]; omega)
      simp -implicitDefEqProofs [hy, hin, e0, e1, ht, hap, gIn_varied, hv, e2, hmm, mulS, h, -gIx_tup_ap]
      exact ⟨fin.1, fin.2⟩
    · simp -implicitDefEqProofs [hy, hin, e0, e1, ht, hap, gIn_varied, hv, mulS, h, -gIx_tup_ap]
      exact ⟨fin.1, fin.2⟩
  · rintro env st' ⟨⟨o5, o6, rfl⟩, Fi, hN⟩
    have hmy := B.many
    have q12 : ¬ (12 : Int) < mulS ls ls.length := by omega
    have ha' := Fi a _ (by simp) ha
    have p1 : putFM [1] "kernel" (.ref a) (.str k) st' = .ok () (st'.set a (.ins 1 [("kernel", .str k)])) := by
      rw [putFM_ins ha' (by simp) (by simp)]; rfl
    have ha2 : (st'.set a (.ins 1 [("kernel", .str k)]))[a]? = some (.ins 1 [("kernel", .str k)]) := List.getElem?_set_self (lt_of ha')
    have p2 : putFM [1] "layers" (.ref a) (.tup (ls.map enc)) (st'.set a (.ins 1 [("kernel", .str k)])) = .ok () (st'.set a (.ins 1 [("kernel", .str k), ("layers", .tup (ls.map enc))])) := by
      rw [putFM_ins ha2 (by simp) (by simp), List.set_set]
      simp [mputF]
    have ha3 : (st'.set a (.ins 1 [("kernel", .str k), ("layers", .tup (ls.map enc))]))[a]? = some (.ins 1 [("kernel", .str k), ("layers", .tup (ls.map enc))]) := List.getElem?_set_self (lt_of ha')
    have p3 : putFM [1] "size" (.ref a) (.int ls.length) (st'.set a (.ins 1 [("kernel", .str k), ("layers", .tup (ls.map enc))])) = .ok () (st'.set a (bookO k ls)) := by
      rw [putFM_ins ha3 (by simp) (by simp), List.set_set]
      simp [mputF, bookO]
    have ne : a ≠ Q := by
      rintro rfl
      rw [ha] at hQ
      cases hQ
    have hQk : (st'.set a (.ins 1 [("kernel", .str k)]))[Q]? = some (.lst (ls.map enc)) := get_set_ne (Fi Q _ (by simp) hQ) ne
    have hQl : (st'.set a (.ins 1 [("kernel", .str k), ("layers", .tup (ls.map enc))]))[Q]? = some (.lst (ls.map enc)) := get_set_ne (Fi Q _ (by simp) hQ) ne
    have t1 := gTuple_lst hQk
    have t2 := gLen_lst hQl
    rw [List.length_map] at t2
    rw [List.length_map]
    simp -implicitDefEqProofs [c_MOST_STARTS, q12, p1, t1, p2, t2, p3]
    exact ⟨List.getElem?_set_self (lt_of ha'), (Fi.mono (by simp)).trans (.put _ _ _)⟩


end K17

set_option Elab.async false
set_option linter.all false
set_option maxRecDepth 100000
set_option autoImplicit false
/-! k17: the law holds of the plain machine. -/
namespace K17
open PySem BH
theorem PO2.fns {fs : List Fn} {main : MV} (P : PO2 fs main) : FnsOk fs := P.fo.ok (by have := P.len; omega) (by omega) (by omega)
theorem lsOk_of {ls : List Lay} (h : ∀ l ∈ ls, PyData.strOk (nameOf l) = true) : LsOk (ls.map enc) := fun v hv => by
  obtain ⟨l, hl, rfl⟩ := List.mem_map.mp hv
  exact ⟨word l, nameOf l, third l, rfl, h l hl⟩
/-- both codes of a program are one -/
theorem same_code {k : Str} {ls : List MV} {fs : List Fn} {main : MV} (L : LsOk ls) (hln : ls.length < 1000) (P : PO2 fs main) :
    ∃ c : List MV, (∀ m ∈ c, CodeI m) ∧ c.length < 16000000 ∧
      (∀ (st : Mst) (B : Nat), st[B]? = some (.ins 1 [("kernel", .str k), ("layers", .tup ls), ("size", .int ls.length)]) → Post (m_compiled [.ref B, progV fs main] st) (fun v st' => v = .tup c ∧ Old st st')) ∧
      (∀ st : Mst, Post (m_law_whole [progV fs main, .tup ls] st) (fun v st' => ∃ R, v = .ref R ∧ st'[R]? = some (.lst c) ∧ Old st st')) := by
  have F := P.fns
  have hps : ∀ g ∈ fs, g.params.length ≤ 10 := fun g hg => by
    obtain ⟨i, hi, e⟩ := List.getElem_of_mem hg
    exact (F.at_ i g (by simp [hi, e])).2.2
  obtain ⟨f, f0, hf⟩ := chain (k := k) L hln F
  obtain ⟨a1, a2, a3, a4, a5, a6⟩ := (hf fs.length).1
  rw [List.take_of_length_le (Nat.le_refl _)] at a6
  obtain ⟨cm, c1, c2, c3, c4⟩ := both (k := k) L hln a6 28 400 [] main P.main [] (fun x h => h) (fun y hy => by cases hy) (by simp) (f fs.length).1.length
  have hlen := P.len
  refine ⟨wholeC f fs.length cm, ?_, ?_, fun st B hB => compiled_ok hB F.len f0 hf hps (c3 60 (by omega)) (by omega), fun st => whole_ok F.len f0 hf hps (c4 60 (by omega)) (by omega)⟩
  · unfold wholeC
    refine ci_app (fun m hm => ?_) (ci_app c2 (ci_cons (ci0 _) ci_nil))
    rcases List.mem_or_eq_of_mem_set hm with hm | rfl
    · exact a3 m hm
    · exact ci1 _ _
  · unfold wholeC
    simp
    omega
/-! ### the other book and program -/
theorem mulS_cons (l : Lay) (ls : List Lay) : ∀ i, i ≤ ls.length → mulS (l :: ls) (i + 1) = (if varied l then (count l : Int) else 1) * mulS ls i
  | 0, _ => by simp [mulS]
  | i + 1, h => by
    have ih := mulS_cons l ls i (by omega)
    have e : ∀ xs : List Lay, ∀ n, mulS xs (n + 1) = match xs[n]? with
      | some l => if varied l then mulS xs n * (count l : Int) else mulS xs n
      | none => mulS xs n := fun xs n => rfl
    rw [e (l :: ls) (i + 1), e ls i, ih]
    simp only [List.getElem?_cons_succ]
    split
    · split <;> simp [Int.mul_assoc]
    · rfl
theorem mulS_take (ls : List Lay) (m : Nat) : ∀ i, i ≤ m → mulS (ls.take m) i = mulS ls i
  | 0, _ => rfl
  | i + 1, h => by
    simp only [mulS]
    rw [mulS_take ls m i (by omega), List.getElem?_take_of_lt (by omega)]
theorem mulS_mono {ls : List Lay} (h : ∀ l ∈ ls, okL l = true) : ∀ j i, i ≤ j → 1 ≤ mulS ls i ∧ mulS ls i ≤ mulS ls j
  | 0, i, hi => by
    have : i = 0 := by omega
    subst this
    simp [mulS]
  | j + 1, i, hi => by
    have pos : ∀ n, 1 ≤ mulS ls n := by
      intro n
      induction n with
      | zero => simp [mulS]
      | succ n ih =>
        simp only [mulS]
        split
        · rename_i l hl
          have ho := h l (List.mem_of_getElem? hl)
          split
          · have hc : (1 : Int) ≤ count l := by cases l <;> simp [okL, count] at ho ⊢ <;> omega
            have := Int.mul_le_mul ih hc (by omega) (by omega)
            omega
          · exact ih
        · exact ih
    by_cases e : i = j + 1
    · subst e
      exact ⟨pos _, Int.le_refl _⟩
    · have ih := mulS_mono h j i (by omega)
      refine ⟨ih.1, Int.le_trans ih.2 ?_⟩
      simp only [mulS]
      split
      · rename_i l hl
        have ho := h l (List.mem_of_getElem? hl)
        split
        · have hc : (1 : Int) ≤ count l := by cases l <;> simp [okL, count] at ho ⊢ <;> omega
          have := Int.mul_le_mul_of_nonneg_left hc (show 0 ≤ mulS ls j by have := pos j; omega)
          omega
        · omega
      · omega
def second : Lay := .setting "q" 2
theorem nm_q {a b c : Nat} (ha : a < 8) (hb : b < 4) (hc : c < 3) : nmS a b c ≠ ("q" : Str) := fun e => by
  have h := (nm_ok ha hb hc).2
  rw [e] at h
  revert h
  have : (("q" : Str).cps[1]?) = none := by decide +kernel
  rw [this]
  simp
theorem twin_ok {kn : String} {ls : List Lay} (B : BookOk kn ls) (L : Lys ls) (hl : ls.length ≤ 4) (h6 : mulS ls ls.length ≤ 6) : BookOk kn (second :: ls.take 2) := by
  have nq : ∀ l ∈ ls, nameOf l ≠ ("q" : Str) := fun l hl' => by
    obtain ⟨j, hj, e⟩ := List.getElem_of_mem hl'
    obtain ⟨a, c, ha, hc, e2⟩ := L.nm j l (by simp [hj, e])
    rw [e2]
    exact nm_q ha (by omega) hc
  have sub : ∀ l ∈ ls.take 2, l ∈ ls := fun l h => List.mem_of_mem_take h
  refine ⟨⟨by simp; omega, fun l h => ?_⟩, B.kern, fun l h => ?_, fun l h => ?_, ?_, fun i hi => ?_⟩
  · rcases List.mem_cons.mp h with rfl | h
    · rfl
    · exact B.good.2 l (sub l h)
  · rcases List.mem_cons.mp h with rfl | h
    · decide +kernel
    · exact B.names l (sub l h)
  · rcases List.mem_cons.mp h with rfl | h
    · rfl
    · exact B.kinds l (sub l h)
  · rw [List.length_cons, mulS_cons _ _ _ (Nat.le_refl _), mulS_take _ _ _ (by simp; omega)]
    have := (mulS_mono (fun l h => B.good.2 l h) ls.length (ls.take 2).length (by simp; omega)).2
    simp only [second, varied, count, if_true]
    omega
  · cases i with
    | zero => simp
    | succ i =>
      have hi' : i < (ls.take 2).length := by simpa using hi
      have hi2 : i < 2 ∧ i < ls.length := by simp at hi'; omega
      have hd := B.diff i hi2.2
      have q : (second :: ls.take 2)[i + 1]? = ls[i]? := by rw [List.getElem?_cons_succ, List.getElem?_take_of_lt hi2.1]
      rw [q, List.take_succ_cons, List.map_cons, List.all_cons, List.take_take, Nat.min_eq_left (by omega), hd, Bool.and_true]
      have hx : ls[i]? = some ls[i] := by simp [hi2.2]
      rw [hx]
      simp only [Option.map_some, Option.getD_some, Bool.not_eq_true', beq_eq_false_iff_ne]
      exact fun e => nq ls[i] (by simp) e.symm
abbrev otherE (n : Int) : MV := .tup [.str "sum", .tup [.str "look", .str "q"], lets "x" (.tup [.str "num", .int n]) (.tup [.str "var", .str "x"])]
abbrev toldC (n : Int) : List MV := [w1 "jump" 1, w1 "look" 1, w1 "push" n, w0 "bind", w1 "load" 0, w0 "unbind", w0 "sum", w0 "done"]
theorem other_ok {kn : Str} {ls : List Lay} (hn : ∀ l ∈ second :: ls, PyData.strOk (nameOf l) = true) (n : Int) {st : Mst} {B : Nat} (hB : st[B]? = some (bookO kn (second :: ls))) :
    Post (m_compiled [.ref B, .tup [.tup [], otherE n]] st) (fun v st' => v = .tup (toldC n) ∧ Old st st') := by
  have L := lsOk_of hn
  have hq : numOf ((second :: ls).map enc) "q" = 1 := by simp [numF, nameM, second, enc, nameOf]
  have hlook : ∀ n, PW (n + 1) kn ((second :: ls).map enc) [] (.tup [.str "look", .str "q"]) [] 1 [w1 "look" 1] := fun n => by
    have := pw_lay (n := n) (k := kn) (pl := []) (sc := []) (t := 1) (s := "look") (nm := "q") (xs := []) L (strOk_ofString _) rfl (by simp)
    rw [hq] at this
    exact this
  have hlet : PW (56 + 2) kn ((second :: ls).map enc) [] (lets "x" (.tup [.str "num", .int n]) (.tup [.str "var", .str "x"])) [] (1 + 1) ([w1 "push" n] ++ w0 "bind" :: ([w1 "load" ((0 : Nat) : Int)] ++ [w0 "unbind"])) :=
    pw_flow rfl (pf_let (by simp) (pw_val rfl pv_num) (pw_val rfl (pv_var rfl)))
  have hm : PW 60 kn ((second :: ls).map enc) [] (otherE n) [] 1 ([w1 "look" 1] ++ ([w1 "push" n] ++ w0 "bind" :: ([w1 "load" ((0 : Nat) : Int)] ++ [w0 "unbind"]) ++ []) ++ [w0 "sum"]) :=
    pw_val (n := 59) rfl (K17.pv_val (n := 58) rfl (.cons (hlook 57) (.cons hlet .nil)) (by simp))
  have h := compiled_ok (st := st) (B := B) (k := kn) (ls := (second :: ls).map enc) (fs := []) (f := fun _ => ([w1 "jump" 0], [], [])) (main := otherE n) (by rw [hB, List.length_map]; rfl) (by simp) rfl
    (fun i => ⟨⟨by simp, by simp, ci_cons (ci1 _ _) ci_nil, by simp, by simp, by simp⟩, fun g e => by simp at e⟩) (fun g hg => by cases hg) hm (by simp)
  refine h.imp fun v st' q => ⟨?_, q.2⟩
  rw [q.1]
  simp [wholeC]
theorem twinF (ls : List Lay) (hn : ∀ l ∈ ls, PyData.strOk (nameOf l) = true ∧ nameOf l ≠ ("q" : Str)) {st : Mst} {env : BH.Env} (henv : env.length = 11) (hl : ls.length < 1000) :
    lcL (srcItems (ls.map enc)) (.nm 10) (mTest (mBin gNe (mBin gIx (mVar 10) (mC (.int 1))) (mC (.str "q")))) (mVar 10) env st.length (ls.length + 1) 0 (st ++ [.lst []]) = .ok (.ref st.length) (st ++ [.lst (ls.map enc)]) := by
  have hall : (ls.map enc).filterMap (fun v => some v) = ls.map enc := by simp
  rw [lc_itemsF (fun v => some v) (by simp; omega) (by simp) rfl (fun x acc hx => ?_), hall]
  obtain ⟨l, hl', rfl⟩ := List.mem_map.mp hx
  refine ⟨env.set 10 (some (enc l)), rfl, ?_⟩
  have h10 : (env.set 10 (some (enc l)))[10]? = some (some (enc l)) := by simp [henv]
  have e1 : ∀ st, gIx (enc l) (.int 1) st = .ok (.str (nameOf l)) st := fun st => by simp [enc]
  obtain ⟨h1, h2⟩ := hn l hl'
  have hne : ∀ st, gNe (.str (nameOf l)) (.str ("q" : Str)) st = .ok (.bl true) st := fun st => by
    rw [gNe_str h1 (strOk_ofString _)]
    have : (nameOf l == ("q" : Str)) = false := by simpa using h2
    rw [this]; rfl
  constructor
  · simp -implicitDefEqProofs [h10, e1, hne, henv]
  · simp -implicitDefEqProofs [h10, henv]
theorem law_true : ∀ ns : List Int, ns.length ≤ 63 → ∃ st, m_law [.ref 0] [.rol (ns.map .int)] = .ok (.bl true) st := by
  intro ns hns
  suffices h : Post (m_law [.ref 0] [.rol (ns.map .int)]) (fun v _ => v = .bl true) by
    obtain ⟨v, st, h, rfl⟩ := h
    exact ⟨st, h⟩
  obtain ⟨st0, est⟩ : ∃ x, x = [MO.rol (ns.map .int)] := ⟨_, rfl⟩
  rw [← est]
  have h0 : st0[0]? = some (.rol (ns.map .int)) := by rw [est]; rfl
  -- the book
  obtain ⟨v, st1, p1, R1, row1, rfl, hR1, hr1, _, hfr1⟩ := row_ok h0 0 12 (by omega)
  have O1 : Old st0 st1 := fun a o h => hfr1 [] a o (by simp) h
  obtain ⟨q, hq, bq⟩ := modC (x := (ns.length : Int)) (m := 2) (by omega) st1
  obtain ⟨v, st2, p2, kn, ls, rfl, BK, hl4, hkn, G2, h6, LY⟩ := lawbook_ok (room := 4 + 2 * q) hR1 hr1 (by omega) (by omega)
  have O2 : Old st0 st2 := O1.trans (.gr G2)
  have hnm : ∀ l ∈ ls, PyData.strOk (nameOf l) = true := fun l h => okN_str (BK.names l h)
  have LO : LaysOk ls := ⟨fun l h => ⟨BK.good.2 l h, BK.kinds l h⟩, hnm, by omega⟩
  -- the program
  obtain ⟨v, st3, p3, R3, row3', rfl, hR3, hr3, _, hfr3⟩ := row_ok (O2 _ _ h0) 1 1 (by omega)
  have O3 : Old st0 st3 := O2.trans fun a o h => hfr3 [] a o (by simp) h
  obtain ⟨z0, rfl⟩ : ∃ z0, row3' = [z0] := by
    match row3', hr3 with
    | [a], _ => exact ⟨a, rfl⟩
  have i3 : gIx (.ref R3) (.int 0) st3 = .ok (.int z0) st3 := by rw [gIx_lst_ap _ _ _ hR3]; simp
  obtain ⟨w, hw, bw⟩ := modC (x := z0) (m := 16) (by omega) st3
  obtain ⟨v, st4, p4, fs, main, rfl, P, O4⟩ := program_ok (count := 1 + w) (O3 _ _ h0) hkn LO (by omega) (by omega)
  have O04 := O3.trans O4
  obtain ⟨v, st5, p5, R5, row5, rfl, hR5, hr5, _, hfr5⟩ := row_ok (O04 _ _ h0) 40 6 (by omega)
  have O5 : Old st0 st5 := O04.trans fun a o h => hfr5 [] a o (by simp) h
  obtain ⟨r0, r1, r2, r3, r4, r5, rfl⟩ : ∃ r0 r1 r2 r3 r4 r5, row5 = [r0, r1, r2, r3, r4, r5] := by
    match row5, hr5 with
    | [a, b, c, d, e, f], _ => exact ⟨a, b, c, d, e, f, rfl⟩
  have hR5 : st5[R5]? = some (.lst (row6 r0 r1 r2 r3 r4 r5)) := hR5
  obtain ⟨v, st6, p6, ⟨fs', main', rfl, P2⟩, G6⟩ := caught_ok hR5 P LO
  have O6 := O5.trans (.gr G6)
  -- the book is made
  have hA7 : (st6 ++ [.ins 1 []])[st6.length]? = some (MO.ins 1 []) := last_snoc
  obtain ⟨v, st7, p7, rfl, hB7, F7⟩ := init_ok BK hA7
  have O7 : Old st6 st7 := fun a o h => F7 a o (by have := lt_of h; simp; omega) (up h)
  obtain ⟨B, eB⟩ : ∃ x, x = st6.length := ⟨_, rfl⟩
  rw [← eB] at hB7 p7
  -- both codes
  obtain ⟨c, hc, hcl, hcomp, hwhole⟩ := same_code (k := Str.ofString kn) (lsOk_of hnm) (by simp; omega) P2
  obtain ⟨v, st8, p8, R8, rfl, hR8, O8⟩ := hwhole st7
  have hB7' : ∀ {st}, Old st7 st → st[B]? = some (.ins 1 [("kernel", .str (Str.ofString kn)), ("layers", .tup (ls.map enc)), ("size", .int (ls.map enc).length)]) := fun O => by
    rw [O _ _ hB7, List.length_map]; rfl
  obtain ⟨v, st9, p9, rfl, O9⟩ := hcomp st8 B (hB7' O8)
  have c9 := iscode_ok (O9 _ _ hR8) hc hcl
  have O79 := O8.trans O9
  -- the other book
  have O09 := (O6.trans O7).trans O79
  have hqn : ∀ l ∈ ls, PyData.strOk (nameOf l) = true ∧ nameOf l ≠ ("q" : Str) := fun l h => ⟨hnm l h, by
    obtain ⟨j, hj, e⟩ := List.getElem_of_mem h
    obtain ⟨a, c, ha, hc, e2⟩ := LY.nm j l (by simp [hj, e])
    rw [e2]
    exact nm_q ha (by omega) hc⟩
  have hS10 : (st9 ++ [.lst [enc second]])[st9.length]? = some (MO.lst [enc second]) := last_snoc
  have G10 := Gr.app st9 [.lst [enc second]]
  obtain ⟨st10, e10⟩ : ∃ x, x = st9 ++ [MO.lst [enc second]] := ⟨_, rfl⟩
  obtain ⟨S10, eS10⟩ : ∃ x, x = st9.length := ⟨_, rfl⟩
  rw [← e10, ← eS10] at hS10
  rw [← e10] at G10
  have hc10 := fun (env : BH.Env) (he : env.length = 11) => twinF ls hqn (st := st10) (env := env) he (by omega)
  have hK11 : (st10 ++ [.lst (ls.map enc)])[st10.length]? = some (MO.lst (ls.map enc)) := last_snoc
  have G11 := Gr.app st10 [.lst (ls.map enc)]
  obtain ⟨st11, e11⟩ : ∃ x, x = st10 ++ [MO.lst (ls.map enc)] := ⟨_, rfl⟩
  obtain ⟨K11, eK11⟩ : ∃ x, x = st10.length := ⟨_, rfl⟩
  rw [← e11, ← eK11] at hK11 hc10
  rw [← e11] at G11
  have hsl := gSl_lst_ap _ st11 hK11 none (some 2)
  have hcut : mcut (ls.map enc) none (some 2) = (ls.take 2).map enc := by
    rw [show (2 : Int) = ((2 : Nat) : Int) from rfl, mcut_to, List.map_take]
  rw [hcut] at hsl
  have hT12 : (st11 ++ [.lst ((ls.take 2).map enc)])[st11.length]? = some (MO.lst ((ls.take 2).map enc)) := last_snoc
  have G12 := Gr.app st11 [.lst ((ls.take 2).map enc)]
  obtain ⟨st12, e12⟩ : ∃ x, x = st11 ++ [MO.lst ((ls.take 2).map enc)] := ⟨_, rfl⟩
  obtain ⟨T12, eT12⟩ : ∃ x, x = st11.length := ⟨_, rfl⟩
  rw [← e12, ← eT12] at hT12 hsl
  rw [← e12] at G12
  obtain ⟨W13, st13, p13, G13, h13⟩ := cat2_ok (G12.get (G11.get hS10)) hT12 (by simp; omega)
  have h13 : st13[W13]? = some (.lst ((second :: ls.take 2).map enc)) := by simpa using h13
  have TB := twin_ok BK LY hl4 h6
  obtain ⟨u, hu, bu⟩ := modC (x := (ns.length : Int)) (m := 50) (by omega) st13
  have O0_13 : Old st0 st13 := O09.trans (.gr (((G10.trans G11).trans G12).trans G13))
  have len13 := gLen_rol (O0_13 _ _ h0)
  have hD14 : (st13 ++ [.lst (toldC u)])[st13.length]? = some (MO.lst (toldC u)) := last_snoc
  have G14 := Gr.app st13 [.lst (toldC u)]
  obtain ⟨st14, e14⟩ : ∃ x, x = st13 ++ [MO.lst (toldC u)] := ⟨_, rfl⟩
  obtain ⟨D14, eD14⟩ : ∃ x, x = st13.length := ⟨_, rfl⟩
  rw [← e14, ← eD14] at hD14
  rw [← e14] at G14
  have hA15 : (st14 ++ [.ins 1 []])[st14.length]? = some (MO.ins 1 []) := last_snoc
  obtain ⟨v, st15, p15, rfl, hB15, F15⟩ := init_okL TB hA15 (up (G14.get h13))
  have O15 : Old st14 st15 := fun a o h => F15 a o (by have := lt_of h; simp; omega) (up h)
  obtain ⟨B15, eB15⟩ : ∃ x, x = st14.length := ⟨_, rfl⟩
  rw [← eB15] at hB15 p15
  obtain ⟨v, st16, p16, rfl, O16⟩ := other_ok (kn := Str.ofString kn) (ls := ls.take 2) (fun l h => okN_str (TB.names l h)) u hB15
  have c16 := iscode_ok (R := D14) (st := st16) (c := toldC u) (O16 _ _ (O15 _ _ hD14)) (ci_cons (ci1 _ _) (ci_cons (ci1 _ _) (ci_cons (ci1 _ _) (ci_cons (ci0 _) (ci_cons (ci1 _ _) (ci_cons (ci0 _) (ci_cons (ci0 _) (ci_cons (ci0 _) ci_nil)))))))) (by simp)
  have O7_16 : Old st7 st16 := O79.trans ((Old.gr ((((G10.trans G11).trans G12).trans G13).trans G14)).trans (O15.trans O16))
  obtain ⟨v, st17, p17, rfl, O17⟩ := hcomp st16 B (hB7' O7_16)
  have O8_16 : Old st8 st16 := O9.trans ((Old.gr ((((G10.trans G11).trans G12).trans G13).trans G14)).trans (O15.trans O16))
  have c17 := iscode_ok (O17 _ _ (O8_16 _ _ hR8)) hc hcl
  have len1 := gLen_rol (O1 _ _ h0)
  rw [List.length_map] at len1 len13
  have hmul := gMul_l 2 (q : Int) st1 (by decide)
  simp only [Int.natCast_add, Int.cast_ofNat_Int, Int.natCast_zero, Int.natCast_one] at p1 p3 p4 p5 hw hq hu
  have e10' : st9 ++ [MO.lst [.tup [.str "setting", .str "q", .int 2]]] = st10 := e10.symm
  simp only [toldC, w0, w1] at e14
  rw [m_law, fnM1, b_law]
  simp -implicitDefEqProofs [p1, len1, hq, hmul, p2, p3, i3, hw, p4, p5, p6, ← eB, p7, p8, p9, c9, e10', ← eS10, ← eK11, hc10, hsl, p13, len13, hu, ← e14, ← eD14, p15, ← eB15, p16, c16, p17, c17]
end K17

set_option Elab.async false
set_option linter.all false
set_option maxRecDepth 100000
set_option autoImplicit false
namespace K17
open PySem PySem.Spec PyProof.Rows L2 BH
def top (i : Nat) : Stmt := PySem.Challenge.pw_bookshandled_k17_codes.main.body.getD i (.Pass ⟨0, 0, 0, 0⟩)
abbrev s_Book_number_of : Stmt := inClass (top 21) 5
abbrev s_Assembler_hole : Stmt := inClass (top 6) 1
abbrev s_Assembler_write : Stmt := inClass (top 6) 2
abbrev s_Assembler_write_flow : Stmt := inClass (top 6) 4
abbrev s_Assembler_write_value : Stmt := inClass (top 6) 3
abbrev s_Assembler_init : Stmt := inClass (top 6) 0
abbrev s_compiled : Stmt := top 7
abbrev s_is_name : Stmt := top 13
abbrev s_is_monoid : Stmt := top 19
abbrev s_is_layer : Stmt := top 20
abbrev s_law_row : Stmt := top 23
abbrev s_law_is_integer : Stmt := top 24
abbrev s_law_layer : Stmt := top 25
abbrev s_law_book : Stmt := top 26
abbrev s_law_leaves : Stmt := top 27
abbrev s_law_number : Stmt := top 28
abbrev s_law_unary : Stmt := top 29
abbrev s_law_binary : Stmt := top 30
abbrev s_law_both : Stmt := top 31
abbrev s_law_round : Stmt := top 32
abbrev s_law_try : Stmt := top 33
abbrev s_law_if : Stmt := top 34
abbrev s_law_call : Stmt := top 35
abbrev s_law_grown : Stmt := top 36
abbrev s_law_item : Stmt := top 37
abbrev s_law_program : Stmt := top 38
abbrev s_law_more : Stmt := top 39
abbrev s_law_nest : Stmt := top 40
abbrev s_law_caught : Stmt := top 41
abbrev s_law_number_of : Stmt := top 42
abbrev s_law_behind : Stmt := top 43
abbrev s_law_flow : Stmt := top 44
abbrev s_law_code : Stmt := top 45
abbrev s_law_whole : Stmt := top 46
abbrev s_law_is_code : Stmt := top 47
abbrev s_Book_init : Stmt := inClass (top 21) 0
abbrev s_law : Stmt := top 48
/-- what the top leaves -/
structure Txt (K : PySem.W.Frag) (w : World) (mg : Str → Option Value) (cl : Nat → Addr) : Prop where
  q_Book_number_of : MethT K cl 1 "number_of" "Book.number_of" s_Book_number_of ["self", "name"] []
  q_Assembler_hole : MethT K cl 0 "hole" "Assembler.hole" s_Assembler_hole ["self"] []
  q_Assembler_write : MethT K cl 0 "write" "Assembler.write" s_Assembler_write ["self", "expression", "scope"] []
  q_Assembler_write_flow : MethT K cl 0 "write_flow" "Assembler.write_flow" s_Assembler_write_flow ["self", "expression", "scope"] []
  q_Assembler_write_value : MethT K cl 0 "write_value" "Assembler.write_value" s_Assembler_write_value ["self", "expression", "scope"] []
  i_Assembler : InitT K mg cl 0 "Assembler" "Assembler.__init__" s_Assembler_init ["self", "book"] []
  d_compiled : DefT K mg "compiled" "compiled" s_compiled ["book", "program"] []
  d_is_name : DefT K mg "is_name" "is_name" s_is_name ["token"] []
  d_is_monoid : DefT K mg "is_monoid" "is_monoid" s_is_monoid ["table"] []
  d_is_layer : DefT K mg "is_layer" "is_layer" s_is_layer ["layer"] []
  d_law_row : DefT K mg "_law_row" "_law_row" s_law_row ["script", "k", "count"] []
  d_law_is_integer : DefT K mg "_law_is_integer" "_law_is_integer" s_law_is_integer ["actual"] []
  d_law_layer : DefT K mg "_law_layer" "_law_layer" s_law_layer ["word", "name", "pick", "room"] []
  d_law_book : DefT K mg "_law_book" "_law_book" s_law_book ["row", "room"] []
  d_law_leaves : DefT K mg "_law_leaves" "_law_leaves" s_law_leaves ["kernel", "layers"] []
  d_law_number : DefT K mg "_law_number" "_law_number" s_law_number ["item", "below"] []
  d_law_unary : DefT K mg "_law_unary" "_law_unary" s_law_unary ["row", "a", "layers"] []
  d_law_binary : DefT K mg "_law_binary" "_law_binary" s_law_binary ["row", "a", "b"] []
  d_law_both : DefT K mg "_law_both" "_law_both" s_law_both ["a", "b"] []
  d_law_round : DefT K mg "_law_round" "_law_round" s_law_round ["row", "a", "b"] []
  d_law_try : DefT K mg "_law_try" "_law_try" s_law_try ["row", "a", "b", "layers"] []
  d_law_if : DefT K mg "_law_if" "_law_if" s_law_if ["a", "b", "c"] []
  d_law_call : DefT K mg "_law_call" "_law_call" s_law_call ["row", "a", "b", "functions"] []
  d_law_grown : DefT K mg "_law_grown" "_law_grown" s_law_grown ["row", "pile", "layers", "functions"] []
  d_law_item : DefT K mg "_law_item" "_law_item" s_law_item ["script", "k", "kernel", "layers", "functions", "count", "most"] []
  d_law_program : DefT K mg "_law_program" "_law_program" s_law_program ["script", "k", "kernel", "layers", "count", "most"] []
  d_law_more : DefT K mg "_law_more" "_law_more" s_law_more ["program", "row"] []
  d_law_nest : DefT K mg "_law_nest" "_law_nest" s_law_nest ["e"] []
  d_law_caught : DefT K mg "_law_caught" "_law_caught" s_law_caught ["program", "layers", "row"] []
  d_law_number_of : DefT K mg "_law_number_of" "_law_number_of" s_law_number_of ["layers", "name"] []
  d_law_behind : DefT K mg "_law_behind" "_law_behind" s_law_behind ["scope", "name"] []
  d_law_flow : DefT K mg "_law_flow" "_law_flow" s_law_flow ["e", "at", "scope", "starts", "layers"] []
  d_law_code : DefT K mg "_law_code" "_law_code" s_law_code ["e", "at", "scope", "starts", "layers"] []
  d_law_whole : DefT K mg "_law_whole" "_law_whole" s_law_whole ["program", "layers"] []
  d_law_is_code : DefT K mg "_law_is_code" "_law_is_code" s_law_is_code ["code", "due"] []
  i_Book : InitT K mg cl 1 "Book" "Book.__init__" s_Book_init ["self", "kernel", "layers"] []
  d_law : DefT K mg "law" "law" s_law ["script"] []
  c_Assembler : Cls K (cl 0)
  c_Book : Cls K (cl 1)
  a_book : ClsA K cl [0] "book"
  a_code : ClsA K cl [0] "code"
  a_kernel : ClsA K cl [1] "kernel"
  a_layers : ClsA K cl [1] "layers"
  a_places : ClsA K cl [0] "places"
  a_size : ClsA K cl [1] "size"
  b_all : mg "all" = none
  b_bool : mg "bool" = none
  b_dict : mg "dict" = none
  b_enumerate : mg "enumerate" = none
  b_int : mg "int" = none
  b_isinstance : mg "isinstance" = none
  b_len : mg "len" = none
  b_list : mg "list" = none
  b_max : mg "max" = none
  b_min : mg "min" = none
  b_range : mg "range" = none
  b_reversed : mg "reversed" = none
  b_tuple : mg "tuple" = none
  g_FLOWING : GlobT K mg "FLOWING" c_FLOWING
  g_GIVEN : GlobT K mg "GIVEN" c_GIVEN
  g_LAYERED : GlobT K mg "LAYERED" c_LAYERED
  g_LETTERS : GlobT K mg "LETTERS" c_LETTERS
  g_MOST_LAYERS : GlobT K mg "MOST_LAYERS" c_MOST_LAYERS
  g_MOST_STARTS : GlobT K mg "MOST_STARTS" c_MOST_STARTS
  g_PIECES : GlobT K mg "PIECES" c_PIECES
  g_VARIED : GlobT K mg "VARIED" c_VARIED
  k_CHOICES : KeysT K w mg "CHOICES" k_CHOICES
section
variable {P : Program} {w : World} {K : PySem.W.Frag} {mg : Str → Option Value} {base : Heap} {cl : Nat → Addr}
theorem sc_Book_number_of : FnScope ["self", "name", "at", "layer"] ["self", "name"] (defScope s_Book_number_of) := ⟨rfl, rfl, rfl, by decide +kernel, rfl, by decide +kernel, by decide +kernel⟩
theorem t_Book_number_of (T : Txt K w mg cl) : MethG P w K mg base cl 1 1 "number_of" ["self", "name"] [] m_Book_number_of :=
  MethG.of (k := 0) T.q_Book_number_of (N := ["self", "name", "at", "layer"]) sc_Book_number_of (fun f cdv A outer s H E hr => have nd : List.Nodup (["self", "name", "at", "layer"] : List Str) := sc_Book_number_of.nd; (sss_cons (ss_for po_cx rfl (si_enum (by rfl) T.b_enumerate (se_fld T.a_layers (se_var 0))) (sg_tup rfl (sgs_cons (sg_name (i := 2) nd rfl (by first | exact Or.inl rfl | exact Or.inr rfl)) (sgs_cons (sg_name (i := 3) nd rfl (by first | exact Or.inl rfl | exact Or.inr rfl)) sgs_nil))) (sss_one (ss_if (st_cmp (og_eq hr.units) (se_ix (ha' := fun _ _ => rfl) (se_var 3) se_int) (se_var 1) (nomark _)) (sss_one (ss_ret (se_op og_add (se_var 2) se_int))) sss_nil)))
    (sss_one (ss_ret se_int))))
theorem sc_Assembler_hole : FnScope ["self"] ["self"] (defScope s_Assembler_hole) := ⟨rfl, rfl, rfl, by decide +kernel, rfl, by decide +kernel, by decide +kernel⟩
theorem t_Assembler_hole (T : Txt K w mg cl) : MethG P w K mg base cl 1 0 "hole" ["self"] [] m_Assembler_hole :=
  MethG.of (k := 0) T.q_Assembler_hole (N := ["self"]) sc_Assembler_hole (fun f cdv A outer s H E hr => have nd : List.Nodup (["self"] : List Str) := sc_Assembler_hole.nd; (sss_cons (ss_expr (se_bm PySem.F.plainAttrs_list PySem.F.slot_list_append PySem.F.type_list_append mg_append (se_fld T.a_code (se_var 0)) (sa_cons (se_tup (sa_cons se_str (sa_cons se_int sa_nil))) sa_nil)))
    (sss_one (ss_ret (se_op og_sub (se_callB cg_len (by rfl) T.b_len (by decide +kernel) (sa_cons (se_fld T.a_code (se_var 0)) sa_nil)) se_int)))))
theorem sc_Assembler_write : FnScope ["self", "expression", "scope", "word"] ["self", "expression", "scope"] (defScope s_Assembler_write) := ⟨rfl, rfl, rfl, by decide +kernel, rfl, by decide +kernel, by decide +kernel⟩
theorem sc_Assembler_write_flow : FnScope ["self", "expression", "scope", "name", "first", "rest", "test", "yes", "no", "branch", "jump", "turns", "loop", "parts", "part", "kind", "body", "other", "start", "end"] ["self", "expression", "scope"] (defScope s_Assembler_write_flow) := ⟨rfl, rfl, rfl, by decide +kernel, rfl, by decide +kernel, by decide +kernel⟩
theorem sc_Assembler_write_value : FnScope ["self", "expression", "scope", "number", "name", "inner", "word", "parts", "part"] ["self", "expression", "scope"] (defScope s_Assembler_write_value) := ⟨rfl, rfl, rfl, by decide +kernel, rfl, by decide +kernel, by decide +kernel⟩
theorem ts_Assembler_write (T : Txt K w mg cl) : ∀ n : Nat, MethG P w K mg base cl (1 + n + 1) 0 "write" ["self", "expression", "scope"] [] (m_Assembler_write n) ∧ MethG P w K mg base cl (1 + n + 1) 0 "write_flow" ["self", "expression", "scope"] [] (m_Assembler_write_flow n) ∧ MethG P w K mg base cl (1 + n + 1) 0 "write_value" ["self", "expression", "scope"] [] (m_Assembler_write_value n)
  | 0 => ⟨MethG.none (k := 1) T.q_Assembler_write sc_Assembler_write, MethG.none (k := 1) T.q_Assembler_write_flow sc_Assembler_write_flow, MethG.none (k := 1) T.q_Assembler_write_value sc_Assembler_write_value⟩
  | n + 1 => have ih := ts_Assembler_write T n; ⟨(MethG.of (k := 1 + n + 1) T.q_Assembler_write (N := ["self", "expression", "scope", "word"]) sc_Assembler_write (fun f cdv A outer s H E hr => have nd : List.Nodup (["self", "expression", "scope", "word"] : List Str) := sc_Assembler_write.nd; (sss_cons (ss_set (i := 3) nd rfl (by first | exact Or.inl rfl | exact Or.inr rfl) (se_ix (ha' := fun _ _ => rfl) (se_var 1) se_int))
    (sss_one (ss_if (st_cmp og_in (se_var 3) (se_globD T.g_FLOWING (by rfl)) (by rfl)) (sss_one (ss_expr (se_methD _ ih.2.1 T.c_Assembler (hr.mono (by omega)) tk_cx (se_var 0) (sa_cons (se_var 1) (sa_cons (se_var 2) sa_nil))))) (sss_one (ss_if (st_cmp og_in (se_var 3) (se_globD T.g_LAYERED (by rfl)) (by rfl)) (sss_one (ss_expr (se_bm PySem.F.plainAttrs_list PySem.F.slot_list_append PySem.F.type_list_append mg_append (se_fld T.a_code (se_var 0)) (sa_cons (se_op og_add (se_tup (sa_cons (se_var 3) (sa_cons (se_methD _ (t_Book_number_of T) T.c_Book (hr.mono (by omega)) tk_cx (se_fld T.a_book (se_var 0)) (sa_cons (se_ix (ha' := fun _ _ => rfl) (se_var 1) se_int) sa_nil)) sa_nil))) (se_sl (se_var 1) (sp_some se_int) sp_none)) sa_nil)))) (sss_one (ss_if (st_cmp og_in (se_var 3) (se_globD T.g_PIECES (by rfl)) (by rfl)) (sss_one (ss_expr (se_bm PySem.F.plainAttrs_list PySem.F.slot_list_append PySem.F.type_list_append mg_append (se_fld T.a_code (se_var 0)) (sa_cons (se_var 1) sa_nil)))) (sss_one (ss_if (st_cmp og_in (se_var 3) (se_globD T.g_GIVEN (by rfl)) (by rfl)) (sss_cons (ss_expr (se_methD _ ih.1 T.c_Assembler (hr.mono (by omega)) tk_cx (se_var 0) (sa_cons (se_ix (ha' := fun _ _ => rfl) (se_var 1) se_int) (sa_cons (se_var 2) sa_nil))))
    (sss_one (ss_expr (se_bm PySem.F.plainAttrs_list PySem.F.slot_list_append PySem.F.type_list_append mg_append (se_fld T.a_code (se_var 0)) (sa_cons (se_tup (sa_cons (se_var 3) (sa_cons (se_methD _ (t_Book_number_of T) T.c_Book (hr.mono (by omega)) tk_cx (se_fld T.a_book (se_var 0)) (sa_cons (se_ix (ha' := fun _ _ => rfl) (se_var 1) se_int) sa_nil)) sa_nil))) sa_nil))))) (sss_one (ss_expr (se_methD _ ih.2.2 T.c_Assembler (hr.mono (by omega)) tk_cx (se_var 0) (sa_cons (se_var 1) (sa_cons (se_var 2) sa_nil)))))))))))))))), (MethG.of (k := 1 + n + 1) T.q_Assembler_write_flow (N := ["self", "expression", "scope", "name", "first", "rest", "test", "yes", "no", "branch", "jump", "turns", "loop", "parts", "part", "kind", "body", "other", "start", "end"]) sc_Assembler_write_flow (fun f cdv A outer s H E hr => have nd : List.Nodup (["self", "expression", "scope", "name", "first", "rest", "test", "yes", "no", "branch", "jump", "turns", "loop", "parts", "part", "kind", "body", "other", "start", "end"] : List Str) := sc_Assembler_write_flow.nd; (sss_one (ss_match (se_var 1) (sm_seq (by rfl) nd (.lit (.cap (i := 3) rfl (by first | exact Or.inl rfl | exact Or.inr rfl) (by first | exact .inl rfl | exact .inr rfl) (.cap (i := 4) rfl (by first | exact Or.inl rfl | exact Or.inr rfl) (by first | exact .inl rfl | exact .inr rfl) (.cap (i := 5) rfl (by first | exact Or.inl rfl | exact Or.inr rfl) (by first | exact .inl rfl | exact .inr rfl) .nil)))) (sss_cons (ss_expr (se_methD _ ih.1 T.c_Assembler (hr.mono (by omega)) tk_cx (se_var 0) (sa_cons (se_var 4) (sa_cons (se_var 2) sa_nil))))
    (sss_cons (ss_expr (se_bm PySem.F.plainAttrs_list PySem.F.slot_list_append PySem.F.type_list_append mg_append (se_fld T.a_code (se_var 0)) (sa_cons (se_tup (sa_cons se_str sa_nil)) sa_nil)))
    (sss_cons (ss_expr (se_methD _ ih.1 T.c_Assembler (hr.mono (by omega)) tk_cx (se_var 0) (sa_cons (se_var 5) (sa_cons (se_op og_add (se_var 2) (se_tup (sa_cons (se_var 3) sa_nil))) sa_nil))))
    (sss_one (ss_expr (se_bm PySem.F.plainAttrs_list PySem.F.slot_list_append PySem.F.type_list_append mg_append (se_fld T.a_code (se_var 0)) (sa_cons (se_tup (sa_cons se_str sa_nil)) sa_nil))))))) (sm_seq (by rfl) nd (.lit (.cap (i := 6) rfl (by first | exact Or.inl rfl | exact Or.inr rfl) (by first | exact .inl rfl | exact .inr rfl) (.cap (i := 7) rfl (by first | exact Or.inl rfl | exact Or.inr rfl) (by first | exact .inl rfl | exact .inr rfl) (.cap (i := 8) rfl (by first | exact Or.inl rfl | exact Or.inr rfl) (by first | exact .inl rfl | exact .inr rfl) .nil)))) (sss_cons (ss_expr (se_methD _ ih.1 T.c_Assembler (hr.mono (by omega)) tk_cx (se_var 0) (sa_cons (se_var 6) (sa_cons (se_var 2) sa_nil))))
    (sss_cons (ss_set (i := 9) nd rfl (by first | exact Or.inl rfl | exact Or.inr rfl) (se_methD0 _ (t_Assembler_hole T) T.c_Assembler (hr.mono (by omega)) tk_cx (se_var 0)))
    (sss_cons (ss_expr (se_methD _ ih.1 T.c_Assembler (hr.mono (by omega)) tk_cx (se_var 0) (sa_cons (se_var 7) (sa_cons (se_var 2) sa_nil))))
    (sss_cons (ss_set (i := 10) nd rfl (by first | exact Or.inl rfl | exact Or.inr rfl) (se_methD0 _ (t_Assembler_hole T) T.c_Assembler (hr.mono (by omega)) tk_cx (se_var 0)))
    (sss_cons (ss_asg (se_tup (sa_cons se_str (sa_cons (se_callB cg_len (by rfl) T.b_len (by decide +kernel) (sa_cons (se_fld T.a_code (se_var 0)) sa_nil)) sa_nil))) (sg_sub (W' := W0) (se_fld T.a_code (se_var 0)) (se_var 9)))
    (sss_cons (ss_expr (se_methD _ ih.1 T.c_Assembler (hr.mono (by omega)) tk_cx (se_var 0) (sa_cons (se_var 8) (sa_cons (se_var 2) sa_nil))))
    (sss_one (ss_asg (se_tup (sa_cons se_str (sa_cons (se_callB cg_len (by rfl) T.b_len (by decide +kernel) (sa_cons (se_fld T.a_code (se_var 0)) sa_nil)) sa_nil))) (sg_sub (W' := W0) (se_fld T.a_code (se_var 0)) (se_var 10)))))))))) (sm_seq (by rfl) nd (.lit (.cap (i := 11) rfl (by first | exact Or.inl rfl | exact Or.inr rfl) (by first | exact .inl rfl | exact .inr rfl) (.cap (i := 3) rfl (by first | exact Or.inl rfl | exact Or.inr rfl) (by first | exact .inl rfl | exact .inr rfl) (.cap (i := 4) rfl (by first | exact Or.inl rfl | exact Or.inr rfl) (by first | exact .inl rfl | exact .inr rfl) (.cap (i := 5) rfl (by first | exact Or.inl rfl | exact Or.inr rfl) (by first | exact .inl rfl | exact .inr rfl) .nil))))) (sss_cons (ss_expr (se_methD _ ih.1 T.c_Assembler (hr.mono (by omega)) tk_cx (se_var 0) (sa_cons (se_var 4) (sa_cons (se_var 2) sa_nil))))
    (sss_cons (ss_expr (se_bm PySem.F.plainAttrs_list PySem.F.slot_list_append PySem.F.type_list_append mg_append (se_fld T.a_code (se_var 0)) (sa_cons (se_tup (sa_cons se_str (sa_cons (se_var 11) sa_nil))) sa_nil)))
    (sss_cons (ss_set (i := 12) nd rfl (by first | exact Or.inl rfl | exact Or.inr rfl) (se_callB cg_len (by rfl) T.b_len (by decide +kernel) (sa_cons (se_fld T.a_code (se_var 0)) sa_nil)))
    (sss_cons (ss_expr (se_bm PySem.F.plainAttrs_list PySem.F.slot_list_append PySem.F.type_list_append mg_append (se_fld T.a_code (se_var 0)) (sa_cons (se_tup (sa_cons se_str sa_nil)) sa_nil)))
    (sss_cons (ss_expr (se_methD _ ih.1 T.c_Assembler (hr.mono (by omega)) tk_cx (se_var 0) (sa_cons (se_var 5) (sa_cons (se_op og_add (se_var 2) (se_tup (sa_cons (se_var 3) sa_nil))) sa_nil))))
    (sss_cons (ss_expr (se_bm PySem.F.plainAttrs_list PySem.F.slot_list_append PySem.F.type_list_append mg_append (se_fld T.a_code (se_var 0)) (sa_cons (se_tup (sa_cons se_str sa_nil)) sa_nil)))
    (sss_one (ss_expr (se_bm PySem.F.plainAttrs_list PySem.F.slot_list_append PySem.F.type_list_append mg_append (se_fld T.a_code (se_var 0)) (sa_cons (se_tup (sa_cons se_str (sa_cons (se_var 12) sa_nil))) sa_nil)))))))))) (sm_seq (by rfl) nd (.lit (.cap (i := 3) rfl (by first | exact Or.inl rfl | exact Or.inr rfl) (by first | exact .inl rfl | exact .inr rfl) (.cap (i := 13) rfl (by first | exact Or.inl rfl | exact Or.inr rfl) (by first | exact .inl rfl | exact .inr rfl) .nil))) (sss_cons (ss_for po_cx rfl (si_of (se_var 13)) (sg_name (i := 14) nd rfl (by first | exact Or.inl rfl | exact Or.inr rfl)) (sss_one (ss_expr (se_methD _ ih.1 T.c_Assembler (hr.mono (by omega)) tk_cx (se_var 0) (sa_cons (se_var 14) (sa_cons (se_var 2) sa_nil))))))
    (sss_one (ss_expr (se_bm PySem.F.plainAttrs_list PySem.F.slot_list_append PySem.F.type_list_append mg_append (se_fld T.a_code (se_var 0)) (sa_cons (se_tup (sa_cons se_str (sa_cons (se_dget (u1 hr.units) (fun _ _ => rfl) (se_fld T.a_places (se_var 0)) (se_var 3)) (sa_cons (se_callB cg_len (by rfl) T.b_len (by decide +kernel) (sa_cons (se_var 13) sa_nil)) sa_nil)))) sa_nil))))) (sm_seq (by rfl) nd (.lit (.cap (i := 3) rfl (by first | exact Or.inl rfl | exact Or.inr rfl) (by first | exact .inl rfl | exact .inr rfl) (.cap (i := 15) rfl (by first | exact Or.inl rfl | exact Or.inr rfl) (by first | exact .inl rfl | exact .inr rfl) (.cap (i := 16) rfl (by first | exact Or.inl rfl | exact Or.inr rfl) (by first | exact .inl rfl | exact .inr rfl) (.cap (i := 17) rfl (by first | exact Or.inl rfl | exact Or.inr rfl) (by first | exact .inl rfl | exact .inr rfl) .nil))))) (sss_cons (ss_set (i := 18) nd rfl (by first | exact Or.inl rfl | exact Or.inr rfl) (se_methD0 _ (t_Assembler_hole T) T.c_Assembler (hr.mono (by omega)) tk_cx (se_var 0)))
    (sss_cons (ss_expr (se_methD _ ih.1 T.c_Assembler (hr.mono (by omega)) tk_cx (se_var 0) (sa_cons (se_var 16) (sa_cons (se_var 2) sa_nil))))
    (sss_cons (ss_set (i := 19) nd rfl (by first | exact Or.inl rfl | exact Or.inr rfl) (se_methD0 _ (t_Assembler_hole T) T.c_Assembler (hr.mono (by omega)) tk_cx (se_var 0)))
    (sss_cons (ss_asg (se_tup (sa_cons se_str (sa_cons (se_methD _ (t_Book_number_of T) T.c_Book (hr.mono (by omega)) tk_cx (se_fld T.a_book (se_var 0)) (sa_cons (se_var 3) sa_nil)) (sa_cons (se_var 15) (sa_cons (se_callB cg_len (by rfl) T.b_len (by decide +kernel) (sa_cons (se_fld T.a_code (se_var 0)) sa_nil)) sa_nil))))) (sg_sub (W' := W0) (se_fld T.a_code (se_var 0)) (se_var 18)))
    (sss_cons (ss_expr (se_methD _ ih.1 T.c_Assembler (hr.mono (by omega)) tk_cx (se_var 0) (sa_cons (se_var 17) (sa_cons (se_var 2) sa_nil))))
    (sss_one (ss_asg (se_tup (sa_cons se_str (sa_cons (se_callB cg_len (by rfl) T.b_len (by decide +kernel) (sa_cons (se_fld T.a_code (se_var 0)) sa_nil)) sa_nil))) (sg_sub (W' := W0) (se_fld T.a_code (se_var 0)) (se_var 19))))))))) sm_nil))))))))), (MethG.of (k := 1 + n + 1) T.q_Assembler_write_value (N := ["self", "expression", "scope", "number", "name", "inner", "word", "parts", "part"]) sc_Assembler_write_value (fun f cdv A outer s H E hr => have nd : List.Nodup (["self", "expression", "scope", "number", "name", "inner", "word", "parts", "part"] : List Str) := sc_Assembler_write_value.nd; (sss_one (ss_match (se_var 1) (sm_seq (by rfl) nd (.lit (.cap (i := 3) rfl (by first | exact Or.inl rfl | exact Or.inr rfl) (by first | exact .inl rfl | exact .inr rfl) .nil)) (sss_one (ss_expr (se_bm PySem.F.plainAttrs_list PySem.F.slot_list_append PySem.F.type_list_append mg_append (se_fld T.a_code (se_var 0)) (sa_cons (se_tup (sa_cons se_str (sa_cons (se_var 3) sa_nil))) sa_nil)))) (sm_seq (by rfl) nd (.lit (.cap (i := 4) rfl (by first | exact Or.inl rfl | exact Or.inr rfl) (by first | exact .inl rfl | exact .inr rfl) .nil)) (sss_one (ss_expr (se_bm PySem.F.plainAttrs_list PySem.F.slot_list_append PySem.F.type_list_append mg_append (se_fld T.a_code (se_var 0)) (sa_cons (se_tup (sa_cons se_str (sa_cons (se_revIx ⟨rfl, rfl, rfl, rfl⟩ (se_var 2) (se_var 4)) sa_nil))) sa_nil)))) (sm_seq (by rfl) nd (.lit (.cap (i := 5) rfl (by first | exact Or.inl rfl | exact Or.inr rfl) (by first | exact .inl rfl | exact .inr rfl) (.cap (i := 3) rfl (by first | exact Or.inl rfl | exact Or.inr rfl) (by first | exact .inl rfl | exact .inr rfl) .nil))) (sss_cons (ss_expr (se_methD _ ih.1 T.c_Assembler (hr.mono (by omega)) tk_cx (se_var 0) (sa_cons (se_var 5) (sa_cons (se_var 2) sa_nil))))
    (sss_one (ss_expr (se_bm PySem.F.plainAttrs_list PySem.F.slot_list_append PySem.F.type_list_append mg_append (se_fld T.a_code (se_var 0)) (sa_cons (se_tup (sa_cons se_str (sa_cons (se_var 3) sa_nil))) sa_nil))))) (sm_star (ps := [.MatchAs none (some "word") _]) (by rfl) nd (.cap (i := 6) rfl (by first | exact Or.inl rfl | exact Or.inr rfl) (by first | exact .inl rfl | exact .inr rfl) .nil) (sss_cons (ss_for po_cx rfl (si_of (se_var 7)) (sg_name (i := 8) nd rfl (by first | exact Or.inl rfl | exact Or.inr rfl)) (sss_one (ss_expr (se_methD _ ih.1 T.c_Assembler (hr.mono (by omega)) tk_cx (se_var 0) (sa_cons (se_var 8) (sa_cons (se_var 2) sa_nil))))))
    (sss_one (ss_expr (se_bm PySem.F.plainAttrs_list PySem.F.slot_list_append PySem.F.type_list_append mg_append (se_fld T.a_code (se_var 0)) (sa_cons (se_tup (sa_cons (se_var 6) sa_nil)) sa_nil))))) sm_nil (by decide) (j := 7) rfl (by first | exact Or.inl rfl | exact Or.inr rfl) (by first | exact .inl rfl | exact .inr rfl)))))))))⟩
theorem t_Assembler_write (T : Txt K w mg cl) : MethG P w K mg base cl (62) 0 "write" ["self", "expression", "scope"] [] (m_Assembler_write 60) := (ts_Assembler_write T 60).1
theorem t_Assembler_write_flow (T : Txt K w mg cl) : MethG P w K mg base cl (62) 0 "write_flow" ["self", "expression", "scope"] [] (m_Assembler_write_flow 60) := (ts_Assembler_write T 60).2.1
theorem t_Assembler_write_value (T : Txt K w mg cl) : MethG P w K mg base cl (62) 0 "write_value" ["self", "expression", "scope"] [] (m_Assembler_write_value 60) := (ts_Assembler_write T 60).2.2
theorem sc_Assembler_init : FnScope ["self", "book"] ["self", "book"] (defScope s_Assembler_init) := ⟨rfl, rfl, rfl, by decide +kernel, rfl, by decide +kernel, by decide +kernel⟩
theorem t_Assembler_init (T : Txt K w mg cl) : InitG P w K mg base cl 1 0 "Assembler" ["self", "book"] [] m_Assembler_init :=
  InitG.of (k := 0) T.i_Assembler (N := ["self", "book"]) sc_Assembler_init (fun f cdv A outer s H E hr => have nd : List.Nodup (["self", "book"] : List Str) := sc_Assembler_init.nd; (sss_cons (ss_fld T.a_book (se_var 0) (se_var 1))
    (sss_cons (ss_fld T.a_code (se_var 0) (se_lst sa_nil))
    (sss_one (ss_fld T.a_places (se_var 0) se_dnew)))))
theorem sc_compiled : FnScope ["book", "program", "functions", "main", "assembler", "entry", "name", "params", "body", "start", "param", "_"] ["book", "program"] (defScope s_compiled) := ⟨rfl, rfl, rfl, by decide +kernel, rfl, by decide +kernel, by decide +kernel⟩
theorem t_compiled (T : Txt K w mg cl) : DefG P w K mg base cl 63 "compiled" ["book", "program"] [] m_compiled :=
  DefG.of (k := 62) T.d_compiled (N := ["book", "program", "functions", "main", "assembler", "entry", "name", "params", "body", "start", "param", "_"]) sc_compiled (fun f cdv A outer s H E hr => have nd : List.Nodup (["book", "program", "functions", "main", "assembler", "entry", "name", "params", "body", "start", "param", "_"] : List Str) := sc_compiled.nd; (sss_cons (ss_asg (se_var 1) (sg_tup rfl (sgs_cons (sg_name (i := 2) nd rfl (by first | exact Or.inl rfl | exact Or.inr rfl)) (sgs_cons (sg_name (i := 3) nd rfl (by first | exact Or.inl rfl | exact Or.inr rfl)) sgs_nil))))
    (sss_cons (ss_set (i := 4) nd rfl (by first | exact Or.inl rfl | exact Or.inr rfl) (se_makeD (t_Assembler_init T) (hr.mono (by decide)) (by rfl) tk_cx (sa_cons (se_var 0) sa_nil)))
    (sss_cons (ss_set (i := 5) nd rfl (by first | exact Or.inl rfl | exact Or.inr rfl) (se_methD0 _ (t_Assembler_hole T) T.c_Assembler (hr.mono (by decide)) tk_cx (se_var 4)))
    (sss_cons (ss_for po_cx rfl (si_of (se_var 2)) (sg_tup rfl (sgs_cons (sg_name (i := 6) nd rfl (by first | exact Or.inl rfl | exact Or.inr rfl)) (sgs_cons (sg_name (i := 7) nd rfl (by first | exact Or.inl rfl | exact Or.inr rfl)) (sgs_cons (sg_name (i := 8) nd rfl (by first | exact Or.inl rfl | exact Or.inr rfl)) sgs_nil)))) (sss_cons (ss_set (i := 9) nd rfl (by first | exact Or.inl rfl | exact Or.inr rfl) (se_callB cg_len (by rfl) T.b_len (by decide +kernel) (sa_cons (se_fld T.a_code (se_var 4)) sa_nil)))
    (sss_cons (ss_expr (se_methD _ (t_Assembler_write T) T.c_Assembler (hr.mono (by decide)) tk_cx (se_var 4) (sa_cons (se_var 8) (sa_cons (se_callTy cg_tuple (by rfl) T.b_tuple (by decide +kernel) (sa_cons (se_lc rfl nd (si_of (se_var 7)) (blkOk_by (own := [("param", 10), ("_", 11)]) (N := ["book", "program", "functions", "main", "assembler", "entry", "name", "params", "body", "start", "param", "_"]) (sc := defScope s_compiled) (by decide +kernel)) rfl (by decide) (fun _ _ _ _ _ => pg_tup rfl (pgs_cons (pg_name (i := 10) nd rfl (by first | exact Or.inl rfl | exact Or.inr rfl)) (pgs_cons (pg_name (i := 11) nd rfl (by first | exact Or.inl rfl | exact Or.inr rfl)) pgs_nil))) (fun _ _ _ _ _ => sts_nil) (fun _ _ _ _ _ => (se_var 10))) sa_nil)) sa_nil))))
    (sss_cons (ss_expr (se_bm PySem.F.plainAttrs_list PySem.F.slot_list_append PySem.F.type_list_append mg_append (se_fld T.a_code (se_var 4)) (sa_cons (se_tup (sa_cons se_str (sa_cons (se_callB cg_len (by rfl) T.b_len (by decide +kernel) (sa_cons (se_var 7) sa_nil)) sa_nil))) sa_nil)))
    (sss_one (ss_dput (u1 hr.units) (se_fld T.a_places (se_var 4)) (se_var 6) (se_var 9) (by rfl)))))))
    (sss_cons (ss_asg (se_tup (sa_cons se_str (sa_cons (se_callB cg_len (by rfl) T.b_len (by decide +kernel) (sa_cons (se_fld T.a_code (se_var 4)) sa_nil)) sa_nil))) (sg_sub (W' := W0) (se_fld T.a_code (se_var 4)) (se_var 5)))
    (sss_cons (ss_expr (se_methD _ (t_Assembler_write T) T.c_Assembler (hr.mono (by decide)) tk_cx (se_var 4) (sa_cons (se_var 3) (sa_cons (se_tup sa_nil) sa_nil))))
    (sss_cons (ss_expr (se_bm PySem.F.plainAttrs_list PySem.F.slot_list_append PySem.F.type_list_append mg_append (se_fld T.a_code (se_var 4)) (sa_cons (se_tup (sa_cons se_str sa_nil)) sa_nil)))
    (sss_one (ss_ret (se_callTy cg_tuple (by rfl) T.b_tuple (by decide +kernel) (sa_cons (se_fld T.a_code (se_var 4)) sa_nil))))))))))))
theorem sc_is_name : FnScope ["token", "sign"] ["token"] (defScope s_is_name) := ⟨rfl, rfl, rfl, by decide +kernel, rfl, by decide +kernel, by decide +kernel⟩
theorem t_is_name (T : Txt K w mg cl) : DefG P w K mg base cl 1 "is_name" ["token"] [] m_is_name :=
  DefG.of (k := 0) T.d_is_name (N := ["token", "sign"]) sc_is_name (fun f cdv A outer s H E hr => have nd : List.Nodup (["token", "sign"] : List Str) := sc_is_name.nd; (sss_cons (ss_for po_cx rfl (si_of (se_var 0)) (sg_name (i := 1) nd rfl (by first | exact Or.inl rfl | exact Or.inr rfl)) (sss_one (ss_if (st_cmp og_notIn (se_var 1) (se_globD T.g_LETTERS (by rfl)) (by rfl)) (sss_one (ss_ret se_bl)) sss_nil)))
    (sss_one (ss_ret (se_chain og_le og_le se_int (se_callB cg_len (by rfl) T.b_len (by decide +kernel) (sa_cons (se_var 0) sa_nil)) se_int)))))
theorem sc_is_monoid : FnScope ["table", "size", "row", "a", "b", "c", "member"] ["table"] (defScope s_is_monoid) := ⟨rfl, rfl, rfl, by decide +kernel, rfl, by decide +kernel, by decide +kernel⟩
theorem t_is_monoid (T : Txt K w mg cl) : DefG P w K mg base cl 1 "is_monoid" ["table"] [] m_is_monoid :=
  DefG.of (k := 0) T.d_is_monoid (N := ["table", "size", "row", "a", "b", "c", "member"]) sc_is_monoid (fun f cdv A outer s H E hr => have nd : List.Nodup (["table", "size", "row", "a", "b", "c", "member"] : List Str) := sc_is_monoid.nd; (sss_cons (ss_set (i := 1) nd rfl (by first | exact Or.inl rfl | exact Or.inr rfl) (se_callB cg_len (by rfl) T.b_len (by decide +kernel) (sa_cons (se_var 0) sa_nil)))
    (sss_cons (ss_if (st_not (st_chain og_le og_le se_int (se_var 1) se_int)) (sss_one (ss_ret se_bl)) sss_nil)
    (sss_cons (ss_for po_cx rfl (si_of (se_var 0)) (sg_name (i := 2) nd rfl (by first | exact Or.inl rfl | exact Or.inr rfl)) (sss_one (ss_if (st_w (sw_or (st_cmp (og_ne hr.units) (se_callB cg_len (by rfl) T.b_len (by decide +kernel) (sa_cons (se_var 2) sa_nil)) (se_var 1) (nomark _)) (sw_or1 (st_not (st_truth (se_callB (cg_all rfl) (by rfl) T.b_all (by decide +kernel) (sa_cons (se_lc rfl nd (si_of (se_var 2)) (blkOk_by (own := [("member", 6)]) (N := ["table", "size", "row", "a", "b", "c", "member"]) (sc := defScope s_is_monoid) (by decide +kernel)) rfl (by decide) (fun _ _ _ _ _ => pg_name (i := 6) nd rfl (by first | exact Or.inl rfl | exact Or.inr rfl)) (fun _ _ _ _ _ => sts_nil) (fun _ _ _ _ _ => (se_chain og_le og_lt se_int (se_var 6) (se_var 1)))) sa_nil))))))) (sss_one (ss_ret se_bl)) sss_nil)))
    (sss_cons (ss_for po_cx rfl (si_range1 (by rfl) T.b_range (sa_cons (se_var 1) sa_nil)) (sg_name (i := 3) nd rfl (by first | exact Or.inl rfl | exact Or.inr rfl)) (sss_cons (ss_if (st_w (sw_or (st_cmp (og_ne hr.units) (se_ix (ha' := fun _ _ => rfl) (se_ix (ha' := fun _ _ => rfl) (se_var 0) se_int) (se_var 3)) (se_var 3) (nomark _)) (sw_or1 (st_cmp (og_ne hr.units) (se_ix (ha' := fun _ _ => rfl) (se_ix (ha' := fun _ _ => rfl) (se_var 0) (se_var 3)) se_int) (se_var 3) (nomark _))))) (sss_one (ss_ret se_bl)) sss_nil)
    (sss_one (ss_for po_cx rfl (si_range1 (by rfl) T.b_range (sa_cons (se_var 1) sa_nil)) (sg_name (i := 4) nd rfl (by first | exact Or.inl rfl | exact Or.inr rfl)) (sss_one (ss_for po_cx rfl (si_range1 (by rfl) T.b_range (sa_cons (se_var 1) sa_nil)) (sg_name (i := 5) nd rfl (by first | exact Or.inl rfl | exact Or.inr rfl)) (sss_one (ss_if (st_cmp (og_ne hr.units) (se_ix (ha' := fun _ _ => rfl) (se_ix (ha' := fun _ _ => rfl) (se_var 0) (se_ix (ha' := fun _ _ => rfl) (se_ix (ha' := fun _ _ => rfl) (se_var 0) (se_var 3)) (se_var 4))) (se_var 5)) (se_ix (ha' := fun _ _ => rfl) (se_ix (ha' := fun _ _ => rfl) (se_var 0) (se_var 3)) (se_ix (ha' := fun _ _ => rfl) (se_ix (ha' := fun _ _ => rfl) (se_var 0) (se_var 4)) (se_var 5))) (nomark _)) (sss_one (ss_ret se_bl)) sss_nil))))))))
    (sss_one (ss_ret se_bl)))))))
theorem sc_is_layer : FnScope ["layer", "ways"] ["layer"] (defScope s_is_layer) := ⟨rfl, rfl, rfl, by decide +kernel, rfl, by decide +kernel, by decide +kernel⟩
theorem t_is_layer (T : Txt K w mg cl) : DefG P w K mg base cl 2 "is_layer" ["layer"] [] m_is_layer :=
  DefG.of (k := 1) T.d_is_layer (N := ["layer", "ways"]) sc_is_layer (fun f cdv A outer s H E hr => have nd : List.Nodup (["layer", "ways"] : List Str) := sc_is_layer.nd; (sss_cons (ss_if (st_not (st_truth (se_callD (t_is_name T) (hr.mono (by decide)) (by rfl) tk_cx (sa_cons (se_ix (ha' := fun _ _ => rfl) (se_var 0) se_int) sa_nil)))) (sss_one (ss_ret se_bl)) sss_nil)
    (sss_cons (ss_if (st_cmp og_in (se_ix (ha' := fun _ _ => rfl) (se_var 0) se_int) (se_globD T.g_VARIED (by rfl)) (by rfl)) (sss_one (ss_ret (se_chain og_le og_le se_int (se_ix (ha' := fun _ _ => rfl) (se_var 0) se_int) se_int))) sss_nil)
    (sss_cons (ss_if (st_cmp (og_eq hr.units) (se_ix (ha' := fun _ _ => rfl) (se_var 0) se_int) se_str (nomark _)) (sss_one (ss_ret (se_chain og_le og_le se_int (se_ix (ha' := fun _ _ => rfl) (se_var 0) se_int) se_int))) sss_nil)
    (sss_cons (ss_if (st_cmp (og_eq hr.units) (se_ix (ha' := fun _ _ => rfl) (se_var 0) se_int) se_str (nomark _)) (sss_one (ss_ret (se_callD (t_is_monoid T) (hr.mono (by decide)) (by rfl) tk_cx (sa_cons (se_ix (ha' := fun _ _ => rfl) (se_var 0) se_int) sa_nil)))) sss_nil)
    (sss_cons (ss_if (st_cmp (og_eq hr.units) (se_ix (ha' := fun _ _ => rfl) (se_var 0) se_int) se_str (nomark _)) (sss_one (ss_ret (se_and (se_chain og_le og_le se_int (se_callB cg_len (by rfl) T.b_len (by decide +kernel) (sa_cons (se_ix (ha' := fun _ _ => rfl) (se_var 0) se_int) sa_nil)) se_int) (se_one (se_callB (cg_all rfl) (by rfl) T.b_all (by decide +kernel) (sa_cons (se_lc rfl nd (si_of (se_ix (ha' := fun _ _ => rfl) (se_var 0) se_int)) (blkOk_by (own := [("ways", 1)]) (N := ["layer", "ways"]) (sc := defScope s_is_layer) (by decide +kernel)) rfl (by decide) (fun _ _ _ _ _ => pg_name (i := 1) nd rfl (by first | exact Or.inl rfl | exact Or.inr rfl)) (fun _ _ _ _ _ => sts_nil) (fun _ _ _ _ _ => (se_chain og_le og_le se_int (se_var 1) se_int))) sa_nil)))))) sss_nil)
    (sss_one (ss_ret se_bl))))))))
theorem sc_law_row : FnScope ["script", "k", "count", "cell", "row", "at", "seed"] ["script", "k", "count"] (defScope s_law_row) := ⟨rfl, rfl, rfl, by decide +kernel, rfl, by decide +kernel, by decide +kernel⟩
theorem t_law_row (T : Txt K w mg cl) : DefG P w K mg base cl 1 "_law_row" ["script", "k", "count"] [] m_law_row :=
  DefG.of (k := 0) T.d_law_row (N := ["script", "k", "count", "cell", "row", "at", "seed"]) sc_law_row (fun f cdv A outer s H E hr => have nd : List.Nodup (["script", "k", "count", "cell", "row", "at", "seed"] : List Str) := sc_law_row.nd; (sss_cons (ss_set (i := 3) nd rfl (by first | exact Or.inl rfl | exact Or.inr rfl) se_int)
    (sss_cons (ss_if (st_cmp og_lt (se_var 1) (se_callB cg_len (by rfl) T.b_len (by decide +kernel) (sa_cons (se_var 0) sa_nil)) (nomark _)) (sss_one (ss_set (i := 3) nd rfl (by first | exact Or.inl rfl | exact Or.inr rfl) (se_callTy cg_int (by rfl) T.b_int (by decide +kernel) (sa_cons (se_ix (ha' := fun _ _ => rfl) (se_var 0) (se_var 1)) sa_nil)))) sss_nil)
    (sss_cons (ss_set (i := 4) nd rfl (by first | exact Or.inl rfl | exact Or.inr rfl) (se_lst sa_nil))
    (sss_cons (ss_if (st_cmp og_ge (se_var 3) (se_op og_pow se_int se_int) (nomark _)) (sss_cons (ss_for po_cx rfl (si_range1 (by rfl) T.b_range (sa_cons (se_var 2) sa_nil)) (sg_name (i := 5) nd rfl (by first | exact Or.inl rfl | exact Or.inr rfl)) (sss_cons (ss_expr (se_bm PySem.F.plainAttrs_list PySem.F.slot_list_append PySem.F.type_list_append mg_append (se_var 4) (sa_cons (se_op og_mod (se_callTy cg_int (by rfl) T.b_int (by decide +kernel) (sa_cons (se_var 3) sa_nil)) se_int) sa_nil)))
    (sss_one (ss_set (i := 3) nd rfl (by first | exact Or.inl rfl | exact Or.inr rfl) (se_op og_div (se_var 3) se_int)))))
    (sss_one (ss_ret (se_var 4)))) sss_nil)
    (sss_cons (ss_set (i := 6) nd rfl (by first | exact Or.inl rfl | exact Or.inr rfl) (se_op og_mod (se_callTy cg_int (by rfl) T.b_int (by decide +kernel) (sa_cons (se_op og_add (se_op og_add (se_op og_mul (se_var 3) se_int) (se_op og_mul (se_var 1) se_int)) se_int) sa_nil)) se_int))
    (sss_cons (ss_for po_cx rfl (si_range1 (by rfl) T.b_range (sa_cons (se_var 2) sa_nil)) (sg_name (i := 5) nd rfl (by first | exact Or.inl rfl | exact Or.inr rfl)) (sss_cons (ss_set (i := 6) nd rfl (by first | exact Or.inl rfl | exact Or.inr rfl) (se_op og_mod (se_callTy cg_int (by rfl) T.b_int (by decide +kernel) (sa_cons (se_op og_add (se_op og_add (se_op og_mul (se_var 6) se_int) (se_op og_mul (se_var 5) se_int)) se_int) sa_nil)) se_int))
    (sss_one (ss_expr (se_bm PySem.F.plainAttrs_list PySem.F.slot_list_append PySem.F.type_list_append mg_append (se_var 4) (sa_cons (se_op og_mod (se_op og_div (se_var 6) se_int) se_int) sa_nil))))))
    (sss_one (ss_ret (se_var 4))))))))))
theorem sc_law_is_integer : FnScope ["actual"] ["actual"] (defScope s_law_is_integer) := ⟨rfl, rfl, rfl, by decide +kernel, rfl, by decide +kernel, by decide +kernel⟩
theorem t_law_is_integer (T : Txt K w mg cl) : DefG P w K mg base cl 1 "_law_is_integer" ["actual"] [] m_law_is_integer :=
  DefG.of (k := 0) T.d_law_is_integer (N := ["actual"]) sc_law_is_integer (fun f cdv A outer s H E hr => have nd : List.Nodup (["actual"] : List Str) := sc_law_is_integer.nd; (sss_one (ss_ret (se_and (se_callB cg_isi (by rfl) T.b_isinstance (by decide +kernel) (sa_cons (se_var 0) (sa_cons (se_bltn (by rfl) T.b_int (by decide +kernel)) sa_nil))) (se_one (se_not (se_callB cg_isi (by rfl) T.b_isinstance (by decide +kernel) (sa_cons (se_var 0) (sa_cons (se_bltn (by rfl) T.b_bool (by decide +kernel)) sa_nil)))))))))
theorem sc_law_layer : FnScope ["word", "name", "pick", "room", "size", "menu"] ["word", "name", "pick", "room"] (defScope s_law_layer) := ⟨rfl, rfl, rfl, by decide +kernel, rfl, by decide +kernel, by decide +kernel⟩
theorem t_law_layer (T : Txt K w mg cl) : DefG P w K mg base cl 1 "_law_layer" ["word", "name", "pick", "room"] [] m_law_layer :=
  DefG.of (k := 0) T.d_law_layer (N := ["word", "name", "pick", "room", "size", "menu"]) sc_law_layer (fun f cdv A outer s H E hr => have nd : List.Nodup (["word", "name", "pick", "room", "size", "menu"] : List Str) := sc_law_layer.nd; (sss_cons (ss_if (st_w (sw_and (st_cmp og_lt (se_var 0) se_int (nomark _)) (sw_and1 (st_cmp og_ge (se_var 3) se_int (nomark _))))) (sss_cons (ss_set (i := 4) nd rfl (by first | exact Or.inl rfl | exact Or.inr rfl) se_int)
    (sss_cons (ss_if (st_w (sw_and (st_cmp og_ge (se_var 3) se_int (nomark _)) (sw_and1 (st_cmp (og_eq hr.units) (se_op og_mod (se_var 2) se_int) se_int (nomark _))))) (sss_one (ss_set (i := 4) nd rfl (by first | exact Or.inl rfl | exact Or.inr rfl) se_int)) sss_nil)
    (sss_one (ss_ret (se_tup (sa_cons (se_ix (ha' := fun _ _ => rfl) (se_lst (sa_cons se_str (sa_cons se_str sa_nil))) (se_var 0)) (sa_cons (se_var 1) (sa_cons (se_var 4) sa_nil)))))))) sss_nil)
    (sss_cons (ss_if (st_cmp og_lt (se_var 0) se_int (nomark _)) (sss_cons (ss_set (i := 5) nd rfl (by first | exact Or.inl rfl | exact Or.inr rfl) (se_lst (sa_cons (se_tup (sa_cons (se_tup (sa_cons se_int (sa_cons se_int sa_nil))) (sa_cons (se_tup (sa_cons se_int (sa_cons se_int sa_nil))) sa_nil))) (sa_cons (se_tup (sa_cons (se_tup (sa_cons se_int (sa_cons se_int sa_nil))) (sa_cons (se_tup (sa_cons se_int (sa_cons se_int sa_nil))) sa_nil))) (sa_cons (se_tup (sa_cons (se_tup (sa_cons se_int (sa_cons se_int (sa_cons se_int sa_nil)))) (sa_cons (se_tup (sa_cons se_int (sa_cons se_int (sa_cons se_int sa_nil)))) (sa_cons (se_tup (sa_cons se_int (sa_cons se_int (sa_cons se_int sa_nil)))) sa_nil)))) (sa_cons (se_tup (sa_cons (se_tup (sa_cons se_int (sa_cons se_int (sa_cons se_int sa_nil)))) (sa_cons (se_tup (sa_cons se_int (sa_cons se_int (sa_cons se_int sa_nil)))) (sa_cons (se_tup (sa_cons se_int (sa_cons se_int (sa_cons se_int sa_nil)))) sa_nil)))) sa_nil))))))
    (sss_one (ss_ret (se_tup (sa_cons se_str (sa_cons (se_var 1) (sa_cons (se_ix (ha' := fun _ _ => rfl) (se_var 5) (se_op og_mod (se_callTy cg_int (by rfl) T.b_int (by decide +kernel) (sa_cons (se_var 2) sa_nil)) se_int)) sa_nil))))))) sss_nil)
    (sss_cons (ss_if (st_cmp (og_eq hr.units) (se_var 0) se_int (nomark _)) (sss_one (ss_ret (se_tup (sa_cons se_str (sa_cons (se_var 1) (sa_cons (se_op og_add se_int (se_op og_mod (se_callTy cg_int (by rfl) T.b_int (by decide +kernel) (sa_cons (se_var 2) sa_nil)) se_int)) sa_nil)))))) sss_nil)
    (sss_one (ss_ret (se_tup (sa_cons se_str (sa_cons (se_var 1) (sa_cons (se_ix (ha' := fun _ _ => rfl) (se_lst (sa_cons (se_tup (sa_cons se_int sa_nil)) (sa_cons (se_tup (sa_cons se_int sa_nil)) (sa_cons (se_tup (sa_cons se_int sa_nil)) (sa_cons (se_tup (sa_cons se_int (sa_cons se_int sa_nil))) (sa_cons (se_tup (sa_cons se_int (sa_cons se_int sa_nil))) sa_nil)))))) (se_op og_mod (se_callTy cg_int (by rfl) T.b_int (by decide +kernel) (sa_cons (se_var 2) sa_nil)) se_int)) sa_nil))))))))))
theorem sc_law_book : FnScope ["row", "room", "kernel", "layers", "at", "name", "layer"] ["row", "room"] (defScope s_law_book) := ⟨rfl, rfl, rfl, by decide +kernel, rfl, by decide +kernel, by decide +kernel⟩
theorem t_law_book (T : Txt K w mg cl) : DefG P w K mg base cl 2 "_law_book" ["row", "room"] [] m_law_book :=
  DefG.of (k := 1) T.d_law_book (N := ["row", "room", "kernel", "layers", "at", "name", "layer"]) sc_law_book (fun f cdv A outer s H E hr => have nd : List.Nodup (["row", "room", "kernel", "layers", "at", "name", "layer"] : List Str) := sc_law_book.nd; (sss_cons (ss_set (i := 2) nd rfl (by first | exact Or.inl rfl | exact Or.inr rfl) (se_ix (ha' := fun _ _ => rfl) (se_lst (sa_cons se_str (sa_cons se_str (sa_cons se_str (sa_cons se_str (sa_cons se_str (sa_cons se_str (sa_cons se_str sa_nil)))))))) (se_op og_mod (se_callTy cg_int (by rfl) T.b_int (by decide +kernel) (sa_cons (se_ix (ha' := fun _ _ => rfl) (se_var 0) se_int) sa_nil)) se_int)))
    (sss_cons (ss_set (i := 3) nd rfl (by first | exact Or.inl rfl | exact Or.inr rfl) (se_lst sa_nil))
    (sss_cons (ss_for po_cx rfl (si_range1 (by rfl) T.b_range (sa_cons (se_ix (ha' := fun _ _ => rfl) (se_lst (sa_cons se_int (sa_cons se_int (sa_cons se_int (sa_cons se_int (sa_cons se_int (sa_cons se_int (sa_cons se_int (sa_cons se_int sa_nil))))))))) (se_op og_mod (se_callTy cg_int (by rfl) T.b_int (by decide +kernel) (sa_cons (se_ix (ha' := fun _ _ => rfl) (se_var 0) se_int) sa_nil)) se_int)) sa_nil)) (sg_name (i := 4) nd rfl (by first | exact Or.inl rfl | exact Or.inr rfl)) (sss_cons (ss_set (i := 5) nd rfl (by first | exact Or.inl rfl | exact Or.inr rfl) (se_op og_add (se_ix (ha' := fun _ _ => rfl) se_str (se_op og_mod (se_callTy cg_int (by rfl) T.b_int (by decide +kernel) (sa_cons (se_ix (ha' := fun _ _ => rfl) (se_var 0) se_int) sa_nil)) se_int)) (se_op og_mul (se_ix (ha' := fun _ _ => rfl) se_str (se_var 4)) (se_op og_add se_int (se_op og_mod (se_callTy cg_int (by rfl) T.b_int (by decide +kernel) (sa_cons (se_op og_add (se_ix (ha' := fun _ _ => rfl) (se_var 0) se_int) (se_var 4)) sa_nil)) se_int)))))
    (sss_cons (ss_set (i := 6) nd rfl (by first | exact Or.inl rfl | exact Or.inr rfl) (se_callD (t_law_layer T) (hr.mono (by decide)) (by rfl) tk_cx (sa_cons (se_op og_mod (se_callTy cg_int (by rfl) T.b_int (by decide +kernel) (sa_cons (se_ix (ha' := fun _ _ => rfl) (se_var 0) (se_op og_add se_int (se_op og_mul se_int (se_var 4)))) sa_nil)) se_int) (sa_cons (se_var 5) (sa_cons (se_ix (ha' := fun _ _ => rfl) (se_var 0) (se_op og_add se_int (se_op og_mul se_int (se_var 4)))) (sa_cons (se_var 1) sa_nil))))))
    (sss_cons (ss_if (st_w (sw_or (st_cmp (og_eq hr.units) (se_ix (ha' := fun _ _ => rfl) (se_var 6) se_int) se_str (nomark _)) (sw_or1 (st_cmp (og_eq hr.units) (se_ix (ha' := fun _ _ => rfl) (se_var 6) se_int) se_str (nomark _))))) (sss_one (ss_set (i := 1) nd rfl (by first | exact Or.inl rfl | exact Or.inr rfl) (se_op og_div (se_var 1) (se_ix (ha' := fun _ _ => rfl) (se_var 6) se_int)))) sss_nil)
    (sss_one (ss_expr (se_bm PySem.F.plainAttrs_list PySem.F.slot_list_append PySem.F.type_list_append mg_append (se_var 3) (sa_cons (se_var 6) sa_nil))))))))
    (sss_one (ss_ret (se_tup (sa_cons (se_var 2) (sa_cons (se_callTy cg_tuple (by rfl) T.b_tuple (by decide +kernel) (sa_cons (se_var 3) sa_nil)) sa_nil)))))))))
theorem sc_law_leaves : FnScope ["kernel", "layers", "items", "piece", "layer", "deed", "ways", "value"] ["kernel", "layers"] (defScope s_law_leaves) := ⟨rfl, rfl, rfl, by decide +kernel, rfl, by decide +kernel, by decide +kernel⟩
theorem t_law_leaves (T : Txt K w mg cl) : DefG P w K mg base cl 1 "_law_leaves" ["kernel", "layers"] [] m_law_leaves :=
  DefG.of (k := 0) T.d_law_leaves (N := ["kernel", "layers", "items", "piece", "layer", "deed", "ways", "value"]) sc_law_leaves (fun f cdv A outer s H E hr => have nd : List.Nodup (["kernel", "layers", "items", "piece", "layer", "deed", "ways", "value"] : List Str) := sc_law_leaves.nd; (sss_cons (ss_setLc (i := 2) rfl nd rfl rfl (sw_true rfl rfl rfl (by decide +kernel)) (si_range1 (by rfl) T.b_range (sa_cons se_int sa_nil)) (blkOk_by (own := [("value", 7)]) (N := ["kernel", "layers", "items", "piece", "layer", "deed", "ways", "value"]) (sc := defScope s_law_leaves) (by decide +kernel)) rfl (by decide) (fun _ _ _ _ _ => pg_name (i := 7) nd rfl (by first | exact Or.inl rfl | exact Or.inr rfl)) (fun _ _ _ _ _ => sts_nil) (fun _ _ _ _ _ => (se_lst (sa_cons (se_tup (sa_cons se_str (sa_cons (se_var 7) sa_nil))) (sa_cons (se_op og_add (se_var 7) se_int) (sa_cons se_int (sa_cons se_int (sa_cons se_int (sa_cons se_int sa_nil)))))))))
    (sss_cons (ss_set (i := 2) nd rfl (by first | exact Or.inl rfl | exact Or.inr rfl) (se_op og_add (se_var 2) (se_lst (sa_cons (se_lst (sa_cons (se_tup (sa_cons se_str (sa_cons se_str sa_nil))) (sa_cons se_int (sa_cons se_int (sa_cons se_int (sa_cons se_int (sa_cons se_int sa_nil))))))) (sa_cons (se_lst (sa_cons (se_tup (sa_cons se_str (sa_cons se_str sa_nil))) (sa_cons se_int (sa_cons se_int (sa_cons se_int (sa_cons se_int (sa_cons se_int sa_nil))))))) (sa_cons (se_lst (sa_cons (se_tup (sa_cons se_str (sa_cons se_str sa_nil))) (sa_cons (se_tup (sa_cons se_int (sa_cons se_int sa_nil))) (sa_cons se_int (sa_cons se_int (sa_cons se_int (sa_cons se_int sa_nil))))))) sa_nil))))))
    (sss_cons (ss_for po_cx rfl (si_range1 (by rfl) T.b_range (sa_cons (se_dget2 (u1 hr.units) ⟨rfl, rfl, rfl, rfl⟩ (se_disp (kvs := [("choose", 1), ("spread", 1), ("twochoose", 2), ("mixed", 1)]) (pps_cons pe_str pe_int (pps_cons pe_str pe_int (pps_cons pe_str pe_int (pps_cons pe_str pe_int pps_nil)))) (by decide)) (se_var 0) se_int) sa_nil)) (sg_name (i := 3) nd rfl (by first | exact Or.inl rfl | exact Or.inr rfl)) (sss_one (ss_expr (se_bm PySem.F.plainAttrs_list PySem.F.slot_list_append PySem.F.type_list_append mg_append (se_var 2) (sa_cons (se_lst (sa_cons (se_tup (sa_cons se_str (sa_cons (se_var 3) sa_nil))) (sa_cons se_int (sa_cons se_int (sa_cons se_int (sa_cons se_int (sa_cons se_int sa_nil))))))) sa_nil)))))
    (sss_cons (ss_for po_cx rfl (si_range1 (by rfl) T.b_range (sa_cons (se_dget2 (u1 hr.units) ⟨rfl, rfl, rfl, rfl⟩ (se_disp (kvs := [("draw", 1), ("spread", 1), ("twodraw", 2), ("mixed", 1)]) (pps_cons pe_str pe_int (pps_cons pe_str pe_int (pps_cons pe_str pe_int (pps_cons pe_str pe_int pps_nil)))) (by decide)) (se_var 0) se_int) sa_nil)) (sg_name (i := 3) nd rfl (by first | exact Or.inl rfl | exact Or.inr rfl)) (sss_cons (ss_expr (se_bm PySem.F.plainAttrs_list PySem.F.slot_list_append PySem.F.type_list_append mg_append (se_var 2) (sa_cons (se_lst (sa_cons (se_tup (sa_cons se_str (sa_cons (se_var 3) (sa_cons se_int (sa_cons se_int sa_nil))))) (sa_cons se_int (sa_cons se_int (sa_cons se_int (sa_cons se_int (sa_cons se_int sa_nil))))))) sa_nil)))
    (sss_one (ss_expr (se_bm PySem.F.plainAttrs_list PySem.F.slot_list_append PySem.F.type_list_append mg_append (se_var 2) (sa_cons (se_lst (sa_cons (se_tup (sa_cons se_str (sa_cons (se_var 3) (sa_cons se_int (sa_cons se_int sa_nil))))) (sa_cons se_int (sa_cons se_int (sa_cons se_int (sa_cons se_int (sa_cons se_int sa_nil))))))) sa_nil))))))
    (sss_cons (ss_for po_cx rfl (si_of (se_var 1)) (sg_name (i := 4) nd rfl (by first | exact Or.inl rfl | exact Or.inr rfl)) (sss_cons (ss_if (st_cmp (og_eq hr.units) (se_ix (ha' := fun _ _ => rfl) (se_var 4) se_int) se_str (nomark _)) (sss_one (ss_expr (se_bm PySem.F.plainAttrs_list PySem.F.slot_list_append PySem.F.type_list_append mg_append (se_var 2) (sa_cons (se_lst (sa_cons (se_tup (sa_cons se_str (sa_cons (se_ix (ha' := fun _ _ => rfl) (se_var 4) se_int) sa_nil))) (sa_cons (se_ix (ha' := fun _ _ => rfl) (se_var 4) se_int) (sa_cons (se_op og_add se_int (se_ix (ha' := fun _ _ => rfl) (se_var 4) se_int)) (sa_cons (se_ix (ha' := fun _ _ => rfl) (se_var 4) se_int) (sa_cons se_int (sa_cons se_int sa_nil))))))) sa_nil)))) sss_nil)
    (sss_cons (ss_if (st_cmp (og_eq hr.units) (se_ix (ha' := fun _ _ => rfl) (se_var 4) se_int) se_str (nomark _)) (sss_one (ss_expr (se_bm PySem.F.plainAttrs_list PySem.F.slot_list_append PySem.F.type_list_append mg_append (se_var 2) (sa_cons (se_lst (sa_cons (se_tup (sa_cons se_str (sa_cons (se_ix (ha' := fun _ _ => rfl) (se_var 4) se_int) sa_nil))) (sa_cons (se_ix (ha' := fun _ _ => rfl) (se_var 4) se_int) (sa_cons (se_op og_add se_int (se_ix (ha' := fun _ _ => rfl) (se_var 4) se_int)) (sa_cons (se_ix (ha' := fun _ _ => rfl) (se_var 4) se_int) (sa_cons se_int (sa_cons se_int sa_nil))))))) sa_nil)))) sss_nil)
    (sss_cons (ss_if (st_cmp (og_eq hr.units) (se_ix (ha' := fun _ _ => rfl) (se_var 4) se_int) se_str (nomark _)) (sss_one (ss_expr (se_bm PySem.F.plainAttrs_list PySem.F.slot_list_append PySem.F.type_list_append mg_append (se_var 2) (sa_cons (se_lst (sa_cons (se_tup (sa_cons se_str (sa_cons (se_ix (ha' := fun _ _ => rfl) (se_var 4) se_int) (sa_cons (se_op og_sub (se_ix (ha' := fun _ _ => rfl) (se_var 4) se_int) se_int) sa_nil)))) (sa_cons se_int (sa_cons se_int (sa_cons se_int (sa_cons se_int (sa_cons se_int sa_nil))))))) sa_nil)))) sss_nil)
    (sss_one (ss_if (st_cmp (og_eq hr.units) (se_ix (ha' := fun _ _ => rfl) (se_var 4) se_int) se_str (nomark _)) (sss_one (ss_for po_cx rfl (si_range1 (by rfl) T.b_range (sa_cons (se_callB cg_len (by rfl) T.b_len (by decide +kernel) (sa_cons (se_ix (ha' := fun _ _ => rfl) (se_var 4) se_int) sa_nil)) sa_nil)) (sg_name (i := 5) nd rfl (by first | exact Or.inl rfl | exact Or.inr rfl)) (sss_cons (ss_set (i := 6) nd rfl (by first | exact Or.inl rfl | exact Or.inr rfl) (se_ix (ha' := fun _ _ => rfl) (se_ix (ha' := fun _ _ => rfl) (se_var 4) se_int) (se_var 5)))
    (sss_one (ss_expr (se_bm PySem.F.plainAttrs_list PySem.F.slot_list_append PySem.F.type_list_append mg_append (se_var 2) (sa_cons (se_lst (sa_cons (se_tup (sa_cons se_str (sa_cons (se_ix (ha' := fun _ _ => rfl) (se_var 4) se_int) (sa_cons (se_var 5) sa_nil)))) (sa_cons (se_var 6) (sa_cons (se_op og_add se_int (se_var 6)) (sa_cons (se_var 6) (sa_cons se_int (sa_cons se_int sa_nil))))))) sa_nil))))))) sss_nil))))))
    (sss_one (ss_ret (se_var 2)))))))))
theorem sc_law_number : FnScope ["item", "below"] ["item", "below"] (defScope s_law_number) := ⟨rfl, rfl, rfl, by decide +kernel, rfl, by decide +kernel, by decide +kernel⟩
theorem t_law_number (T : Txt K w mg cl) : DefG P w K mg base cl 1 "_law_number" ["item", "below"] [] m_law_number :=
  DefG.of (k := 0) T.d_law_number (N := ["item", "below"]) sc_law_number (fun f cdv A outer s H E hr => have nd : List.Nodup (["item", "below"] : List Str) := sc_law_number.nd; (sss_cons (ss_if (st_truth (se_callB cg_isi (by rfl) T.b_isinstance (by decide +kernel) (sa_cons (se_ix (ha' := fun _ _ => rfl) (se_var 0) se_int) (sa_cons (se_bltn (by rfl) T.b_tuple (by decide +kernel)) sa_nil)))) (sss_one (ss_ret (se_tup (sa_cons se_str (sa_cons (se_tup (sa_cons se_str (sa_cons (se_ix (ha' := fun _ _ => rfl) (se_var 0) se_int) sa_nil))) (sa_cons (se_var 1) sa_nil)))))) sss_nil)
    (sss_cons (ss_if (st_cmp og_gt (se_ix (ha' := fun _ _ => rfl) (se_var 0) se_int) (se_var 1) (nomark _)) (sss_one (ss_ret (se_tup (sa_cons se_str (sa_cons (se_ix (ha' := fun _ _ => rfl) (se_var 0) se_int) (sa_cons (se_var 1) sa_nil)))))) sss_nil)
    (sss_one (ss_ret (se_ix (ha' := fun _ _ => rfl) (se_var 0) se_int))))))
theorem sc_law_unary : FnScope ["row", "a", "layers", "way", "bounds", "targets", "below", "layer"] ["row", "a", "layers"] (defScope s_law_unary) := ⟨rfl, rfl, rfl, by decide +kernel, rfl, by decide +kernel, by decide +kernel⟩
theorem t_law_unary (T : Txt K w mg cl) : DefG P w K mg base cl 2 "_law_unary" ["row", "a", "layers"] [] m_law_unary :=
  DefG.of (k := 1) T.d_law_unary (N := ["row", "a", "layers", "way", "bounds", "targets", "below", "layer"]) sc_law_unary (fun f cdv A outer s H E hr => have nd : List.Nodup (["row", "a", "layers", "way", "bounds", "targets", "below", "layer"] : List Str) := sc_law_unary.nd; (sss_cons (ss_set (i := 3) nd rfl (by first | exact Or.inl rfl | exact Or.inr rfl) (se_op og_mod (se_callTy cg_int (by rfl) T.b_int (by decide +kernel) (sa_cons (se_ix (ha' := fun _ _ => rfl) (se_var 0) se_int) sa_nil)) se_int))
    (sss_cons (ss_set (i := 4) nd rfl (by first | exact Or.inl rfl | exact Or.inr rfl) (se_lst (sa_cons (se_op og_add (se_ix (ha' := fun _ _ => rfl) (se_var 1) se_int) se_int) (sa_cons (se_ix (ha' := fun _ _ => rfl) (se_var 1) se_int) (sa_cons (se_ix (ha' := fun _ _ => rfl) (se_var 1) se_int) (sa_cons (se_op og_add (se_ix (ha' := fun _ _ => rfl) (se_var 1) se_int) se_int) sa_nil))))))
    (sss_cons (ss_if (st_truth (se_callB cg_isi (by rfl) T.b_isinstance (by decide +kernel) (sa_cons (se_ix (ha' := fun _ _ => rfl) (se_var 1) se_int) (sa_cons (se_bltn (by rfl) T.b_tuple (by decide +kernel)) sa_nil)))) (sss_one (ss_ret (se_op og_add (se_lst (sa_cons (se_tup (sa_cons (se_ix (ha' := fun _ _ => rfl) (se_lst (sa_cons se_str (sa_cons se_str sa_nil))) (se_var 3)) (sa_cons (se_ix (ha' := fun _ _ => rfl) (se_var 1) se_int) sa_nil))) (sa_cons (se_ix (ha' := fun _ _ => rfl) (se_ix (ha' := fun _ _ => rfl) (se_var 1) se_int) (se_var 3)) sa_nil))) (se_var 4)))) sss_nil)
    (sss_cons (ss_setLc (i := 5) rfl nd rfl rfl (sw_true rfl rfl rfl (by decide +kernel)) (si_of (se_var 2)) (blkOk_by (own := [("layer", 7)]) (N := ["row", "a", "layers", "way", "bounds", "targets", "below", "layer"]) (sc := defScope s_law_unary) (by decide +kernel)) rfl (by decide) (fun _ _ _ _ _ => pg_name (i := 7) nd rfl (by first | exact Or.inl rfl | exact Or.inr rfl)) (fun _ _ _ _ _ => sts_one (st_w (sw_or (st_cmp (og_eq hr.units) (se_ix (ha' := fun _ _ => rfl) (se_var 7) se_int) se_str (nomark _)) (sw_or1 (st_cmp (og_eq hr.units) (se_ix (ha' := fun _ _ => rfl) (se_var 7) se_int) se_str (nomark _)))))) (fun _ _ _ _ _ => (se_var 7)))
    (sss_cons (ss_if (st_w (sw_or (st_cmp (og_eq hr.units) (se_op og_mod (se_ix (ha' := fun _ _ => rfl) (se_var 0) se_int) se_int) se_int (nomark _)) (sw_or1 (st_cmp (og_eq hr.units) (se_var 5) (se_lst sa_nil) (nomark _))))) (sss_cons (ss_set (i := 6) nd rfl (by first | exact Or.inl rfl | exact Or.inr rfl) (se_op og_add se_int (se_op og_mod (se_callTy cg_int (by rfl) T.b_int (by decide +kernel) (sa_cons (se_ix (ha' := fun _ _ => rfl) (se_var 0) se_int) sa_nil)) se_int)))
    (sss_one (ss_ret (se_op og_add (se_lst (sa_cons (se_tup (sa_cons se_str (sa_cons (se_ix (ha' := fun _ _ => rfl) (se_var 1) se_int) (sa_cons (se_var 6) sa_nil)))) (sa_cons (se_callB (cg_min rfl) (by rfl) T.b_min (by decide +kernel) (sa_cons (se_ix (ha' := fun _ _ => rfl) (se_var 1) se_int) (sa_cons (se_var 6) sa_nil))) sa_nil))) (se_var 4))))) sss_nil)
    (sss_cons (ss_set (i := 7) nd rfl (by first | exact Or.inl rfl | exact Or.inr rfl) (se_ix (ha' := fun _ _ => rfl) (se_var 5) (se_op og_mod (se_callTy cg_int (by rfl) T.b_int (by decide +kernel) (sa_cons (se_ix (ha' := fun _ _ => rfl) (se_var 0) se_int) sa_nil)) (se_callB cg_len (by rfl) T.b_len (by decide +kernel) (sa_cons (se_var 5) sa_nil)))))
    (sss_cons (ss_set (i := 4) nd rfl (by first | exact Or.inl rfl | exact Or.inr rfl) (se_lst (sa_cons (se_op og_add (se_op og_add (se_ix (ha' := fun _ _ => rfl) (se_var 1) se_int) (se_ix (ha' := fun _ _ => rfl) (se_var 1) se_int)) se_int) (sa_cons (se_ix (ha' := fun _ _ => rfl) (se_var 1) se_int) (sa_cons (se_ix (ha' := fun _ _ => rfl) (se_var 1) se_int) (sa_cons (se_op og_add (se_ix (ha' := fun _ _ => rfl) (se_var 1) se_int) se_int) sa_nil))))))
    (sss_cons (ss_if (st_cmp (og_eq hr.units) (se_ix (ha' := fun _ _ => rfl) (se_var 7) se_int) se_str (nomark _)) (sss_one (ss_ret (se_op og_add (se_lst (sa_cons (se_tup (sa_cons se_str (sa_cons (se_ix (ha' := fun _ _ => rfl) (se_var 7) se_int) (sa_cons (se_callD (t_law_number T) (hr.mono (by decide)) (by rfl) tk_cx (sa_cons (se_var 1) (sa_cons (se_ix (ha' := fun _ _ => rfl) (se_var 7) se_int) sa_nil))) sa_nil)))) (sa_cons se_int sa_nil))) (se_var 4)))) sss_nil)
    (sss_one (ss_ret (se_op og_add (se_lst (sa_cons (se_tup (sa_cons se_str (sa_cons (se_ix (ha' := fun _ _ => rfl) (se_var 7) se_int) (sa_cons (se_callD (t_law_number T) (hr.mono (by decide)) (by rfl) tk_cx (sa_cons (se_var 1) (sa_cons (se_callB cg_len (by rfl) T.b_len (by decide +kernel) (sa_cons (se_ix (ha' := fun _ _ => rfl) (se_var 7) se_int) sa_nil)) sa_nil))) sa_nil)))) (sa_cons se_int sa_nil))) (se_var 4)))))))))))))
theorem sc_law_binary : FnScope ["row", "a", "b", "bounds", "plain"] ["row", "a", "b"] (defScope s_law_binary) := ⟨rfl, rfl, rfl, by decide +kernel, rfl, by decide +kernel, by decide +kernel⟩
theorem t_law_binary (T : Txt K w mg cl) : DefG P w K mg base cl 2 "_law_binary" ["row", "a", "b"] [] m_law_binary :=
  DefG.of (k := 1) T.d_law_binary (N := ["row", "a", "b", "bounds", "plain"]) sc_law_binary (fun f cdv A outer s H E hr => have nd : List.Nodup (["row", "a", "b", "bounds", "plain"] : List Str) := sc_law_binary.nd; (sss_cons (ss_set (i := 3) nd rfl (by first | exact Or.inl rfl | exact Or.inr rfl) (se_lst (sa_cons (se_op og_add (se_op og_add (se_ix (ha' := fun _ _ => rfl) (se_var 1) se_int) (se_op og_mul (se_callB (cg_max rfl hr.units) (by rfl) T.b_max (by decide +kernel) (sa_cons se_int (sa_cons (se_ix (ha' := fun _ _ => rfl) (se_var 1) se_int) sa_nil))) (se_ix (ha' := fun _ _ => rfl) (se_var 2) se_int))) se_int) (sa_cons (se_op og_mul (se_ix (ha' := fun _ _ => rfl) (se_var 1) se_int) (se_ix (ha' := fun _ _ => rfl) (se_var 2) se_int)) (sa_cons (se_op og_add (se_ix (ha' := fun _ _ => rfl) (se_var 1) se_int) (se_op og_mul (se_ix (ha' := fun _ _ => rfl) (se_var 1) se_int) (se_ix (ha' := fun _ _ => rfl) (se_var 2) se_int))) (sa_cons (se_op og_add (se_callB (cg_max rfl hr.units) (by rfl) T.b_max (by decide +kernel) (sa_cons (se_ix (ha' := fun _ _ => rfl) (se_var 1) se_int) (sa_cons (se_ix (ha' := fun _ _ => rfl) (se_var 2) se_int) sa_nil))) se_int) sa_nil))))))
    (sss_cons (ss_set (i := 4) nd rfl (by first | exact Or.inl rfl | exact Or.inr rfl) (se_and (se_not (se_callB cg_isi (by rfl) T.b_isinstance (by decide +kernel) (sa_cons (se_ix (ha' := fun _ _ => rfl) (se_var 1) se_int) (sa_cons (se_bltn (by rfl) T.b_tuple (by decide +kernel)) sa_nil)))) (se_one (se_not (se_callB cg_isi (by rfl) T.b_isinstance (by decide +kernel) (sa_cons (se_ix (ha' := fun _ _ => rfl) (se_var 2) se_int) (sa_cons (se_bltn (by rfl) T.b_tuple (by decide +kernel)) sa_nil)))))))
    (sss_cons (ss_if (st_w (sw_and (st_cmp (og_eq hr.units) (se_op og_mod (se_ix (ha' := fun _ _ => rfl) (se_var 0) se_int) se_int) se_int (nomark _)) (sw_and1 (st_truth (se_var 4))))) (sss_one (ss_ret (se_op og_add (se_lst (sa_cons (se_tup (sa_cons se_str (sa_cons (se_ix (ha' := fun _ _ => rfl) (se_var 1) se_int) (sa_cons (se_ix (ha' := fun _ _ => rfl) (se_var 2) se_int) sa_nil)))) (sa_cons (se_tup (sa_cons (se_ix (ha' := fun _ _ => rfl) (se_var 1) se_int) (sa_cons (se_ix (ha' := fun _ _ => rfl) (se_var 2) se_int) sa_nil))) sa_nil))) (se_var 3)))) sss_nil)
    (sss_cons (ss_if (st_w (sw_and (st_cmp (og_eq hr.units) (se_op og_mod (se_ix (ha' := fun _ _ => rfl) (se_var 0) se_int) se_int) se_int (nomark _)) (sw_and (st_truth (se_var 4)) (sw_and1 (st_cmp og_le (se_op og_add (se_ix (ha' := fun _ _ => rfl) (se_var 1) se_int) (se_ix (ha' := fun _ _ => rfl) (se_var 2) se_int)) se_int (nomark _)))))) (sss_one (ss_ret (se_op og_add (se_lst (sa_cons (se_tup (sa_cons se_str (sa_cons (se_ix (ha' := fun _ _ => rfl) (se_var 1) se_int) (sa_cons (se_ix (ha' := fun _ _ => rfl) (se_var 2) se_int) sa_nil)))) (sa_cons (se_callB (cg_max rfl hr.units) (by rfl) T.b_max (by decide +kernel) (sa_cons se_int (sa_cons (se_op og_sub (se_op og_add (se_ix (ha' := fun _ _ => rfl) (se_var 1) se_int) (se_ix (ha' := fun _ _ => rfl) (se_var 2) se_int)) se_int) sa_nil))) sa_nil))) (se_var 3)))) sss_nil)
    (sss_cons (ss_if (st_w (sw_and (st_cmp (og_eq hr.units) (se_op og_mod (se_ix (ha' := fun _ _ => rfl) (se_var 0) se_int) se_int) se_int (nomark _)) (sw_and1 (st_truth (se_var 4))))) (sss_one (ss_ret (se_op og_add (se_lst (sa_cons (se_tup (sa_cons se_str (sa_cons (se_ix (ha' := fun _ _ => rfl) (se_var 1) se_int) (sa_cons (se_ix (ha' := fun _ _ => rfl) (se_var 2) se_int) sa_nil)))) (sa_cons se_int sa_nil))) (se_var 3)))) sss_nil)
    (sss_cons (ss_if (st_w (sw_and (st_truth (se_callB cg_isi (by rfl) T.b_isinstance (by decide +kernel) (sa_cons (se_ix (ha' := fun _ _ => rfl) (se_var 1) se_int) (sa_cons (se_bltn (by rfl) T.b_tuple (by decide +kernel)) sa_nil)))) (sw_and1 (st_cmp og_le (se_callB (cg_max rfl hr.units) (by rfl) T.b_max (by decide +kernel) (sa_cons (se_ix (ha' := fun _ _ => rfl) (se_var 1) se_int) sa_nil)) se_int (nomark _))))) (sss_one (ss_ret (se_op og_add (se_lst (sa_cons (se_tup (sa_cons se_str (sa_cons se_str (sa_cons (se_ix (ha' := fun _ _ => rfl) (se_var 1) se_int) (sa_cons (se_ix (ha' := fun _ _ => rfl) (se_var 2) se_int) sa_nil))))) (sa_cons (se_ix (ha' := fun _ _ => rfl) (se_var 2) se_int) sa_nil))) (se_var 3)))) sss_nil)
    (sss_cons (ss_if (st_cmp (og_eq hr.units) (se_op og_mod (se_ix (ha' := fun _ _ => rfl) (se_var 0) se_int) se_int) se_int (nomark _)) (sss_one (ss_ret (se_op og_add (se_lst (sa_cons (se_tup (sa_cons se_str (sa_cons se_str (sa_cons (se_callD (t_law_number T) (hr.mono (by decide)) (by rfl) tk_cx (sa_cons (se_var 1) (sa_cons se_int sa_nil))) (sa_cons (se_ix (ha' := fun _ _ => rfl) (se_var 2) se_int) sa_nil))))) (sa_cons (se_ix (ha' := fun _ _ => rfl) (se_var 2) se_int) sa_nil))) (se_var 3)))) sss_nil)
    (sss_one (ss_ret (se_op og_add (se_lst (sa_cons (se_tup (sa_cons se_str (sa_cons se_str (sa_cons (se_callD (t_law_number T) (hr.mono (by decide)) (by rfl) tk_cx (sa_cons (se_var 1) (sa_cons se_int sa_nil))) (sa_cons (se_ix (ha' := fun _ _ => rfl) (se_var 2) se_int) sa_nil))))) (sa_cons (se_ix (ha' := fun _ _ => rfl) (se_var 2) se_int) sa_nil))) (se_var 3))))))))))))
theorem sc_law_both : FnScope ["a", "b"] ["a", "b"] (defScope s_law_both) := ⟨rfl, rfl, rfl, by decide +kernel, rfl, by decide +kernel, by decide +kernel⟩
theorem t_law_both (T : Txt K w mg cl) : DefG P w K mg base cl 1 "_law_both" ["a", "b"] [] m_law_both :=
  DefG.of (k := 0) T.d_law_both (N := ["a", "b"]) sc_law_both (fun f cdv A outer s H E hr => have nd : List.Nodup (["a", "b"] : List Str) := sc_law_both.nd; (sss_cons (ss_if (st_w (sw_and (st_truth (se_callB cg_isi (by rfl) T.b_isinstance (by decide +kernel) (sa_cons (se_ix (ha' := fun _ _ => rfl) (se_var 0) se_int) (sa_cons (se_bltn (by rfl) T.b_tuple (by decide +kernel)) sa_nil)))) (sw_and1 (st_truth (se_callB cg_isi (by rfl) T.b_isinstance (by decide +kernel) (sa_cons (se_ix (ha' := fun _ _ => rfl) (se_var 1) se_int) (sa_cons (se_bltn (by rfl) T.b_tuple (by decide +kernel)) sa_nil))))))) (sss_one (ss_ret (se_tup (sa_cons (se_callB (cg_max rfl hr.units) (by rfl) T.b_max (by decide +kernel) (sa_cons (se_ix (ha' := fun _ _ => rfl) (se_ix (ha' := fun _ _ => rfl) (se_var 0) se_int) se_int) (sa_cons (se_ix (ha' := fun _ _ => rfl) (se_ix (ha' := fun _ _ => rfl) (se_var 1) se_int) se_int) sa_nil))) (sa_cons (se_callB (cg_max rfl hr.units) (by rfl) T.b_max (by decide +kernel) (sa_cons (se_ix (ha' := fun _ _ => rfl) (se_ix (ha' := fun _ _ => rfl) (se_var 0) se_int) se_int) (sa_cons (se_ix (ha' := fun _ _ => rfl) (se_ix (ha' := fun _ _ => rfl) (se_var 1) se_int) se_int) sa_nil))) sa_nil))))) sss_nil)
    (sss_cons (ss_if (st_w (sw_or (st_truth (se_callB cg_isi (by rfl) T.b_isinstance (by decide +kernel) (sa_cons (se_ix (ha' := fun _ _ => rfl) (se_var 0) se_int) (sa_cons (se_bltn (by rfl) T.b_tuple (by decide +kernel)) sa_nil)))) (sw_or1 (st_truth (se_callB cg_isi (by rfl) T.b_isinstance (by decide +kernel) (sa_cons (se_ix (ha' := fun _ _ => rfl) (se_var 1) se_int) (sa_cons (se_bltn (by rfl) T.b_tuple (by decide +kernel)) sa_nil))))))) (sss_one (ss_ret se_non)) sss_nil)
    (sss_one (ss_ret (se_callB (cg_max rfl hr.units) (by rfl) T.b_max (by decide +kernel) (sa_cons (se_ix (ha' := fun _ _ => rfl) (se_var 0) se_int) (sa_cons (se_ix (ha' := fun _ _ => rfl) (se_var 1) se_int) sa_nil))))))))
theorem sc_law_round : FnScope ["row", "a", "b", "count", "tree", "leaves", "fails", "turn", "deep"] ["row", "a", "b"] (defScope s_law_round) := ⟨rfl, rfl, rfl, by decide +kernel, rfl, by decide +kernel, by decide +kernel⟩
theorem t_law_round (T : Txt K w mg cl) : DefG P w K mg base cl 2 "_law_round" ["row", "a", "b"] [] m_law_round :=
  DefG.of (k := 1) T.d_law_round (N := ["row", "a", "b", "count", "tree", "leaves", "fails", "turn", "deep"]) sc_law_round (fun f cdv A outer s H E hr => have nd : List.Nodup (["row", "a", "b", "count", "tree", "leaves", "fails", "turn", "deep"] : List Str) := sc_law_round.nd; (sss_cons (ss_set (i := 3) nd rfl (by first | exact Or.inl rfl | exact Or.inr rfl) (se_op og_add se_int (se_op og_mod (se_callTy cg_int (by rfl) T.b_int (by decide +kernel) (sa_cons (se_ix (ha' := fun _ _ => rfl) (se_var 0) se_int) sa_nil)) se_int)))
    (sss_cons (ss_set (i := 4) nd rfl (by first | exact Or.inl rfl | exact Or.inr rfl) (se_op og_add (se_ix (ha' := fun _ _ => rfl) (se_var 1) se_int) se_int))
    (sss_cons (ss_set (i := 5) nd rfl (by first | exact Or.inl rfl | exact Or.inr rfl) (se_ix (ha' := fun _ _ => rfl) (se_var 1) se_int))
    (sss_cons (ss_set (i := 6) nd rfl (by first | exact Or.inl rfl | exact Or.inr rfl) (se_ix (ha' := fun _ _ => rfl) (se_var 1) se_int))
    (sss_cons (ss_for po_cx rfl (si_range1 (by rfl) T.b_range (sa_cons (se_var 3) sa_nil)) (sg_name (i := 7) nd rfl (by first | exact Or.inl rfl | exact Or.inr rfl)) (sss_cons (ss_set (i := 6) nd rfl (by first | exact Or.inl rfl | exact Or.inr rfl) (se_op og_add (se_var 6) (se_op og_mul (se_var 5) (se_ix (ha' := fun _ _ => rfl) (se_var 2) se_int))))
    (sss_cons (ss_set (i := 4) nd rfl (by first | exact Or.inl rfl | exact Or.inr rfl) (se_op og_add (se_var 4) (se_op og_mul (se_callB (cg_max rfl hr.units) (by rfl) T.b_max (by decide +kernel) (sa_cons se_int (sa_cons (se_var 5) sa_nil))) (se_op og_add (se_ix (ha' := fun _ _ => rfl) (se_var 2) se_int) se_int))))
    (sss_one (ss_set (i := 5) nd rfl (by first | exact Or.inl rfl | exact Or.inr rfl) (se_op og_mul (se_var 5) (se_ix (ha' := fun _ _ => rfl) (se_var 2) se_int)))))))
    (sss_cons (ss_set (i := 8) nd rfl (by first | exact Or.inl rfl | exact Or.inr rfl) (se_op og_add (se_callB (cg_max rfl hr.units) (by rfl) T.b_max (by decide +kernel) (sa_cons (se_ix (ha' := fun _ _ => rfl) (se_var 1) se_int) (sa_cons (se_ix (ha' := fun _ _ => rfl) (se_var 2) se_int) sa_nil))) se_int))
    (sss_one (ss_ret (se_lst (sa_cons (se_tup (sa_cons se_str (sa_cons (se_var 3) (sa_cons se_str (sa_cons (se_callD (t_law_number T) (hr.mono (by decide)) (by rfl) tk_cx (sa_cons (se_var 1) (sa_cons se_int sa_nil))) (sa_cons (se_callD (t_law_number T) (hr.mono (by decide)) (by rfl) tk_cx (sa_cons (se_var 2) (sa_cons se_int sa_nil))) sa_nil)))))) (sa_cons se_int (sa_cons (se_var 4) (sa_cons (se_var 5) (sa_cons (se_var 6) (sa_cons (se_var 8) sa_nil))))))))))))))))
theorem sc_law_try : FnScope ["row", "a", "b", "layers", "tries", "many", "at", "kind", "layer", "expression", "tree", "leaves"] ["row", "a", "b", "layers"] (defScope s_law_try) := ⟨rfl, rfl, rfl, by decide +kernel, rfl, by decide +kernel, by decide +kernel⟩
theorem t_law_try (T : Txt K w mg cl) : DefG P w K mg base cl 2 "_law_try" ["row", "a", "b", "layers"] [] m_law_try :=
  DefG.of (k := 1) T.d_law_try (N := ["row", "a", "b", "layers", "tries", "many", "at", "kind", "layer", "expression", "tree", "leaves"]) sc_law_try (fun f cdv A outer s H E hr => have nd : List.Nodup (["row", "a", "b", "layers", "tries", "many", "at", "kind", "layer", "expression", "tree", "leaves"] : List Str) := sc_law_try.nd; (sss_cons (ss_set (i := 4) nd rfl (by first | exact Or.inl rfl | exact Or.inr rfl) (se_lst sa_nil))
    (sss_cons (ss_set (i := 5) nd rfl (by first | exact Or.inl rfl | exact Or.inr rfl) se_int)
    (sss_cons (ss_for po_cx rfl (si_range1 (by rfl) T.b_range (sa_cons (se_callB cg_len (by rfl) T.b_len (by decide +kernel) (sa_cons (se_var 3) sa_nil)) sa_nil)) (sg_name (i := 6) nd rfl (by first | exact Or.inl rfl | exact Or.inr rfl)) (sss_cons (ss_if (st_cmp (og_eq hr.units) (se_ix (ha' := fun _ _ => rfl) (se_ix (ha' := fun _ _ => rfl) (se_var 3) (se_var 6)) se_int) se_str (nomark _)) (sss_one (ss_set (i := 4) nd rfl (by first | exact Or.inl rfl | exact Or.inr rfl) (se_lst sa_nil))) sss_nil)
    (sss_cons (ss_if (st_cmp (og_eq hr.units) (se_ix (ha' := fun _ _ => rfl) (se_ix (ha' := fun _ _ => rfl) (se_var 3) (se_var 6)) se_int) se_str (nomark _)) (sss_one (ss_expr (se_bm PySem.F.plainAttrs_list PySem.F.slot_list_append PySem.F.type_list_append mg_append (se_var 4) (sa_cons (se_ix (ha' := fun _ _ => rfl) (se_var 3) (se_var 6)) sa_nil)))) sss_nil)
    (sss_one (ss_if (st_cmp (og_eq hr.units) (se_ix (ha' := fun _ _ => rfl) (se_ix (ha' := fun _ _ => rfl) (se_var 3) (se_var 6)) se_int) se_str (nomark _)) (sss_one (ss_set (i := 5) nd rfl (by first | exact Or.inl rfl | exact Or.inr rfl) (se_op og_mul (se_var 5) (se_ix (ha' := fun _ _ => rfl) (se_ix (ha' := fun _ _ => rfl) (se_var 3) (se_var 6)) se_int)))) sss_nil)))))
    (sss_cons (ss_set (i := 7) nd rfl (by first | exact Or.inl rfl | exact Or.inr rfl) (se_callD (t_law_both T) (hr.mono (by decide)) (by rfl) tk_cx (sa_cons (se_var 1) (sa_cons (se_var 2) sa_nil))))
    (sss_cons (ss_if (st_w (sw_or (st_cmp (og_eq hr.units) (se_var 4) (se_lst sa_nil) (nomark _)) (sw_or1 (st_cmp og_is (se_var 7) se_non (nomark _))))) (sss_one (ss_ret se_non)) sss_nil)
    (sss_cons (ss_set (i := 8) nd rfl (by first | exact Or.inl rfl | exact Or.inr rfl) (se_ix (ha' := fun _ _ => rfl) (se_var 4) (se_op og_mod (se_callTy cg_int (by rfl) T.b_int (by decide +kernel) (sa_cons (se_ix (ha' := fun _ _ => rfl) (se_var 0) se_int) sa_nil)) (se_callB cg_len (by rfl) T.b_len (by decide +kernel) (sa_cons (se_var 4) sa_nil)))))
    (sss_cons (ss_set (i := 9) nd rfl (by first | exact Or.inl rfl | exact Or.inr rfl) (se_tup (sa_cons se_str (sa_cons (se_ix (ha' := fun _ _ => rfl) (se_var 8) se_int) (sa_cons (se_op og_mod (se_callTy cg_int (by rfl) T.b_int (by decide +kernel) (sa_cons (se_ix (ha' := fun _ _ => rfl) (se_var 0) se_int) sa_nil)) (se_ix (ha' := fun _ _ => rfl) (se_var 8) se_int)) (sa_cons (se_ix (ha' := fun _ _ => rfl) (se_var 1) se_int) (sa_cons (se_ix (ha' := fun _ _ => rfl) (se_var 2) se_int) sa_nil)))))))
    (sss_cons (ss_set (i := 10) nd rfl (by first | exact Or.inl rfl | exact Or.inr rfl) (se_op og_mul (se_var 5) (se_op og_add (se_op og_add (se_op og_add se_int (se_ix (ha' := fun _ _ => rfl) (se_var 1) se_int)) (se_op og_mul se_int (se_ix (ha' := fun _ _ => rfl) (se_var 1) se_int))) (se_op og_mul (se_op og_add se_int (se_ix (ha' := fun _ _ => rfl) (se_var 1) se_int)) (se_op og_add se_int (se_ix (ha' := fun _ _ => rfl) (se_var 2) se_int))))))
    (sss_cons (ss_set (i := 11) nd rfl (by first | exact Or.inl rfl | exact Or.inr rfl) (se_op og_mul (se_var 5) (se_op og_add (se_ix (ha' := fun _ _ => rfl) (se_var 1) se_int) (se_op og_mul (se_ix (ha' := fun _ _ => rfl) (se_var 1) se_int) (se_ix (ha' := fun _ _ => rfl) (se_var 2) se_int)))))
    (sss_one (ss_ret (se_lst (sa_cons (se_var 9) (sa_cons (se_var 7) (sa_cons (se_var 10) (sa_cons (se_var 11) (sa_cons (se_op og_mul (se_var 5) (se_op og_add (se_ix (ha' := fun _ _ => rfl) (se_var 1) se_int) (se_op og_mul (se_ix (ha' := fun _ _ => rfl) (se_var 1) se_int) (se_ix (ha' := fun _ _ => rfl) (se_var 2) se_int)))) (sa_cons (se_op og_add (se_callB (cg_max rfl hr.units) (by rfl) T.b_max (by decide +kernel) (sa_cons (se_ix (ha' := fun _ _ => rfl) (se_var 1) se_int) (sa_cons (se_ix (ha' := fun _ _ => rfl) (se_var 2) se_int) sa_nil))) se_int) sa_nil)))))))))))))))))))
theorem sc_law_if : FnScope ["a", "b", "c", "kind", "tree", "bounds"] ["a", "b", "c"] (defScope s_law_if) := ⟨rfl, rfl, rfl, by decide +kernel, rfl, by decide +kernel, by decide +kernel⟩
theorem t_law_if (T : Txt K w mg cl) : DefG P w K mg base cl 2 "_law_if" ["a", "b", "c"] [] m_law_if :=
  DefG.of (k := 1) T.d_law_if (N := ["a", "b", "c", "kind", "tree", "bounds"]) sc_law_if (fun f cdv A outer s H E hr => have nd : List.Nodup (["a", "b", "c", "kind", "tree", "bounds"] : List Str) := sc_law_if.nd; (sss_cons (ss_set (i := 3) nd rfl (by first | exact Or.inl rfl | exact Or.inr rfl) (se_callD (t_law_both T) (hr.mono (by decide)) (by rfl) tk_cx (sa_cons (se_var 1) (sa_cons (se_var 2) sa_nil))))
    (sss_cons (ss_if (st_w (sw_or (st_cmp og_is (se_var 3) se_non (nomark _)) (sw_or1 (st_truth (se_callB cg_isi (by rfl) T.b_isinstance (by decide +kernel) (sa_cons (se_ix (ha' := fun _ _ => rfl) (se_var 0) se_int) (sa_cons (se_bltn (by rfl) T.b_tuple (by decide +kernel)) sa_nil))))))) (sss_one (ss_ret se_non)) sss_nil)
    (sss_cons (ss_set (i := 4) nd rfl (by first | exact Or.inl rfl | exact Or.inr rfl) (se_op og_add (se_op og_add (se_ix (ha' := fun _ _ => rfl) (se_var 0) se_int) (se_op og_mul (se_callB (cg_max rfl hr.units) (by rfl) T.b_max (by decide +kernel) (sa_cons se_int (sa_cons (se_ix (ha' := fun _ _ => rfl) (se_var 0) se_int) sa_nil))) (se_op og_add (se_ix (ha' := fun _ _ => rfl) (se_var 1) se_int) (se_ix (ha' := fun _ _ => rfl) (se_var 2) se_int)))) se_int))
    (sss_cons (ss_set (i := 5) nd rfl (by first | exact Or.inl rfl | exact Or.inr rfl) (se_lst (sa_cons (se_var 4) (sa_cons (se_op og_mul (se_ix (ha' := fun _ _ => rfl) (se_var 0) se_int) (se_callB (cg_max rfl hr.units) (by rfl) T.b_max (by decide +kernel) (sa_cons (se_ix (ha' := fun _ _ => rfl) (se_var 1) se_int) (sa_cons (se_ix (ha' := fun _ _ => rfl) (se_var 2) se_int) sa_nil)))) (sa_cons (se_op og_add (se_ix (ha' := fun _ _ => rfl) (se_var 0) se_int) (se_op og_mul (se_ix (ha' := fun _ _ => rfl) (se_var 0) se_int) (se_callB (cg_max rfl hr.units) (by rfl) T.b_max (by decide +kernel) (sa_cons (se_ix (ha' := fun _ _ => rfl) (se_var 1) se_int) (sa_cons (se_ix (ha' := fun _ _ => rfl) (se_var 2) se_int) sa_nil))))) (sa_cons (se_op og_add (se_callB (cg_max rfl hr.units) (by rfl) T.b_max (by decide +kernel) (sa_cons (se_ix (ha' := fun _ _ => rfl) (se_var 0) se_int) (sa_cons (se_ix (ha' := fun _ _ => rfl) (se_var 1) se_int) (sa_cons (se_ix (ha' := fun _ _ => rfl) (se_var 2) se_int) sa_nil)))) se_int) sa_nil))))))
    (sss_one (ss_ret (se_op og_add (se_lst (sa_cons (se_tup (sa_cons se_str (sa_cons (se_ix (ha' := fun _ _ => rfl) (se_var 0) se_int) (sa_cons (se_ix (ha' := fun _ _ => rfl) (se_var 1) se_int) (sa_cons (se_ix (ha' := fun _ _ => rfl) (se_var 2) se_int) sa_nil))))) (sa_cons (se_var 3) sa_nil))) (se_var 5)))))))))
theorem sc_law_call : FnScope ["row", "a", "b", "functions", "name", "item", "leaves", "tree", "expression", "fails"] ["row", "a", "b", "functions"] (defScope s_law_call) := ⟨rfl, rfl, rfl, by decide +kernel, rfl, by decide +kernel, by decide +kernel⟩
theorem t_law_call (T : Txt K w mg cl) : DefG P w K mg base cl 2 "_law_call" ["row", "a", "b", "functions"] [] m_law_call :=
  DefG.of (k := 1) T.d_law_call (N := ["row", "a", "b", "functions", "name", "item", "leaves", "tree", "expression", "fails"]) sc_law_call (fun f cdv A outer s H E hr => have nd : List.Nodup (["row", "a", "b", "functions", "name", "item", "leaves", "tree", "expression", "fails"] : List Str) := sc_law_call.nd; (sss_cons (ss_asg (se_ix (ha' := fun _ _ => rfl) (se_var 3) (se_op og_mod (se_callTy cg_int (by rfl) T.b_int (by decide +kernel) (sa_cons (se_ix (ha' := fun _ _ => rfl) (se_var 0) se_int) sa_nil)) (se_callB cg_len (by rfl) T.b_len (by decide +kernel) (sa_cons (se_var 3) sa_nil)))) (sg_tup rfl (sgs_cons (sg_name (i := 4) nd rfl (by first | exact Or.inl rfl | exact Or.inr rfl)) (sgs_cons (sg_name (i := 5) nd rfl (by first | exact Or.inl rfl | exact Or.inr rfl)) sgs_nil))))
    (sss_cons (ss_set (i := 6) nd rfl (by first | exact Or.inl rfl | exact Or.inr rfl) (se_op og_mul (se_ix (ha' := fun _ _ => rfl) (se_var 1) se_int) (se_ix (ha' := fun _ _ => rfl) (se_var 2) se_int)))
    (sss_cons (ss_set (i := 7) nd rfl (by first | exact Or.inl rfl | exact Or.inr rfl) (se_op og_add (se_op og_add (se_ix (ha' := fun _ _ => rfl) (se_var 1) se_int) (se_op og_mul (se_callB (cg_max rfl hr.units) (by rfl) T.b_max (by decide +kernel) (sa_cons se_int (sa_cons (se_ix (ha' := fun _ _ => rfl) (se_var 1) se_int) sa_nil))) (se_op og_add (se_ix (ha' := fun _ _ => rfl) (se_var 2) se_int) se_int))) (se_op og_mul (se_callB (cg_max rfl hr.units) (by rfl) T.b_max (by decide +kernel) (sa_cons se_int (sa_cons (se_var 6) sa_nil))) (se_ix (ha' := fun _ _ => rfl) (se_var 5) se_int))))
    (sss_cons (ss_set (i := 8) nd rfl (by first | exact Or.inl rfl | exact Or.inr rfl) (se_tup (sa_cons se_str (sa_cons (se_var 4) (sa_cons (se_tup (sa_cons (se_callD (t_law_number T) (hr.mono (by decide)) (by rfl) tk_cx (sa_cons (se_var 1) (sa_cons se_int sa_nil))) (sa_cons (se_callD (t_law_number T) (hr.mono (by decide)) (by rfl) tk_cx (sa_cons (se_var 2) (sa_cons se_int sa_nil))) sa_nil))) sa_nil)))))
    (sss_cons (ss_set (i := 9) nd rfl (by first | exact Or.inl rfl | exact Or.inr rfl) (se_op og_add (se_op og_add (se_ix (ha' := fun _ _ => rfl) (se_var 1) se_int) (se_op og_mul (se_ix (ha' := fun _ _ => rfl) (se_var 1) se_int) (se_ix (ha' := fun _ _ => rfl) (se_var 2) se_int))) (se_op og_mul (se_var 6) (se_ix (ha' := fun _ _ => rfl) (se_var 5) se_int))))
    (sss_one (ss_ret (se_lst (sa_cons (se_var 8) (sa_cons (se_ix (ha' := fun _ _ => rfl) (se_var 5) se_int) (sa_cons (se_var 7) (sa_cons (se_op og_mul (se_var 6) (se_ix (ha' := fun _ _ => rfl) (se_var 5) se_int)) (sa_cons (se_var 9) (sa_cons (se_op og_add (se_callB (cg_max rfl hr.units) (by rfl) T.b_max (by decide +kernel) (sa_cons (se_ix (ha' := fun _ _ => rfl) (se_var 1) se_int) (sa_cons (se_ix (ha' := fun _ _ => rfl) (se_var 2) se_int) sa_nil))) se_int) sa_nil)))))))))))))))
theorem sc_law_grown : FnScope ["row", "pile", "layers", "functions", "word"] ["row", "pile", "layers", "functions"] (defScope s_law_grown) := ⟨rfl, rfl, rfl, by decide +kernel, rfl, by decide +kernel, by decide +kernel⟩
theorem t_law_grown (T : Txt K w mg cl) : DefG P w K mg base cl 3 "_law_grown" ["row", "pile", "layers", "functions"] [] m_law_grown :=
  DefG.of (k := 2) T.d_law_grown (N := ["row", "pile", "layers", "functions", "word"]) sc_law_grown (fun f cdv A outer s H E hr => have nd : List.Nodup (["row", "pile", "layers", "functions", "word"] : List Str) := sc_law_grown.nd; (sss_cons (ss_set (i := 4) nd rfl (by first | exact Or.inl rfl | exact Or.inr rfl) (se_op og_mod (se_callTy cg_int (by rfl) T.b_int (by decide +kernel) (sa_cons (se_ix (ha' := fun _ _ => rfl) (se_var 0) se_int) sa_nil)) se_int))
    (sss_cons (ss_if (st_w (sw_and (st_cmp (og_eq hr.units) (se_var 4) se_int (nomark _)) (sw_and1 (st_cmp og_ge (se_callB cg_len (by rfl) T.b_len (by decide +kernel) (sa_cons (se_var 1) sa_nil)) se_int (nomark _))))) (sss_one (ss_ret (se_tup (sa_cons se_int (sa_cons (se_callD (t_law_unary T) (hr.mono (by decide)) (by rfl) tk_cx (sa_cons (se_var 0) (sa_cons (se_ix (ha' := fun _ _ => rfl) (se_var 1) (se_neg se_int)) (sa_cons (se_var 2) sa_nil)))) sa_nil))))) sss_nil)
    (sss_cons (ss_if (st_w (sw_and (st_cmp og_in (se_var 4) (se_tup (sa_cons se_int (sa_cons se_int (sa_cons se_int sa_nil)))) (by rfl)) (sw_and1 (st_cmp og_ge (se_callB cg_len (by rfl) T.b_len (by decide +kernel) (sa_cons (se_var 1) sa_nil)) se_int (nomark _))))) (sss_one (ss_ret (se_tup (sa_cons se_int (sa_cons (se_callD (t_law_binary T) (hr.mono (by decide)) (by rfl) tk_cx (sa_cons (se_var 0) (sa_cons (se_ix (ha' := fun _ _ => rfl) (se_var 1) (se_neg se_int)) (sa_cons (se_ix (ha' := fun _ _ => rfl) (se_var 1) (se_neg se_int)) sa_nil)))) sa_nil))))) sss_nil)
    (sss_cons (ss_if (st_w (sw_and (st_cmp (og_eq hr.units) (se_var 4) se_int (nomark _)) (sw_and1 (st_cmp og_ge (se_callB cg_len (by rfl) T.b_len (by decide +kernel) (sa_cons (se_var 1) sa_nil)) se_int (nomark _))))) (sss_one (ss_ret (se_tup (sa_cons se_int (sa_cons (se_callD (t_law_round T) (hr.mono (by decide)) (by rfl) tk_cx (sa_cons (se_var 0) (sa_cons (se_ix (ha' := fun _ _ => rfl) (se_var 1) (se_neg se_int)) (sa_cons (se_ix (ha' := fun _ _ => rfl) (se_var 1) (se_neg se_int)) sa_nil)))) sa_nil))))) sss_nil)
    (sss_cons (ss_if (st_w (sw_and (st_cmp (og_eq hr.units) (se_var 4) se_int (nomark _)) (sw_and1 (st_cmp og_ge (se_callB cg_len (by rfl) T.b_len (by decide +kernel) (sa_cons (se_var 1) sa_nil)) se_int (nomark _))))) (sss_one (ss_ret (se_tup (sa_cons se_int (sa_cons (se_callD (t_law_try T) (hr.mono (by decide)) (by rfl) tk_cx (sa_cons (se_var 0) (sa_cons (se_ix (ha' := fun _ _ => rfl) (se_var 1) (se_neg se_int)) (sa_cons (se_ix (ha' := fun _ _ => rfl) (se_var 1) (se_neg se_int)) (sa_cons (se_var 2) sa_nil))))) sa_nil))))) sss_nil)
    (sss_cons (ss_if (st_w (sw_and (st_cmp (og_eq hr.units) (se_var 4) se_int (nomark _)) (sw_and1 (st_cmp og_ge (se_callB cg_len (by rfl) T.b_len (by decide +kernel) (sa_cons (se_var 1) sa_nil)) se_int (nomark _))))) (sss_one (ss_ret (se_tup (sa_cons se_int (sa_cons (se_callD (t_law_if T) (hr.mono (by decide)) (by rfl) tk_cx (sa_cons (se_ix (ha' := fun _ _ => rfl) (se_var 1) (se_neg se_int)) (sa_cons (se_ix (ha' := fun _ _ => rfl) (se_var 1) (se_neg se_int)) (sa_cons (se_ix (ha' := fun _ _ => rfl) (se_var 1) (se_neg se_int)) sa_nil)))) sa_nil))))) sss_nil)
    (sss_cons (ss_if (st_w (sw_and (st_cmp (og_eq hr.units) (se_var 4) se_int (nomark _)) (sw_and (st_cmp og_ge (se_callB cg_len (by rfl) T.b_len (by decide +kernel) (sa_cons (se_var 1) sa_nil)) se_int (nomark _)) (sw_and1 (st_cmp (og_ne hr.units) (se_var 3) (se_lst sa_nil) (nomark _)))))) (sss_one (ss_ret (se_tup (sa_cons se_int (sa_cons (se_callD (t_law_call T) (hr.mono (by decide)) (by rfl) tk_cx (sa_cons (se_var 0) (sa_cons (se_ix (ha' := fun _ _ => rfl) (se_var 1) (se_neg se_int)) (sa_cons (se_ix (ha' := fun _ _ => rfl) (se_var 1) (se_neg se_int)) (sa_cons (se_var 3) sa_nil))))) sa_nil))))) sss_nil)
    (sss_one (ss_ret (se_tup (sa_cons se_int (sa_cons se_non sa_nil)))))))))))))
theorem sc_law_item : FnScope ["script", "k", "kernel", "layers", "functions", "count", "most", "pile", "leaves", "at", "row", "used", "item", "before", "longer"] ["script", "k", "kernel", "layers", "functions", "count", "most"] (defScope s_law_item) := ⟨rfl, rfl, rfl, by decide +kernel, rfl, by decide +kernel, by decide +kernel⟩
theorem t_law_item (T : Txt K w mg cl) : DefG P w K mg base cl 4 "_law_item" ["script", "k", "kernel", "layers", "functions", "count", "most"] [] m_law_item :=
  DefG.of (k := 3) T.d_law_item (N := ["script", "k", "kernel", "layers", "functions", "count", "most", "pile", "leaves", "at", "row", "used", "item", "before", "longer"]) sc_law_item (fun f cdv A outer s H E hr => have nd : List.Nodup (["script", "k", "kernel", "layers", "functions", "count", "most", "pile", "leaves", "at", "row", "used", "item", "before", "longer"] : List Str) := sc_law_item.nd; (sss_cons (ss_set (i := 7) nd rfl (by first | exact Or.inl rfl | exact Or.inr rfl) (se_lst sa_nil))
    (sss_cons (ss_set (i := 8) nd rfl (by first | exact Or.inl rfl | exact Or.inr rfl) (se_callD (t_law_leaves T) (hr.mono (by decide)) (by rfl) tk_cx (sa_cons (se_var 2) (sa_cons (se_var 3) sa_nil))))
    (sss_cons (ss_for po_cx rfl (si_range1 (by rfl) T.b_range (sa_cons (se_var 5) sa_nil)) (sg_name (i := 9) nd rfl (by first | exact Or.inl rfl | exact Or.inr rfl)) (sss_cons (ss_set (i := 10) nd rfl (by first | exact Or.inl rfl | exact Or.inr rfl) (se_callD (t_law_row T) (hr.mono (by decide)) (by rfl) tk_cx (sa_cons (se_var 0) (sa_cons (se_op og_add (se_var 1) (se_var 9)) (sa_cons se_int sa_nil)))))
    (sss_cons (ss_asg (se_callD (t_law_grown T) (hr.mono (by decide)) (by rfl) tk_cx (sa_cons (se_var 10) (sa_cons (se_var 7) (sa_cons (se_var 3) (sa_cons (se_var 4) sa_nil))))) (sg_tup rfl (sgs_cons (sg_name (i := 11) nd rfl (by first | exact Or.inl rfl | exact Or.inr rfl)) (sgs_cons (sg_name (i := 12) nd rfl (by first | exact Or.inl rfl | exact Or.inr rfl)) sgs_nil))))
    (sss_one (ss_if (st_w (sw_or (st_cmp og_is (se_var 12) se_non (nomark _)) (sw_or (st_cmp og_gt (se_ix (ha' := fun _ _ => rfl) (se_var 12) se_int) (se_var 6) (nomark _)) (sw_or1 (st_cmp og_gt (se_ix (ha' := fun _ _ => rfl) (se_var 12) se_int) se_int (nomark _)))))) (sss_one (ss_expr (se_bm PySem.F.plainAttrs_list PySem.F.slot_list_append PySem.F.type_list_append mg_append (se_var 7) (sa_cons (se_ix (ha' := fun _ _ => rfl) (se_var 8) (se_op og_mod (se_callTy cg_int (by rfl) T.b_int (by decide +kernel) (sa_cons (se_ix (ha' := fun _ _ => rfl) (se_var 10) se_int) sa_nil)) (se_callB cg_len (by rfl) T.b_len (by decide +kernel) (sa_cons (se_var 8) sa_nil)))) sa_nil)))) (sss_one (ss_set (i := 7) nd rfl (by first | exact Or.inl rfl | exact Or.inr rfl) (se_op og_add (se_sl (se_var 7) sp_none (sp_some (se_op og_sub (se_callB cg_len (by rfl) T.b_len (by decide +kernel) (sa_cons (se_var 7) sa_nil)) (se_var 11)))) (se_lst (sa_cons (se_var 12) sa_nil))))))))))
    (sss_cons (ss_set (i := 12) nd rfl (by first | exact Or.inl rfl | exact Or.inr rfl) (se_ix (ha' := fun _ _ => rfl) (se_var 7) (se_neg se_int)))
    (sss_cons (ss_for po_cx rfl (si_rev (by rfl) T.b_reversed (se_sl (se_var 7) sp_none (sp_some (se_neg se_int)))) (sg_name (i := 13) nd rfl (by first | exact Or.inl rfl | exact Or.inr rfl)) (sss_cons (ss_set (i := 14) nd rfl (by first | exact Or.inl rfl | exact Or.inr rfl) (se_callD (t_law_binary T) (hr.mono (by decide)) (by rfl) tk_cx (sa_cons (se_lst (sa_cons se_int (sa_cons se_int (sa_cons se_int sa_nil)))) (sa_cons (se_var 13) (sa_cons (se_var 12) sa_nil)))))
    (sss_one (ss_if (st_w (sw_and (st_cmp og_le (se_ix (ha' := fun _ _ => rfl) (se_var 14) se_int) (se_var 6) (nomark _)) (sw_and1 (st_cmp og_le (se_ix (ha' := fun _ _ => rfl) (se_var 14) se_int) se_int (nomark _))))) (sss_one (ss_set (i := 12) nd rfl (by first | exact Or.inl rfl | exact Or.inr rfl) (se_var 14))) sss_nil))))
    (sss_one (ss_ret (se_var 12)))))))))
theorem sc_law_program : FnScope ["script", "k", "kernel", "layers", "count", "most", "row", "functions", "told", "at", "item", "body", "main"] ["script", "k", "kernel", "layers", "count", "most"] (defScope s_law_program) := ⟨rfl, rfl, rfl, by decide +kernel, rfl, by decide +kernel, by decide +kernel⟩
theorem t_law_program (T : Txt K w mg cl) : DefG P w K mg base cl 5 "_law_program" ["script", "k", "kernel", "layers", "count", "most"] [] m_law_program :=
  DefG.of (k := 4) T.d_law_program (N := ["script", "k", "kernel", "layers", "count", "most", "row", "functions", "told", "at", "item", "body", "main"]) sc_law_program (fun f cdv A outer s H E hr => have nd : List.Nodup (["script", "k", "kernel", "layers", "count", "most", "row", "functions", "told", "at", "item", "body", "main"] : List Str) := sc_law_program.nd; (sss_cons (ss_set (i := 6) nd rfl (by first | exact Or.inl rfl | exact Or.inr rfl) (se_callD (t_law_row T) (hr.mono (by decide)) (by rfl) tk_cx (sa_cons (se_var 0) (sa_cons (se_var 1) (sa_cons se_int sa_nil)))))
    (sss_cons (ss_set (i := 7) nd rfl (by first | exact Or.inl rfl | exact Or.inr rfl) (se_lst sa_nil))
    (sss_cons (ss_set (i := 8) nd rfl (by first | exact Or.inl rfl | exact Or.inr rfl) (se_lst sa_nil))
    (sss_cons (ss_for po_cx rfl (si_range1 (by rfl) T.b_range (sa_cons (se_op og_mod (se_callTy cg_int (by rfl) T.b_int (by decide +kernel) (sa_cons (se_ix (ha' := fun _ _ => rfl) (se_var 6) se_int) sa_nil)) se_int) sa_nil)) (sg_name (i := 9) nd rfl (by first | exact Or.inl rfl | exact Or.inr rfl)) (sss_cons (ss_set (i := 10) nd rfl (by first | exact Or.inl rfl | exact Or.inr rfl) (se_callD (t_law_item T) (hr.mono (by decide)) (by rfl) tk_cx (sa_cons (se_var 0) (sa_cons (se_op og_add (se_op og_add (se_var 1) se_int) (se_op og_mul se_int (se_var 9))) (sa_cons (se_var 2) (sa_cons (se_var 3) (sa_cons (se_var 7) (sa_cons (se_op og_add se_int (se_op og_mod (se_callTy cg_int (by rfl) T.b_int (by decide +kernel) (sa_cons (se_ix (ha' := fun _ _ => rfl) (se_var 6) se_int) sa_nil)) se_int)) (sa_cons (se_op og_div (se_var 5) se_int) sa_nil)))))))))
    (sss_cons (ss_set (i := 11) nd rfl (by first | exact Or.inl rfl | exact Or.inr rfl) (se_tup (sa_cons se_str (sa_cons se_str (sa_cons (se_tup (sa_cons se_str (sa_cons (se_tup (sa_cons se_str (sa_cons se_str sa_nil))) (sa_cons (se_tup (sa_cons se_str (sa_cons se_int sa_nil))) sa_nil)))) (sa_cons (se_ix (ha' := fun _ _ => rfl) (se_var 10) se_int) sa_nil))))))
    (sss_cons (ss_set (i := 7) nd rfl (by first | exact Or.inl rfl | exact Or.inr rfl) (se_op og_add (se_var 7) (se_lst (sa_cons (se_tup (sa_cons (se_ix (ha' := fun _ _ => rfl) se_str (se_var 9)) (sa_cons (se_op og_add (se_lst (sa_cons (se_var 11) (sa_cons (se_ix (ha' := fun _ _ => rfl) (se_var 10) se_int) (sa_cons (se_op og_add (se_ix (ha' := fun _ _ => rfl) (se_var 10) se_int) se_int) sa_nil)))) (se_sl (se_var 10) (sp_some se_int) sp_none)) sa_nil))) sa_nil))))
    (sss_one (ss_expr (se_bm PySem.F.plainAttrs_list PySem.F.slot_list_append PySem.F.type_list_append mg_append (se_var 8) (sa_cons (se_tup (sa_cons (se_ix (ha' := fun _ _ => rfl) se_str (se_var 9)) (sa_cons (se_tup (sa_cons (se_tup (sa_cons se_str (sa_cons se_int sa_nil))) (sa_cons (se_tup (sa_cons se_str (sa_cons se_int sa_nil))) sa_nil))) (sa_cons (se_var 11) sa_nil)))) sa_nil))))))))
    (sss_cons (ss_set (i := 10) nd rfl (by first | exact Or.inl rfl | exact Or.inr rfl) (se_callD (t_law_item T) (hr.mono (by decide)) (by rfl) tk_cx (sa_cons (se_var 0) (sa_cons (se_op og_add (se_var 1) se_int) (sa_cons (se_var 2) (sa_cons (se_var 3) (sa_cons (se_var 7) (sa_cons (se_var 4) (sa_cons (se_var 5) sa_nil)))))))))
    (sss_cons (ss_set (i := 12) nd rfl (by first | exact Or.inl rfl | exact Or.inr rfl) (se_tup (sa_cons se_str (sa_cons se_str (sa_cons (se_tup (sa_cons se_str (sa_cons (se_tup (sa_cons se_str (sa_cons (se_op og_mod (se_callTy cg_int (by rfl) T.b_int (by decide +kernel) (sa_cons (se_ix (ha' := fun _ _ => rfl) (se_var 6) se_int) sa_nil)) se_int) sa_nil))) (sa_cons (se_tup (sa_cons se_str (sa_cons se_str sa_nil))) sa_nil)))) (sa_cons (se_ix (ha' := fun _ _ => rfl) (se_var 10) se_int) sa_nil))))))
    (sss_cons (ss_set (i := 12) nd rfl (by first | exact Or.inl rfl | exact Or.inr rfl) (se_tup (sa_cons se_str (sa_cons se_str (sa_cons (se_tup (sa_cons se_str (sa_cons (se_op og_mod (se_callTy cg_int (by rfl) T.b_int (by decide +kernel) (sa_cons (se_ix (ha' := fun _ _ => rfl) (se_var 6) se_int) sa_nil)) se_int) sa_nil))) (sa_cons (se_tup (sa_cons se_str (sa_cons se_str (sa_cons (se_tup (sa_cons se_str (sa_cons (se_op og_mod (se_callTy cg_int (by rfl) T.b_int (by decide +kernel) (sa_cons (se_ix (ha' := fun _ _ => rfl) (se_var 6) se_int) sa_nil)) se_int) sa_nil))) (sa_cons (se_var 12) sa_nil))))) sa_nil))))))
    (sss_one (ss_ret (se_tup (sa_cons (se_callTy cg_tuple (by rfl) T.b_tuple (by decide +kernel) (sa_cons (se_var 8) sa_nil)) (sa_cons (se_var 12) sa_nil)))))))))))))
theorem sc_law_more : FnScope ["program", "row", "numbers", "pair", "way", "extra", "handed", "other", "same", "body", "at", "functions"] ["program", "row"] (defScope s_law_more) := ⟨rfl, rfl, rfl, by decide +kernel, rfl, by decide +kernel, by decide +kernel⟩
theorem t_law_more (T : Txt K w mg cl) : DefG P w K mg base cl 1 "_law_more" ["program", "row"] [] m_law_more :=
  DefG.of (k := 0) T.d_law_more (N := ["program", "row", "numbers", "pair", "way", "extra", "handed", "other", "same", "body", "at", "functions"]) sc_law_more (fun f cdv A outer s H E hr => have nd : List.Nodup (["program", "row", "numbers", "pair", "way", "extra", "handed", "other", "same", "body", "at", "functions"] : List Str) := sc_law_more.nd; (sss_cons (ss_setLc (i := 2) rfl nd rfl rfl (sw_true rfl rfl rfl (by decide +kernel)) (si_range1 (by rfl) T.b_range (sa_cons se_int sa_nil)) (blkOk_by (own := [("at", 10)]) (N := ["program", "row", "numbers", "pair", "way", "extra", "handed", "other", "same", "body", "at", "functions"]) (sc := defScope s_law_more) (by decide +kernel)) rfl (by decide) (fun _ _ _ _ _ => pg_name (i := 10) nd rfl (by first | exact Or.inl rfl | exact Or.inr rfl)) (fun _ _ _ _ _ => sts_nil) (fun _ _ _ _ _ => (se_tup (sa_cons se_str (sa_cons (se_op og_mod (se_callTy cg_int (by rfl) T.b_int (by decide +kernel) (sa_cons (se_ix (ha' := fun _ _ => rfl) (se_var 1) (se_var 10)) sa_nil)) (se_op og_add se_int (se_var 10))) sa_nil)))))
    (sss_cons (ss_set (i := 3) nd rfl (by first | exact Or.inl rfl | exact Or.inr rfl) (se_tup (sa_cons se_str (sa_cons (se_ix (ha' := fun _ _ => rfl) (se_var 2) se_int) (sa_cons (se_ix (ha' := fun _ _ => rfl) (se_var 2) se_int) sa_nil)))))
    (sss_cons (ss_set (i := 4) nd rfl (by first | exact Or.inl rfl | exact Or.inr rfl) (se_op og_mod (se_callTy cg_int (by rfl) T.b_int (by decide +kernel) (sa_cons (se_ix (ha' := fun _ _ => rfl) (se_var 1) se_int) sa_nil)) se_int))
    (sss_cons (ss_if (st_cmp (og_eq hr.units) (se_var 4) se_int (nomark _)) (sss_cons (ss_set (i := 5) nd rfl (by first | exact Or.inl rfl | exact Or.inr rfl) (se_tup (sa_cons se_str (sa_cons (se_tup sa_nil) (sa_cons (se_tup (sa_cons se_str (sa_cons (se_op og_mod (se_callTy cg_int (by rfl) T.b_int (by decide +kernel) (sa_cons (se_ix (ha' := fun _ _ => rfl) (se_var 1) se_int) sa_nil)) se_int) sa_nil))) sa_nil)))))
    (sss_one (ss_set (i := 6) nd rfl (by first | exact Or.inl rfl | exact Or.inr rfl) (se_tup sa_nil)))) (sss_one (ss_if (st_cmp (og_eq hr.units) (se_var 4) se_int (nomark _)) (sss_cons (ss_set (i := 7) nd rfl (by first | exact Or.inl rfl | exact Or.inr rfl) (se_tup (sa_cons se_str (sa_cons (se_tup (sa_cons se_str (sa_cons (se_op og_mod (se_callTy cg_int (by rfl) T.b_int (by decide +kernel) (sa_cons (se_op og_add (se_ix (ha' := fun _ _ => rfl) (se_var 1) se_int) (se_op og_mod (se_ix (ha' := fun _ _ => rfl) (se_var 1) se_int) se_int)) sa_nil)) se_int) sa_nil))) (sa_cons (se_tup (sa_cons se_str (sa_cons (se_op og_mod (se_callTy cg_int (by rfl) T.b_int (by decide +kernel) (sa_cons (se_op og_add (se_ix (ha' := fun _ _ => rfl) (se_var 1) se_int) (se_op og_mod (se_op og_div (se_ix (ha' := fun _ _ => rfl) (se_var 1) se_int) se_int) se_int)) sa_nil)) se_int) sa_nil))) sa_nil)))))
    (sss_cons (ss_set (i := 8) nd rfl (by first | exact Or.inl rfl | exact Or.inr rfl) (se_tup (sa_cons se_str (sa_cons (se_tup (sa_cons se_str (sa_cons (se_tup (sa_cons se_str (sa_cons se_str sa_nil))) (sa_cons (se_tup (sa_cons se_str (sa_cons se_int sa_nil))) sa_nil)))) (sa_cons (se_tup (sa_cons se_str (sa_cons (se_var 7) (sa_cons (se_tup (sa_cons se_str (sa_cons se_int sa_nil))) sa_nil)))) sa_nil)))))
    (sss_cons (ss_set (i := 5) nd rfl (by first | exact Or.inl rfl | exact Or.inr rfl) (se_tup (sa_cons se_str (sa_cons (se_tup (sa_cons (se_tup (sa_cons se_str (sa_cons (se_tup (sa_cons se_int (sa_cons se_int sa_nil))) sa_nil))) sa_nil)) (sa_cons (se_tup (sa_cons se_str (sa_cons (se_tup (sa_cons se_str (sa_cons (se_tup (sa_cons se_str (sa_cons se_str sa_nil))) sa_nil))) (sa_cons (se_var 8) sa_nil)))) sa_nil)))))
    (sss_one (ss_set (i := 6) nd rfl (by first | exact Or.inl rfl | exact Or.inr rfl) (se_tup (sa_cons (se_var 3) sa_nil))))))) (sss_one (ss_if (st_cmp (og_eq hr.units) (se_var 4) se_int (nomark _)) (sss_cons (ss_set (i := 9) nd rfl (by first | exact Or.inl rfl | exact Or.inr rfl) (se_tup (sa_cons se_str (sa_cons (se_tup (sa_cons se_str (sa_cons se_str sa_nil))) (sa_cons (se_tup (sa_cons se_str (sa_cons se_str sa_nil))) (sa_cons (se_tup (sa_cons se_str (sa_cons (se_tup (sa_cons se_str (sa_cons se_str sa_nil))) sa_nil))) sa_nil))))))
    (sss_cons (ss_set (i := 5) nd rfl (by first | exact Or.inl rfl | exact Or.inr rfl) (se_tup (sa_cons se_str (sa_cons (se_tup (sa_cons (se_tup (sa_cons se_str (sa_cons se_int sa_nil))) (sa_cons (se_tup (sa_cons se_str (sa_cons se_int sa_nil))) (sa_cons (se_tup (sa_cons se_str (sa_cons (se_tup (sa_cons se_int (sa_cons se_int sa_nil))) sa_nil))) sa_nil)))) (sa_cons (se_var 9) sa_nil)))))
    (sss_one (ss_set (i := 6) nd rfl (by first | exact Or.inl rfl | exact Or.inr rfl) (se_tup (sa_cons (se_ix (ha' := fun _ _ => rfl) (se_var 2) se_int) (sa_cons (se_ix (ha' := fun _ _ => rfl) (se_var 2) se_int) (sa_cons (se_var 3) sa_nil)))))))) (sss_cons (ss_set (i := 9) nd rfl (by first | exact Or.inl rfl | exact Or.inr rfl) (se_tup (sa_cons se_str (sa_cons se_str (sa_cons (se_tup (sa_cons se_str (sa_cons (se_tup (sa_cons se_str (sa_cons se_str sa_nil))) (sa_cons (se_tup (sa_cons se_str (sa_cons se_str sa_nil))) sa_nil)))) (sa_cons (se_tup (sa_cons se_str (sa_cons (se_tup (sa_cons se_str (sa_cons se_str sa_nil))) (sa_cons (se_tup (sa_cons se_str (sa_cons se_str sa_nil))) sa_nil)))) sa_nil))))))
    (sss_cons (ss_set (i := 5) nd rfl (by first | exact Or.inl rfl | exact Or.inr rfl) (se_tup (sa_cons se_str (sa_cons (se_tup (sa_cons (se_tup (sa_cons se_str (sa_cons se_int sa_nil))) (sa_cons (se_tup (sa_cons se_str (sa_cons se_int sa_nil))) sa_nil))) (sa_cons (se_var 9) sa_nil)))))
    (sss_one (ss_set (i := 6) nd rfl (by first | exact Or.inl rfl | exact Or.inr rfl) (se_tup (sa_cons (se_ix (ha' := fun _ _ => rfl) (se_var 2) se_int) (sa_cons (se_ix (ha' := fun _ _ => rfl) (se_var 2) se_int) sa_nil))))))))))))
    (sss_cons (ss_set (i := 10) nd rfl (by first | exact Or.inl rfl | exact Or.inr rfl) (se_op og_mod (se_callTy cg_int (by rfl) T.b_int (by decide +kernel) (sa_cons (se_ix (ha' := fun _ _ => rfl) (se_var 1) se_int) sa_nil)) (se_op og_add (se_callB cg_len (by rfl) T.b_len (by decide +kernel) (sa_cons (se_ix (ha' := fun _ _ => rfl) (se_var 0) se_int) sa_nil)) se_int)))
    (sss_cons (ss_set (i := 11) nd rfl (by first | exact Or.inl rfl | exact Or.inr rfl) (se_op og_add (se_op og_add (se_callTy cg_list (by rfl) T.b_list (by decide +kernel) (sa_cons (se_sl (se_ix (ha' := fun _ _ => rfl) (se_var 0) se_int) sp_none (sp_some (se_var 10))) sa_nil)) (se_lst (sa_cons (se_var 5) sa_nil))) (se_callTy cg_list (by rfl) T.b_list (by decide +kernel) (sa_cons (se_sl (se_ix (ha' := fun _ _ => rfl) (se_var 0) se_int) (sp_some (se_var 10)) sp_none) sa_nil))))
    (sss_one (ss_ret (se_tup (sa_cons (se_callTy cg_tuple (by rfl) T.b_tuple (by decide +kernel) (sa_cons (se_var 11) sa_nil)) (sa_cons (se_tup (sa_cons se_str (sa_cons (se_tup (sa_cons se_str (sa_cons se_str (sa_cons (se_var 6) sa_nil)))) (sa_cons (se_ix (ha' := fun _ _ => rfl) (se_var 0) se_int) sa_nil)))) sa_nil))))))))))))
theorem sc_law_nest : FnScope ["e", "parts", "part"] ["e"] (defScope s_law_nest) := ⟨rfl, rfl, rfl, by decide +kernel, rfl, by decide +kernel, by decide +kernel⟩
theorem ts_law_nest (T : Txt K w mg cl) : ∀ n : Nat, DefG P w K mg base cl (0 + n + 1) "_law_nest" ["e"] [] (m_law_nest n)
  | 0 => DefG.none (k := 0) T.d_law_nest sc_law_nest
  | n + 1 => have ih := ts_law_nest T n; (DefG.of (k := 0 + n + 1) T.d_law_nest (N := ["e", "parts", "part"]) sc_law_nest (fun f cdv A outer s H E hr => have nd : List.Nodup (["e", "parts", "part"] : List Str) := sc_law_nest.nd; (sss_cons (ss_setLc (i := 1) rfl nd rfl rfl (sw_true rfl rfl rfl (by decide +kernel)) (si_of (se_sl (se_var 0) (sp_some se_int) sp_none)) (blkOk_by (own := [("part", 2)]) (N := ["e", "parts", "part"]) (sc := defScope s_law_nest) (by decide +kernel)) rfl (by decide) (fun _ _ _ _ _ => pg_name (i := 2) nd rfl (by first | exact Or.inl rfl | exact Or.inr rfl)) (fun _ _ _ _ _ => sts_one (st_truth (se_callB cg_isi (by rfl) T.b_isinstance (by decide +kernel) (sa_cons (se_var 2) (sa_cons (se_bltn (by rfl) T.b_tuple (by decide +kernel)) sa_nil))))) (fun _ _ _ _ _ => (se_var 2)))
    (sss_cons (ss_if (st_cmp (og_eq hr.units) (se_ix (ha' := fun _ _ => rfl) (se_var 0) se_int) se_str (nomark _)) (sss_one (ss_set (i := 1) nd rfl (by first | exact Or.inl rfl | exact Or.inr rfl) (se_callTy cg_list (by rfl) T.b_list (by decide +kernel) (sa_cons (se_ix (ha' := fun _ _ => rfl) (se_var 0) se_int) sa_nil)))) sss_nil)
    (sss_one (ss_ret (se_callB (cg_max rfl hr.units) (by rfl) T.b_max (by decide +kernel) (sa_cons (se_op og_add (se_lst (sa_cons se_int sa_nil)) (se_lc rfl nd (si_of (se_var 1)) (blkOk_by (own := [("part", 2)]) (N := ["e", "parts", "part"]) (sc := defScope s_law_nest) (by decide +kernel)) rfl (by decide) (fun _ _ _ _ _ => pg_name (i := 2) nd rfl (by first | exact Or.inl rfl | exact Or.inr rfl)) (fun _ _ _ _ _ => sts_nil) (fun _ _ _ _ _ => (se_op og_add se_int (se_callD ih (hr.mono (by omega)) (by rfl) takes0 (sa_cons (se_var 2) sa_nil)))))) sa_nil))))))))
theorem t_law_nest (T : Txt K w mg cl) : DefG P w K mg base cl (61) "_law_nest" ["e"] [] (m_law_nest 60) := (ts_law_nest T 60)
theorem sc_law_caught : FnScope ["program", "layers", "row", "tries", "layer", "main", "fails", "ends", "inner", "body", "turn", "more", "again"] ["program", "layers", "row"] (defScope s_law_caught) := ⟨rfl, rfl, rfl, by decide +kernel, rfl, by decide +kernel, by decide +kernel⟩
theorem t_law_caught (T : Txt K w mg cl) : DefG P w K mg base cl 62 "_law_caught" ["program", "layers", "row"] [] m_law_caught :=
  DefG.of (k := 61) T.d_law_caught (N := ["program", "layers", "row", "tries", "layer", "main", "fails", "ends", "inner", "body", "turn", "more", "again"]) sc_law_caught (fun f cdv A outer s H E hr => have nd : List.Nodup (["program", "layers", "row", "tries", "layer", "main", "fails", "ends", "inner", "body", "turn", "more", "again"] : List Str) := sc_law_caught.nd; (sss_cons (ss_set (i := 3) nd rfl (by first | exact Or.inl rfl | exact Or.inr rfl) (se_lst sa_nil))
    (sss_cons (ss_for po_cx rfl (si_of (se_var 1)) (sg_name (i := 4) nd rfl (by first | exact Or.inl rfl | exact Or.inr rfl)) (sss_cons (ss_if (st_cmp (og_eq hr.units) (se_ix (ha' := fun _ _ => rfl) (se_var 4) se_int) se_str (nomark _)) (sss_one (ss_set (i := 3) nd rfl (by first | exact Or.inl rfl | exact Or.inr rfl) (se_lst sa_nil))) sss_nil)
    (sss_one (ss_if (st_cmp (og_eq hr.units) (se_ix (ha' := fun _ _ => rfl) (se_var 4) se_int) se_str (nomark _)) (sss_one (ss_expr (se_bm PySem.F.plainAttrs_list PySem.F.slot_list_append PySem.F.type_list_append mg_append (se_var 3) (sa_cons (se_var 4) sa_nil)))) sss_nil))))
    (sss_cons (ss_set (i := 5) nd rfl (by first | exact Or.inl rfl | exact Or.inr rfl) (se_ix (ha' := fun _ _ => rfl) (se_var 0) se_int))
    (sss_cons (ss_if (st_w (sw_or (st_cmp (og_eq hr.units) (se_var 3) (se_lst sa_nil) (nomark _)) (sw_or (st_cmp (og_eq hr.units) (se_op og_mod (se_ix (ha' := fun _ _ => rfl) (se_var 2) se_int) se_int) se_int (nomark _)) (sw_or1 (st_cmp og_gt (se_callD (t_law_nest T) (hr.mono (by decide)) (by rfl) tk_cx (sa_cons (se_var 5) sa_nil)) se_int (nomark _)))))) (sss_one (ss_ret (se_callD (t_law_more T) (hr.mono (by decide)) (by rfl) tk_cx (sa_cons (se_var 0) (sa_cons (se_var 2) sa_nil))))) sss_nil)
    (sss_cons (ss_set (i := 4) nd rfl (by first | exact Or.inl rfl | exact Or.inr rfl) (se_ix (ha' := fun _ _ => rfl) (se_var 3) (se_op og_mod (se_callTy cg_int (by rfl) T.b_int (by decide +kernel) (sa_cons (se_ix (ha' := fun _ _ => rfl) (se_var 2) se_int) sa_nil)) (se_callB cg_len (by rfl) T.b_len (by decide +kernel) (sa_cons (se_var 3) sa_nil)))))
    (sss_cons (ss_set (i := 6) nd rfl (by first | exact Or.inl rfl | exact Or.inr rfl) (se_tup (sa_cons se_str (sa_cons (se_tup sa_nil) (sa_cons (se_tup (sa_cons se_str (sa_cons se_str (sa_cons (se_tup (sa_cons se_str (sa_cons se_int sa_nil))) (sa_cons (se_tup (sa_cons se_str (sa_cons (se_ix (ha' := fun _ _ => rfl) (se_var 4) se_int) (sa_cons (se_op og_mod (se_callTy cg_int (by rfl) T.b_int (by decide +kernel) (sa_cons (se_ix (ha' := fun _ _ => rfl) (se_var 2) se_int) sa_nil)) (se_ix (ha' := fun _ _ => rfl) (se_var 4) se_int)) sa_nil)))) sa_nil))))) sa_nil)))))
    (sss_cons (ss_set (i := 7) nd rfl (by first | exact Or.inl rfl | exact Or.inr rfl) (se_tup (sa_cons se_str (sa_cons se_str (sa_cons (se_tup sa_nil) sa_nil)))))
    (sss_cons (ss_set (i := 8) nd rfl (by first | exact Or.inl rfl | exact Or.inr rfl) (se_tup (sa_cons se_str (sa_cons se_int (sa_cons se_str (sa_cons (se_tup (sa_cons se_str (sa_cons se_int sa_nil))) (sa_cons (se_tup (sa_cons se_str (sa_cons se_str (sa_cons (se_var 5) (sa_cons (se_var 7) sa_nil))))) sa_nil)))))))
    (sss_cons (ss_set (i := 9) nd rfl (by first | exact Or.inl rfl | exact Or.inr rfl) (se_tup (sa_cons se_str (sa_cons (se_tup (sa_cons se_str (sa_cons se_int sa_nil))) (sa_cons (se_tup (sa_cons se_str (sa_cons se_str (sa_cons (se_var 8) (sa_cons (se_var 7) sa_nil))))) sa_nil)))))
    (sss_cons (ss_set (i := 10) nd rfl (by first | exact Or.inl rfl | exact Or.inr rfl) (se_tup (sa_cons se_str (sa_cons (se_tup (sa_cons se_str (sa_cons se_str sa_nil))) (sa_cons (se_tup (sa_cons se_str (sa_cons (se_ix (ha' := fun _ _ => rfl) (se_var 4) se_int) (sa_cons (se_op og_mod (se_callTy cg_int (by rfl) T.b_int (by decide +kernel) (sa_cons (se_ix (ha' := fun _ _ => rfl) (se_var 2) se_int) sa_nil)) (se_ix (ha' := fun _ _ => rfl) (se_var 4) se_int)) (sa_cons (se_var 9) (sa_cons (se_var 5) sa_nil)))))) sa_nil)))))
    (sss_cons (ss_set (i := 11) nd rfl (by first | exact Or.inl rfl | exact Or.inr rfl) (se_tup (sa_cons se_str (sa_cons (se_tup (sa_cons se_str (sa_cons se_str sa_nil))) (sa_cons (se_tup (sa_cons se_str (sa_cons se_int sa_nil))) (sa_cons (se_tup (sa_cons se_str (sa_cons se_int sa_nil))) sa_nil))))))
    (sss_cons (ss_set (i := 10) nd rfl (by first | exact Or.inl rfl | exact Or.inr rfl) (se_tup (sa_cons se_str (sa_cons se_str (sa_cons (se_var 10) (sa_cons (se_tup (sa_cons se_str (sa_cons (se_tup (sa_cons se_str (sa_cons (se_tup (sa_cons se_str (sa_cons se_str sa_nil))) sa_nil))) (sa_cons (se_var 11) sa_nil)))) sa_nil))))))
    (sss_cons (ss_set (i := 12) nd rfl (by first | exact Or.inl rfl | exact Or.inr rfl) (se_tup (sa_cons se_str (sa_cons (se_tup sa_nil) (sa_cons (se_tup (sa_cons se_str (sa_cons se_int (sa_cons se_str (sa_cons (se_tup (sa_cons se_str (sa_cons se_int sa_nil))) (sa_cons (se_var 10) sa_nil)))))) sa_nil)))))
    (sss_one (ss_ret (se_tup (sa_cons (se_op og_add (se_ix (ha' := fun _ _ => rfl) (se_var 0) se_int) (se_tup (sa_cons (se_var 6) (sa_cons (se_var 12) sa_nil)))) (sa_cons (se_tup (sa_cons se_str (sa_cons (se_tup (sa_cons se_str (sa_cons se_str (sa_cons (se_tup sa_nil) sa_nil)))) (sa_cons (se_var 5) sa_nil)))) sa_nil)))))))))))))))))))
theorem sc_law_number_of : FnScope ["layers", "name", "at"] ["layers", "name"] (defScope s_law_number_of) := ⟨rfl, rfl, rfl, by decide +kernel, rfl, by decide +kernel, by decide +kernel⟩
theorem t_law_number_of (T : Txt K w mg cl) : DefG P w K mg base cl 1 "_law_number_of" ["layers", "name"] [] m_law_number_of :=
  DefG.of (k := 0) T.d_law_number_of (N := ["layers", "name", "at"]) sc_law_number_of (fun f cdv A outer s H E hr => have nd : List.Nodup (["layers", "name", "at"] : List Str) := sc_law_number_of.nd; (sss_cons (ss_for po_cx rfl (si_range1 (by rfl) T.b_range (sa_cons (se_callB cg_len (by rfl) T.b_len (by decide +kernel) (sa_cons (se_var 0) sa_nil)) sa_nil)) (sg_name (i := 2) nd rfl (by first | exact Or.inl rfl | exact Or.inr rfl)) (sss_one (ss_if (st_cmp (og_eq hr.units) (se_ix (ha' := fun _ _ => rfl) (se_ix (ha' := fun _ _ => rfl) (se_var 0) (se_var 2)) se_int) (se_var 1) (nomark _)) (sss_one (ss_ret (se_op og_add (se_var 2) se_int))) sss_nil)))
    (sss_one (ss_ret se_int))))
theorem sc_law_behind : FnScope ["scope", "name", "back"] ["scope", "name"] (defScope s_law_behind) := ⟨rfl, rfl, rfl, by decide +kernel, rfl, by decide +kernel, by decide +kernel⟩
theorem t_law_behind (T : Txt K w mg cl) : DefG P w K mg base cl 1 "_law_behind" ["scope", "name"] [] m_law_behind :=
  DefG.of (k := 0) T.d_law_behind (N := ["scope", "name", "back"]) sc_law_behind (fun f cdv A outer s H E hr => have nd : List.Nodup (["scope", "name", "back"] : List Str) := sc_law_behind.nd; (sss_cons (ss_for po_cx rfl (si_range1 (by rfl) T.b_range (sa_cons (se_callB cg_len (by rfl) T.b_len (by decide +kernel) (sa_cons (se_var 0) sa_nil)) sa_nil)) (sg_name (i := 2) nd rfl (by first | exact Or.inl rfl | exact Or.inr rfl)) (sss_one (ss_if (st_cmp (og_eq hr.units) (se_ix (ha' := fun _ _ => rfl) (se_var 0) (se_op og_sub (se_op og_sub (se_callB cg_len (by rfl) T.b_len (by decide +kernel) (sa_cons (se_var 0) sa_nil)) se_int) (se_var 2))) (se_var 1) (nomark _)) (sss_one (ss_ret (se_var 2))) sss_nil)))
    (sss_one (ss_ret (se_neg se_int)))))
theorem sc_law_flow : FnScope ["e", "at", "scope", "starts", "layers", "first", "rest", "test", "yes", "place", "no", "body", "other"] ["e", "at", "scope", "starts", "layers"] (defScope s_law_flow) := ⟨rfl, rfl, rfl, by decide +kernel, rfl, by decide +kernel, by decide +kernel⟩
theorem sc_law_code : FnScope ["e", "at", "scope", "starts", "layers", "word", "parts", "code", "part"] ["e", "at", "scope", "starts", "layers"] (defScope s_law_code) := ⟨rfl, rfl, rfl, by decide +kernel, rfl, by decide +kernel, by decide +kernel⟩
theorem ts_law_flow (T : Txt K w mg cl) : ∀ n : Nat, DefG P w K mg base cl (1 + n + 1) "_law_flow" ["e", "at", "scope", "starts", "layers"] [] (m_law_flow n) ∧ DefG P w K mg base cl (1 + n + 1) "_law_code" ["e", "at", "scope", "starts", "layers"] [] (m_law_code n)
  | 0 => ⟨DefG.none (k := 1) T.d_law_flow sc_law_flow, DefG.none (k := 1) T.d_law_code sc_law_code⟩
  | n + 1 => have ih := ts_law_flow T n; ⟨(DefG.of (k := 1 + n + 1) T.d_law_flow (N := ["e", "at", "scope", "starts", "layers", "first", "rest", "test", "yes", "place", "no", "body", "other"]) sc_law_flow (fun f cdv A outer s H E hr => have nd : List.Nodup (["e", "at", "scope", "starts", "layers", "first", "rest", "test", "yes", "place", "no", "body", "other"] : List Str) := sc_law_flow.nd; (sss_cons (ss_if (st_cmp (og_eq hr.units) (se_ix (ha' := fun _ _ => rfl) (se_var 0) se_int) se_str (nomark _)) (sss_cons (ss_set (i := 5) nd rfl (by first | exact Or.inl rfl | exact Or.inr rfl) (se_callD ih.2 (hr.mono (by omega)) (by rfl) tk_cx (sa_cons (se_ix (ha' := fun _ _ => rfl) (se_var 0) se_int) (sa_cons (se_var 1) (sa_cons (se_var 2) (sa_cons (se_var 3) (sa_cons (se_var 4) sa_nil)))))))
    (sss_cons (ss_set (i := 6) nd rfl (by first | exact Or.inl rfl | exact Or.inr rfl) (se_callD ih.2 (hr.mono (by omega)) (by rfl) tk_cx (sa_cons (se_ix (ha' := fun _ _ => rfl) (se_var 0) se_int) (sa_cons (se_op og_add (se_op og_add (se_var 1) (se_callB cg_len (by rfl) T.b_len (by decide +kernel) (sa_cons (se_var 5) sa_nil))) se_int) (sa_cons (se_op og_add (se_var 2) (se_lst (sa_cons (se_ix (ha' := fun _ _ => rfl) (se_var 0) se_int) sa_nil))) (sa_cons (se_var 3) (sa_cons (se_var 4) sa_nil)))))))
    (sss_one (ss_ret (se_op og_add (se_op og_add (se_op og_add (se_var 5) (se_lst (sa_cons (se_tup (sa_cons se_str sa_nil)) sa_nil))) (se_var 6)) (se_lst (sa_cons (se_tup (sa_cons se_str sa_nil)) sa_nil))))))) sss_nil)
    (sss_cons (ss_if (st_cmp (og_eq hr.units) (se_ix (ha' := fun _ _ => rfl) (se_var 0) se_int) se_str (nomark _)) (sss_cons (ss_set (i := 7) nd rfl (by first | exact Or.inl rfl | exact Or.inr rfl) (se_callD ih.2 (hr.mono (by omega)) (by rfl) tk_cx (sa_cons (se_ix (ha' := fun _ _ => rfl) (se_var 0) se_int) (sa_cons (se_var 1) (sa_cons (se_var 2) (sa_cons (se_var 3) (sa_cons (se_var 4) sa_nil)))))))
    (sss_cons (ss_set (i := 8) nd rfl (by first | exact Or.inl rfl | exact Or.inr rfl) (se_callD ih.2 (hr.mono (by omega)) (by rfl) tk_cx (sa_cons (se_ix (ha' := fun _ _ => rfl) (se_var 0) se_int) (sa_cons (se_op og_add (se_op og_add (se_var 1) (se_callB cg_len (by rfl) T.b_len (by decide +kernel) (sa_cons (se_var 7) sa_nil))) se_int) (sa_cons (se_var 2) (sa_cons (se_var 3) (sa_cons (se_var 4) sa_nil)))))))
    (sss_cons (ss_set (i := 9) nd rfl (by first | exact Or.inl rfl | exact Or.inr rfl) (se_op og_add (se_op og_add (se_op og_add (se_var 1) (se_callB cg_len (by rfl) T.b_len (by decide +kernel) (sa_cons (se_var 7) sa_nil))) (se_callB cg_len (by rfl) T.b_len (by decide +kernel) (sa_cons (se_var 8) sa_nil))) se_int))
    (sss_cons (ss_set (i := 10) nd rfl (by first | exact Or.inl rfl | exact Or.inr rfl) (se_callD ih.2 (hr.mono (by omega)) (by rfl) tk_cx (sa_cons (se_ix (ha' := fun _ _ => rfl) (se_var 0) se_int) (sa_cons (se_var 9) (sa_cons (se_var 2) (sa_cons (se_var 3) (sa_cons (se_var 4) sa_nil)))))))
    (sss_one (ss_ret (se_op og_add (se_op og_add (se_op og_add (se_op og_add (se_var 7) (se_lst (sa_cons (se_tup (sa_cons se_str (sa_cons (se_var 9) sa_nil))) sa_nil))) (se_var 8)) (se_lst (sa_cons (se_tup (sa_cons se_str (sa_cons (se_op og_add (se_var 9) (se_callB cg_len (by rfl) T.b_len (by decide +kernel) (sa_cons (se_var 10) sa_nil))) sa_nil))) sa_nil))) (se_var 10)))))))) sss_nil)
    (sss_cons (ss_if (st_cmp (og_eq hr.units) (se_ix (ha' := fun _ _ => rfl) (se_var 0) se_int) se_str (nomark _)) (sss_cons (ss_set (i := 5) nd rfl (by first | exact Or.inl rfl | exact Or.inr rfl) (se_callD ih.2 (hr.mono (by omega)) (by rfl) tk_cx (sa_cons (se_ix (ha' := fun _ _ => rfl) (se_var 0) se_int) (sa_cons (se_var 1) (sa_cons (se_var 2) (sa_cons (se_var 3) (sa_cons (se_var 4) sa_nil)))))))
    (sss_cons (ss_set (i := 9) nd rfl (by first | exact Or.inl rfl | exact Or.inr rfl) (se_op og_add (se_op og_add (se_var 1) (se_callB cg_len (by rfl) T.b_len (by decide +kernel) (sa_cons (se_var 5) sa_nil))) se_int))
    (sss_cons (ss_set (i := 6) nd rfl (by first | exact Or.inl rfl | exact Or.inr rfl) (se_callD ih.2 (hr.mono (by omega)) (by rfl) tk_cx (sa_cons (se_ix (ha' := fun _ _ => rfl) (se_var 0) se_int) (sa_cons (se_op og_add (se_var 9) se_int) (sa_cons (se_op og_add (se_var 2) (se_lst (sa_cons (se_ix (ha' := fun _ _ => rfl) (se_var 0) se_int) sa_nil))) (sa_cons (se_var 3) (sa_cons (se_var 4) sa_nil)))))))
    (sss_one (ss_ret (se_op og_add (se_op og_add (se_op og_add (se_var 5) (se_lst (sa_cons (se_tup (sa_cons se_str (sa_cons (se_ix (ha' := fun _ _ => rfl) (se_var 0) se_int) sa_nil))) (sa_cons (se_tup (sa_cons se_str sa_nil)) sa_nil)))) (se_var 6)) (se_lst (sa_cons (se_tup (sa_cons se_str sa_nil)) (sa_cons (se_tup (sa_cons se_str (sa_cons (se_var 9) sa_nil))) sa_nil))))))))) sss_nil)
    (sss_cons (ss_set (i := 11) nd rfl (by first | exact Or.inl rfl | exact Or.inr rfl) (se_callD ih.2 (hr.mono (by omega)) (by rfl) tk_cx (sa_cons (se_ix (ha' := fun _ _ => rfl) (se_var 0) se_int) (sa_cons (se_op og_add (se_var 1) se_int) (sa_cons (se_var 2) (sa_cons (se_var 3) (sa_cons (se_var 4) sa_nil)))))))
    (sss_cons (ss_set (i := 9) nd rfl (by first | exact Or.inl rfl | exact Or.inr rfl) (se_op og_add (se_op og_add (se_var 1) (se_callB cg_len (by rfl) T.b_len (by decide +kernel) (sa_cons (se_var 11) sa_nil))) se_int))
    (sss_cons (ss_set (i := 12) nd rfl (by first | exact Or.inl rfl | exact Or.inr rfl) (se_callD ih.2 (hr.mono (by omega)) (by rfl) tk_cx (sa_cons (se_ix (ha' := fun _ _ => rfl) (se_var 0) se_int) (sa_cons (se_var 9) (sa_cons (se_var 2) (sa_cons (se_var 3) (sa_cons (se_var 4) sa_nil)))))))
    (sss_cons (ss_set (i := 5) nd rfl (by first | exact Or.inl rfl | exact Or.inr rfl) (se_lst (sa_cons (se_tup (sa_cons se_str (sa_cons (se_callD (t_law_number_of T) (hr.mono (by omega)) (by rfl) tk_cx (sa_cons (se_var 4) (sa_cons (se_ix (ha' := fun _ _ => rfl) (se_var 0) se_int) sa_nil))) (sa_cons (se_ix (ha' := fun _ _ => rfl) (se_var 0) se_int) (sa_cons (se_var 9) sa_nil))))) sa_nil)))
    (sss_one (ss_ret (se_op og_add (se_op og_add (se_op og_add (se_var 5) (se_var 11)) (se_lst (sa_cons (se_tup (sa_cons se_str (sa_cons (se_op og_add (se_var 9) (se_callB cg_len (by rfl) T.b_len (by decide +kernel) (sa_cons (se_var 12) sa_nil))) sa_nil))) sa_nil))) (se_var 12))))))))))))), (DefG.of (k := 1 + n + 1) T.d_law_code (N := ["e", "at", "scope", "starts", "layers", "word", "parts", "code", "part"]) sc_law_code (fun f cdv A outer s H E hr => have nd : List.Nodup (["e", "at", "scope", "starts", "layers", "word", "parts", "code", "part"] : List Str) := sc_law_code.nd; (sss_cons (ss_set (i := 5) nd rfl (by first | exact Or.inl rfl | exact Or.inr rfl) (se_ix (ha' := fun _ _ => rfl) (se_var 0) se_int))
    (sss_cons (ss_if (st_cmp og_in (se_var 5) (se_tup (sa_cons se_str (sa_cons se_str (sa_cons se_str (sa_cons se_str sa_nil))))) (by rfl)) (sss_one (ss_ret (se_callD ih.1 (hr.mono (by omega)) (by rfl) tk_cx (sa_cons (se_var 0) (sa_cons (se_var 1) (sa_cons (se_var 2) (sa_cons (se_var 3) (sa_cons (se_var 4) sa_nil)))))))) sss_nil)
    (sss_cons (ss_if (st_cmp (og_eq hr.units) (se_var 5) se_str (nomark _)) (sss_one (ss_ret (se_lst (sa_cons (se_tup (sa_cons se_str (sa_cons (se_ix (ha' := fun _ _ => rfl) (se_var 0) se_int) sa_nil))) sa_nil)))) sss_nil)
    (sss_cons (ss_if (st_cmp (og_eq hr.units) (se_var 5) se_str (nomark _)) (sss_one (ss_ret (se_lst (sa_cons (se_tup (sa_cons se_str (sa_cons (se_callD (t_law_behind T) (hr.mono (by omega)) (by rfl) tk_cx (sa_cons (se_var 2) (sa_cons (se_ix (ha' := fun _ _ => rfl) (se_var 0) se_int) sa_nil))) sa_nil))) sa_nil)))) sss_nil)
    (sss_cons (ss_if (st_w (sw_or (st_cmp (og_eq hr.units) (se_var 5) se_str (nomark _)) (sw_or1 (st_cmp (og_eq hr.units) (se_var 5) se_str (nomark _))))) (sss_one (ss_ret (se_lst (sa_cons (se_var 0) sa_nil)))) sss_nil)
    (sss_cons (ss_if (st_cmp og_in (se_var 5) (se_tup (sa_cons se_str (sa_cons se_str (sa_cons se_str (sa_cons se_str sa_nil))))) (by rfl)) (sss_one (ss_ret (se_lst (sa_cons (se_op og_add (se_tup (sa_cons (se_var 5) (sa_cons (se_callD (t_law_number_of T) (hr.mono (by omega)) (by rfl) tk_cx (sa_cons (se_var 4) (sa_cons (se_ix (ha' := fun _ _ => rfl) (se_var 0) se_int) sa_nil))) sa_nil))) (se_sl (se_var 0) (sp_some se_int) sp_none)) sa_nil)))) sss_nil)
    (sss_cons (ss_setLc (i := 6) rfl nd rfl rfl (sw_true rfl rfl rfl (by decide +kernel)) (si_of (se_sl (se_var 0) (sp_some se_int) sp_none)) (blkOk_by (own := [("part", 8)]) (N := ["e", "at", "scope", "starts", "layers", "word", "parts", "code", "part"]) (sc := defScope s_law_code) (by decide +kernel)) rfl (by decide) (fun _ _ _ _ _ => pg_name (i := 8) nd rfl (by first | exact Or.inl rfl | exact Or.inr rfl)) (fun _ _ _ _ _ => sts_one (st_truth (se_callB cg_isi (by rfl) T.b_isinstance (by decide +kernel) (sa_cons (se_var 8) (sa_cons (se_bltn (by rfl) T.b_tuple (by decide +kernel)) sa_nil))))) (fun _ _ _ _ _ => (se_var 8)))
    (sss_cons (ss_if (st_cmp (og_eq hr.units) (se_var 5) se_str (nomark _)) (sss_one (ss_set (i := 6) nd rfl (by first | exact Or.inl rfl | exact Or.inr rfl) (se_callTy cg_list (by rfl) T.b_list (by decide +kernel) (sa_cons (se_ix (ha' := fun _ _ => rfl) (se_var 0) se_int) sa_nil)))) sss_nil)
    (sss_cons (ss_set (i := 7) nd rfl (by first | exact Or.inl rfl | exact Or.inr rfl) (se_lst sa_nil))
    (sss_cons (ss_for po_cx rfl (si_of (se_var 6)) (sg_name (i := 8) nd rfl (by first | exact Or.inl rfl | exact Or.inr rfl)) (sss_one (ss_set (i := 7) nd rfl (by first | exact Or.inl rfl | exact Or.inr rfl) (se_op og_add (se_var 7) (se_callD ih.2 (hr.mono (by omega)) (by rfl) tk_cx (sa_cons (se_var 8) (sa_cons (se_op og_add (se_var 1) (se_callB cg_len (by rfl) T.b_len (by decide +kernel) (sa_cons (se_var 7) sa_nil))) (sa_cons (se_var 2) (sa_cons (se_var 3) (sa_cons (se_var 4) sa_nil))))))))))
    (sss_cons (ss_if (st_cmp (og_eq hr.units) (se_var 5) se_str (nomark _)) (sss_one (ss_ret (se_op og_add (se_var 7) (se_lst (sa_cons (se_tup (sa_cons se_str (sa_cons (se_dget (u1 hr.units) (fun _ _ => rfl) (se_var 3) (se_ix (ha' := fun _ _ => rfl) (se_var 0) se_int)) (sa_cons (se_callB cg_len (by rfl) T.b_len (by decide +kernel) (sa_cons (se_var 6) sa_nil)) sa_nil)))) sa_nil))))) sss_nil)
    (sss_cons (ss_if (st_w (sw_or (st_cmp (og_eq hr.units) (se_var 5) se_str (nomark _)) (sw_or1 (st_cmp (og_eq hr.units) (se_var 5) se_str (nomark _))))) (sss_one (ss_ret (se_op og_add (se_var 7) (se_lst (sa_cons (se_tup (sa_cons (se_var 5) (sa_cons (se_callD (t_law_number_of T) (hr.mono (by omega)) (by rfl) tk_cx (sa_cons (se_var 4) (sa_cons (se_ix (ha' := fun _ _ => rfl) (se_var 0) se_int) sa_nil))) sa_nil))) sa_nil))))) sss_nil)
    (sss_cons (ss_if (st_cmp (og_eq hr.units) (se_var 5) se_str (nomark _)) (sss_one (ss_ret (se_op og_add (se_var 7) (se_lst (sa_cons (se_tup (sa_cons se_str (sa_cons (se_ix (ha' := fun _ _ => rfl) (se_var 0) se_int) sa_nil))) sa_nil))))) sss_nil)
    (sss_one (ss_ret (se_op og_add (se_var 7) (se_lst (sa_cons (se_tup (sa_cons (se_var 5) sa_nil)) sa_nil))))))))))))))))))))⟩
theorem t_law_flow (T : Txt K w mg cl) : DefG P w K mg base cl (62) "_law_flow" ["e", "at", "scope", "starts", "layers"] [] (m_law_flow 60) := (ts_law_flow T 60).1
theorem t_law_code (T : Txt K w mg cl) : DefG P w K mg base cl (62) "_law_code" ["e", "at", "scope", "starts", "layers"] [] (m_law_code 60) := (ts_law_flow T 60).2
theorem sc_law_whole : FnScope ["program", "layers", "starts", "code", "name", "params", "body", "scope", "inner", "param", "kind"] ["program", "layers"] (defScope s_law_whole) := ⟨rfl, rfl, rfl, by decide +kernel, rfl, by decide +kernel, by decide +kernel⟩
theorem t_law_whole (T : Txt K w mg cl) : DefG P w K mg base cl 63 "_law_whole" ["program", "layers"] [] m_law_whole :=
  DefG.of (k := 62) T.d_law_whole (N := ["program", "layers", "starts", "code", "name", "params", "body", "scope", "inner", "param", "kind"]) sc_law_whole (fun f cdv A outer s H E hr => have nd : List.Nodup (["program", "layers", "starts", "code", "name", "params", "body", "scope", "inner", "param", "kind"] : List Str) := sc_law_whole.nd; (sss_cons (ss_set (i := 2) nd rfl (by first | exact Or.inl rfl | exact Or.inr rfl) se_dnew)
    (sss_cons (ss_set (i := 3) nd rfl (by first | exact Or.inl rfl | exact Or.inr rfl) (se_lst (sa_cons (se_tup (sa_cons se_str (sa_cons se_int sa_nil))) sa_nil)))
    (sss_cons (ss_for po_cx rfl (si_of (se_ix (ha' := fun _ _ => rfl) (se_var 0) se_int)) (sg_tup rfl (sgs_cons (sg_name (i := 4) nd rfl (by first | exact Or.inl rfl | exact Or.inr rfl)) (sgs_cons (sg_name (i := 5) nd rfl (by first | exact Or.inl rfl | exact Or.inr rfl)) (sgs_cons (sg_name (i := 6) nd rfl (by first | exact Or.inl rfl | exact Or.inr rfl)) sgs_nil)))) (sss_cons (ss_dput (u1 hr.units) (se_var 2) (se_var 4) (se_callB cg_len (by rfl) T.b_len (by decide +kernel) (sa_cons (se_var 3) sa_nil)) (by rfl))
    (sss_cons (ss_setLc (i := 7) rfl nd rfl rfl (sw_true rfl rfl rfl (by decide +kernel)) (si_of (se_var 5)) (blkOk_by (own := [("param", 9), ("kind", 10)]) (N := ["program", "layers", "starts", "code", "name", "params", "body", "scope", "inner", "param", "kind"]) (sc := defScope s_law_whole) (by decide +kernel)) rfl (by decide) (fun _ _ _ _ _ => pg_tup rfl (pgs_cons (pg_name (i := 9) nd rfl (by first | exact Or.inl rfl | exact Or.inr rfl)) (pgs_cons (pg_name (i := 10) nd rfl (by first | exact Or.inl rfl | exact Or.inr rfl)) pgs_nil))) (fun _ _ _ _ _ => sts_nil) (fun _ _ _ _ _ => (se_var 9)))
    (sss_cons (ss_set (i := 8) nd rfl (by first | exact Or.inl rfl | exact Or.inr rfl) (se_callTy cg_dict (by rfl) T.b_dict (by decide +kernel) (sa_cons (se_var 2) sa_nil)))
    (sss_one (ss_set (i := 3) nd rfl (by first | exact Or.inl rfl | exact Or.inr rfl) (se_op og_add (se_op og_add (se_var 3) (se_callD (t_law_code T) (hr.mono (by decide)) (by rfl) tk_cx (sa_cons (se_var 6) (sa_cons (se_callB cg_len (by rfl) T.b_len (by decide +kernel) (sa_cons (se_var 3) sa_nil)) (sa_cons (se_var 7) (sa_cons (se_var 8) (sa_cons (se_var 1) sa_nil))))))) (se_lst (sa_cons (se_tup (sa_cons se_str (sa_cons (se_callB cg_len (by rfl) T.b_len (by decide +kernel) (sa_cons (se_var 5) sa_nil)) sa_nil))) sa_nil)))))))))
    (sss_cons (ss_asg (se_tup (sa_cons se_str (sa_cons (se_callB cg_len (by rfl) T.b_len (by decide +kernel) (sa_cons (se_var 3) sa_nil)) sa_nil))) (sg_sub (W' := W0) (se_var 3) se_int))
    (sss_one (ss_ret (se_op og_add (se_op og_add (se_var 3) (se_callD (t_law_code T) (hr.mono (by decide)) (by rfl) tk_cx (sa_cons (se_ix (ha' := fun _ _ => rfl) (se_var 0) se_int) (sa_cons (se_callB cg_len (by rfl) T.b_len (by decide +kernel) (sa_cons (se_var 3) sa_nil)) (sa_cons (se_lst sa_nil) (sa_cons (se_var 2) (sa_cons (se_var 1) sa_nil))))))) (se_lst (sa_cons (se_tup (sa_cons se_str sa_nil)) sa_nil))))))))))
theorem sc_law_is_code : FnScope ["code", "due", "at", "part"] ["code", "due"] (defScope s_law_is_code) := ⟨rfl, rfl, rfl, by decide +kernel, rfl, by decide +kernel, by decide +kernel⟩
theorem t_law_is_code (T : Txt K w mg cl) : DefG P w K mg base cl 2 "_law_is_code" ["code", "due"] [] m_law_is_code :=
  DefG.of (k := 1) T.d_law_is_code (N := ["code", "due", "at", "part"]) sc_law_is_code (fun f cdv A outer s H E hr => have nd : List.Nodup (["code", "due", "at", "part"] : List Str) := sc_law_is_code.nd; (sss_cons (ss_if (st_w (sw_or (st_not (st_truth (se_callB cg_isi (by rfl) T.b_isinstance (by decide +kernel) (sa_cons (se_var 0) (sa_cons (se_bltn (by rfl) T.b_tuple (by decide +kernel)) sa_nil))))) (sw_or1 (st_cmp (og_ne hr.units) (se_callB cg_len (by rfl) T.b_len (by decide +kernel) (sa_cons (se_var 0) sa_nil)) (se_callB cg_len (by rfl) T.b_len (by decide +kernel) (sa_cons (se_var 1) sa_nil)) (nomark _))))) (sss_one (ss_ret se_bl)) sss_nil)
    (sss_cons (ss_for po_cx rfl (si_range1 (by rfl) T.b_range (sa_cons (se_callB cg_len (by rfl) T.b_len (by decide +kernel) (sa_cons (se_var 1) sa_nil)) sa_nil)) (sg_name (i := 2) nd rfl (by first | exact Or.inl rfl | exact Or.inr rfl)) (sss_cons (ss_if (st_w (sw_or (st_not (st_truth (se_callB cg_isi (by rfl) T.b_isinstance (by decide +kernel) (sa_cons (se_ix (ha' := fun _ _ => rfl) (se_var 0) (se_var 2)) (sa_cons (se_bltn (by rfl) T.b_tuple (by decide +kernel)) sa_nil))))) (sw_or1 (st_cmp (og_ne hr.units) (se_ix (ha' := fun _ _ => rfl) (se_var 0) (se_var 2)) (se_ix (ha' := fun _ _ => rfl) (se_var 1) (se_var 2)) (nomark _))))) (sss_one (ss_ret se_bl)) sss_nil)
    (sss_one (ss_for po_cx rfl (si_of (se_sl (se_ix (ha' := fun _ _ => rfl) (se_var 0) (se_var 2)) (sp_some se_int) sp_none)) (sg_name (i := 3) nd rfl (by first | exact Or.inl rfl | exact Or.inr rfl)) (sss_one (ss_if (st_not (st_truth (se_callD (t_law_is_integer T) (hr.mono (by decide)) (by rfl) tk_cx (sa_cons (se_var 3) sa_nil)))) (sss_one (ss_ret se_bl)) sss_nil))))))
    (sss_one (ss_ret se_bl)))))
theorem sc_Book_init : FnScope ["self", "kernel", "layers", "names", "many", "at", "layer"] ["self", "kernel", "layers"] (defScope s_Book_init) := ⟨rfl, rfl, rfl, by decide +kernel, rfl, by decide +kernel, by decide +kernel⟩
theorem t_Book_init (T : Txt K w mg cl) : InitG P w K mg base cl 3 1 "Book" ["self", "kernel", "layers"] [] m_Book_init :=
  InitG.of (k := 2) T.i_Book (N := ["self", "kernel", "layers", "names", "many", "at", "layer"]) sc_Book_init (fun f cdv A outer s H E hr => have nd : List.Nodup (["self", "kernel", "layers", "names", "many", "at", "layer"] : List Str) := sc_Book_init.nd; (sss_cons (ss_if (st_w (sw_or (st_notInKD T.k_CHOICES (by rfl) (se_var 1)) (sw_or1 (st_cmp og_gt (se_callB cg_len (by rfl) T.b_len (by decide +kernel) (sa_cons (se_var 2) sa_nil)) (se_globD T.g_MOST_LAYERS (by rfl)) (nomark _))))) (sss_one ss_any) sss_nil)
    (sss_cons (ss_set (i := 3) nd rfl (by first | exact Or.inl rfl | exact Or.inr rfl) (se_lst sa_nil))
    (sss_cons (ss_set (i := 4) nd rfl (by first | exact Or.inl rfl | exact Or.inr rfl) se_int)
    (sss_cons (ss_for po_cx rfl (si_enum (by rfl) T.b_enumerate (se_var 2)) (sg_tup rfl (sgs_cons (sg_name (i := 5) nd rfl (by first | exact Or.inl rfl | exact Or.inr rfl)) (sgs_cons (sg_name (i := 6) nd rfl (by first | exact Or.inl rfl | exact Or.inr rfl)) sgs_nil))) (sss_cons (ss_if (st_w (sw_or (st_not (st_truth (se_callD (t_is_layer T) (hr.mono (by decide)) (by rfl) tk_cx (sa_cons (se_var 6) sa_nil)))) (sw_or1 (st_cmp og_in (se_ix (ha' := fun _ _ => rfl) (se_var 6) se_int) (se_var 3) (by rfl))))) (sss_one ss_any) sss_nil)
    (sss_cons (ss_expr (se_bm PySem.F.plainAttrs_list PySem.F.slot_list_append PySem.F.type_list_append mg_append (se_var 3) (sa_cons (se_ix (ha' := fun _ _ => rfl) (se_var 6) se_int) sa_nil)))
    (sss_one (ss_if (st_cmp og_in (se_ix (ha' := fun _ _ => rfl) (se_var 6) se_int) (se_globD T.g_VARIED (by rfl)) (by rfl)) (sss_one (ss_set (i := 4) nd rfl (by first | exact Or.inl rfl | exact Or.inr rfl) (se_op og_mul (se_var 4) (se_ix (ha' := fun _ _ => rfl) (se_var 6) se_int)))) sss_nil)))))
    (sss_cons (ss_if (st_cmp og_gt (se_var 4) (se_globD T.g_MOST_STARTS (by rfl)) (nomark _)) (sss_one ss_any) sss_nil)
    (sss_cons (ss_fld T.a_kernel (se_var 0) (se_var 1))
    (sss_cons (ss_fld T.a_layers (se_var 0) (se_callTy cg_tuple (by rfl) T.b_tuple (by decide +kernel) (sa_cons (se_var 2) sa_nil)))
    (sss_one (ss_fld T.a_size (se_var 0) (se_callB cg_len (by rfl) T.b_len (by decide +kernel) (sa_cons (se_var 2) sa_nil))))))))))))
theorem sc_law : FnScope ["script", "kernel", "layers", "program", "book", "due", "second", "twin", "other", "told", "layer"] ["script"] (defScope s_law) := ⟨rfl, rfl, rfl, by decide +kernel, rfl, by decide +kernel, by decide +kernel⟩
theorem bd_law (T : Txt K w mg cl) : BodyOk P w K mg base cl 63 ["script", "kernel", "layers", "program", "book", "due", "second", "twin", "other", "told", "layer"] "law" s_law b_law := fun f cdv A outer s H E hr => have nd : List.Nodup (["script", "kernel", "layers", "program", "book", "due", "second", "twin", "other", "told", "layer"] : List Str) := sc_law.nd; (sss_cons (ss_asg (se_callD (t_law_book T) (hr.mono (by decide)) (by rfl) tk_cx (sa_cons (se_callD (t_law_row T) (hr.mono (by decide)) (by rfl) tk_cx (sa_cons (se_var 0) (sa_cons se_int (sa_cons se_int sa_nil)))) (sa_cons (se_op og_add se_int (se_op og_mul se_int (se_op og_mod (se_callB cg_len (by rfl) T.b_len (by decide +kernel) (sa_cons (se_var 0) sa_nil)) se_int))) sa_nil))) (sg_tup rfl (sgs_cons (sg_name (i := 1) nd rfl (by first | exact Or.inl rfl | exact Or.inr rfl)) (sgs_cons (sg_name (i := 2) nd rfl (by first | exact Or.inl rfl | exact Or.inr rfl)) sgs_nil))))
    (sss_cons (ss_set (i := 3) nd rfl (by first | exact Or.inl rfl | exact Or.inr rfl) (se_callD (t_law_program T) (hr.mono (by decide)) (by rfl) tk_cx (sa_cons (se_var 0) (sa_cons se_int (sa_cons (se_var 1) (sa_cons (se_var 2) (sa_cons (se_op og_add se_int (se_op og_mod (se_ix (ha' := fun _ _ => rfl) (se_callD (t_law_row T) (hr.mono (by decide)) (by rfl) tk_cx (sa_cons (se_var 0) (sa_cons se_int (sa_cons se_int sa_nil)))) se_int) se_int)) (sa_cons se_int sa_nil))))))))
    (sss_cons (ss_set (i := 3) nd rfl (by first | exact Or.inl rfl | exact Or.inr rfl) (se_callD (t_law_caught T) (hr.mono (by decide)) (by rfl) tk_cx (sa_cons (se_var 3) (sa_cons (se_var 2) (sa_cons (se_callD (t_law_row T) (hr.mono (by decide)) (by rfl) tk_cx (sa_cons (se_var 0) (sa_cons se_int (sa_cons se_int sa_nil)))) sa_nil)))))
    (sss_cons (ss_set (i := 4) nd rfl (by first | exact Or.inl rfl | exact Or.inr rfl) (se_makeD (t_Book_init T) (hr.mono (by decide)) (by rfl) tk_cx (sa_cons (se_var 1) (sa_cons (se_var 2) sa_nil))))
    (sss_cons (ss_set (i := 5) nd rfl (by first | exact Or.inl rfl | exact Or.inr rfl) (se_callD (t_law_whole T) (hr.mono (by decide)) (by rfl) tk_cx (sa_cons (se_var 3) (sa_cons (se_var 2) sa_nil))))
    (sss_cons (ss_if (st_not (st_truth (se_callD (t_law_is_code T) (hr.mono (by decide)) (by rfl) tk_cx (sa_cons (se_callD (t_compiled T) (hr.mono (by decide)) (by rfl) tk_cx (sa_cons (se_var 4) (sa_cons (se_var 3) sa_nil))) (sa_cons (se_var 5) sa_nil))))) (sss_one (ss_ret se_bl)) sss_nil)
    (sss_cons (ss_set (i := 6) nd rfl (by first | exact Or.inl rfl | exact Or.inr rfl) (se_tup (sa_cons se_str (sa_cons se_str (sa_cons se_int sa_nil)))))
    (sss_cons (ss_set (i := 7) nd rfl (by first | exact Or.inl rfl | exact Or.inr rfl) (se_op og_add (se_lst (sa_cons (se_var 6) sa_nil)) (se_sl (se_lc rfl nd (si_of (se_var 2)) (blkOk_by (own := [("layer", 10)]) (N := ["script", "kernel", "layers", "program", "book", "due", "second", "twin", "other", "told", "layer"]) (sc := defScope s_law) (by decide +kernel)) rfl (by decide) (fun _ _ _ _ _ => pg_name (i := 10) nd rfl (by first | exact Or.inl rfl | exact Or.inr rfl)) (fun _ _ _ _ _ => sts_one (st_cmp (og_ne hr.units) (se_ix (ha' := fun _ _ => rfl) (se_var 10) se_int) se_str (nomark _))) (fun _ _ _ _ _ => (se_var 10))) sp_none (sp_some se_int))))
    (sss_cons (ss_set (i := 8) nd rfl (by first | exact Or.inl rfl | exact Or.inr rfl) (se_tup (sa_cons (se_tup sa_nil) (sa_cons (se_tup (sa_cons se_str (sa_cons (se_tup (sa_cons se_str (sa_cons se_str sa_nil))) (sa_cons (se_tup (sa_cons se_str (sa_cons se_str (sa_cons (se_tup (sa_cons se_str (sa_cons (se_op og_mod (se_callB cg_len (by rfl) T.b_len (by decide +kernel) (sa_cons (se_var 0) sa_nil)) se_int) sa_nil))) (sa_cons (se_tup (sa_cons se_str (sa_cons se_str sa_nil))) sa_nil))))) sa_nil)))) sa_nil))))
    (sss_cons (ss_set (i := 9) nd rfl (by first | exact Or.inl rfl | exact Or.inr rfl) (se_lst (sa_cons (se_tup (sa_cons se_str (sa_cons se_int sa_nil))) (sa_cons (se_tup (sa_cons se_str (sa_cons se_int sa_nil))) (sa_cons (se_tup (sa_cons se_str (sa_cons (se_op og_mod (se_callB cg_len (by rfl) T.b_len (by decide +kernel) (sa_cons (se_var 0) sa_nil)) se_int) sa_nil))) (sa_cons (se_tup (sa_cons se_str sa_nil)) (sa_cons (se_tup (sa_cons se_str (sa_cons se_int sa_nil))) (sa_cons (se_tup (sa_cons se_str sa_nil)) (sa_cons (se_tup (sa_cons se_str sa_nil)) (sa_cons (se_tup (sa_cons se_str sa_nil)) sa_nil))))))))))
    (sss_cons (ss_if (st_not (st_truth (se_callD (t_law_is_code T) (hr.mono (by decide)) (by rfl) tk_cx (sa_cons (se_callD (t_compiled T) (hr.mono (by decide)) (by rfl) tk_cx (sa_cons (se_makeD (t_Book_init T) (hr.mono (by decide)) (by rfl) tk_cx (sa_cons (se_var 1) (sa_cons (se_var 7) sa_nil))) (sa_cons (se_var 8) sa_nil))) (sa_cons (se_var 9) sa_nil))))) (sss_one (ss_ret se_bl)) sss_nil)
    (sss_one (ss_ret (se_callD (t_law_is_code T) (hr.mono (by decide)) (by rfl) tk_cx (sa_cons (se_callD (t_compiled T) (hr.mono (by decide)) (by rfl) tk_cx (sa_cons (se_var 4) (sa_cons (se_var 3) sa_nil))) (sa_cons (se_var 5) sa_nil))))))))))))))))
theorem fn_law (T : Txt K w mg cl) {fa : Addr} {fd : FuncData} (F : L2.Fun K "law" "law" s_law fa fd) : FnG P w K mg base cl 64 fa fd ["script"] m_law :=
  FnG.of (k := 63) F sc_law fun cdv A outer s H E hr => bd_law T fa cdv A outer s H E hr
end
theorem bi_Book_number_of : BindsAll "number_of" "Book.number_of" s_Book_number_of ["self", "name"] := fun _ _ _ _ _ _ us hl => match us, hl with | [_, _], _ => rfl
theorem bi_Assembler_hole : BindsAll "hole" "Assembler.hole" s_Assembler_hole ["self"] := fun _ _ _ _ _ _ us hl => match us, hl with | [_], _ => rfl
theorem bi_Assembler_write : BindsAll "write" "Assembler.write" s_Assembler_write ["self", "expression", "scope"] := fun _ _ _ _ _ _ us hl => match us, hl with | [_, _, _], _ => rfl
theorem bi_Assembler_write_flow : BindsAll "write_flow" "Assembler.write_flow" s_Assembler_write_flow ["self", "expression", "scope"] := fun _ _ _ _ _ _ us hl => match us, hl with | [_, _, _], _ => rfl
theorem bi_Assembler_write_value : BindsAll "write_value" "Assembler.write_value" s_Assembler_write_value ["self", "expression", "scope"] := fun _ _ _ _ _ _ us hl => match us, hl with | [_, _, _], _ => rfl
theorem bi_Assembler_init : BindsAll "__init__" "Assembler.__init__" s_Assembler_init ["self", "book"] := fun _ _ _ _ _ _ us hl => match us, hl with | [_, _], _ => rfl
theorem bi_compiled : BindsAll "compiled" "compiled" s_compiled ["book", "program"] := fun _ _ _ _ _ _ us hl => match us, hl with | [_, _], _ => rfl
theorem bi_is_name : BindsAll "is_name" "is_name" s_is_name ["token"] := fun _ _ _ _ _ _ us hl => match us, hl with | [_], _ => rfl
theorem bi_is_monoid : BindsAll "is_monoid" "is_monoid" s_is_monoid ["table"] := fun _ _ _ _ _ _ us hl => match us, hl with | [_], _ => rfl
theorem bi_is_layer : BindsAll "is_layer" "is_layer" s_is_layer ["layer"] := fun _ _ _ _ _ _ us hl => match us, hl with | [_], _ => rfl
theorem bi_law_row : BindsAll "_law_row" "_law_row" s_law_row ["script", "k", "count"] := fun _ _ _ _ _ _ us hl => match us, hl with | [_, _, _], _ => rfl
theorem bi_law_is_integer : BindsAll "_law_is_integer" "_law_is_integer" s_law_is_integer ["actual"] := fun _ _ _ _ _ _ us hl => match us, hl with | [_], _ => rfl
theorem bi_law_layer : BindsAll "_law_layer" "_law_layer" s_law_layer ["word", "name", "pick", "room"] := fun _ _ _ _ _ _ us hl => match us, hl with | [_, _, _, _], _ => rfl
theorem bi_law_book : BindsAll "_law_book" "_law_book" s_law_book ["row", "room"] := fun _ _ _ _ _ _ us hl => match us, hl with | [_, _], _ => rfl
theorem bi_law_leaves : BindsAll "_law_leaves" "_law_leaves" s_law_leaves ["kernel", "layers"] := fun _ _ _ _ _ _ us hl => match us, hl with | [_, _], _ => rfl
theorem bi_law_number : BindsAll "_law_number" "_law_number" s_law_number ["item", "below"] := fun _ _ _ _ _ _ us hl => match us, hl with | [_, _], _ => rfl
theorem bi_law_unary : BindsAll "_law_unary" "_law_unary" s_law_unary ["row", "a", "layers"] := fun _ _ _ _ _ _ us hl => match us, hl with | [_, _, _], _ => rfl
theorem bi_law_binary : BindsAll "_law_binary" "_law_binary" s_law_binary ["row", "a", "b"] := fun _ _ _ _ _ _ us hl => match us, hl with | [_, _, _], _ => rfl
theorem bi_law_both : BindsAll "_law_both" "_law_both" s_law_both ["a", "b"] := fun _ _ _ _ _ _ us hl => match us, hl with | [_, _], _ => rfl
theorem bi_law_round : BindsAll "_law_round" "_law_round" s_law_round ["row", "a", "b"] := fun _ _ _ _ _ _ us hl => match us, hl with | [_, _, _], _ => rfl
theorem bi_law_try : BindsAll "_law_try" "_law_try" s_law_try ["row", "a", "b", "layers"] := fun _ _ _ _ _ _ us hl => match us, hl with | [_, _, _, _], _ => rfl
theorem bi_law_if : BindsAll "_law_if" "_law_if" s_law_if ["a", "b", "c"] := fun _ _ _ _ _ _ us hl => match us, hl with | [_, _, _], _ => rfl
theorem bi_law_call : BindsAll "_law_call" "_law_call" s_law_call ["row", "a", "b", "functions"] := fun _ _ _ _ _ _ us hl => match us, hl with | [_, _, _, _], _ => rfl
theorem bi_law_grown : BindsAll "_law_grown" "_law_grown" s_law_grown ["row", "pile", "layers", "functions"] := fun _ _ _ _ _ _ us hl => match us, hl with | [_, _, _, _], _ => rfl
theorem bi_law_item : BindsAll "_law_item" "_law_item" s_law_item ["script", "k", "kernel", "layers", "functions", "count", "most"] := fun _ _ _ _ _ _ us hl => match us, hl with | [_, _, _, _, _, _, _], _ => rfl
theorem bi_law_program : BindsAll "_law_program" "_law_program" s_law_program ["script", "k", "kernel", "layers", "count", "most"] := fun _ _ _ _ _ _ us hl => match us, hl with | [_, _, _, _, _, _], _ => rfl
theorem bi_law_more : BindsAll "_law_more" "_law_more" s_law_more ["program", "row"] := fun _ _ _ _ _ _ us hl => match us, hl with | [_, _], _ => rfl
theorem bi_law_nest : BindsAll "_law_nest" "_law_nest" s_law_nest ["e"] := fun _ _ _ _ _ _ us hl => match us, hl with | [_], _ => rfl
theorem bi_law_caught : BindsAll "_law_caught" "_law_caught" s_law_caught ["program", "layers", "row"] := fun _ _ _ _ _ _ us hl => match us, hl with | [_, _, _], _ => rfl
theorem bi_law_number_of : BindsAll "_law_number_of" "_law_number_of" s_law_number_of ["layers", "name"] := fun _ _ _ _ _ _ us hl => match us, hl with | [_, _], _ => rfl
theorem bi_law_behind : BindsAll "_law_behind" "_law_behind" s_law_behind ["scope", "name"] := fun _ _ _ _ _ _ us hl => match us, hl with | [_, _], _ => rfl
theorem bi_law_flow : BindsAll "_law_flow" "_law_flow" s_law_flow ["e", "at", "scope", "starts", "layers"] := fun _ _ _ _ _ _ us hl => match us, hl with | [_, _, _, _, _], _ => rfl
theorem bi_law_code : BindsAll "_law_code" "_law_code" s_law_code ["e", "at", "scope", "starts", "layers"] := fun _ _ _ _ _ _ us hl => match us, hl with | [_, _, _, _, _], _ => rfl
theorem bi_law_whole : BindsAll "_law_whole" "_law_whole" s_law_whole ["program", "layers"] := fun _ _ _ _ _ _ us hl => match us, hl with | [_, _], _ => rfl
theorem bi_law_is_code : BindsAll "_law_is_code" "_law_is_code" s_law_is_code ["code", "due"] := fun _ _ _ _ _ _ us hl => match us, hl with | [_, _], _ => rfl
theorem bi_Book_init : BindsAll "__init__" "Book.__init__" s_Book_init ["self", "kernel", "layers"] := fun _ _ _ _ _ _ us hl => match us, hl with | [_, _, _], _ => rfl
theorem bi_law : BindsAll "law" "law" s_law ["script"] := fun _ _ _ _ _ _ us hl => match us, hl with | [_], _ => rfl
def clOf (C0 : Addr) (C1 : Addr) : Nat → Addr
  | 0 => C0
  | 1 => C1
  | _ => 0
theorem all_mk {l : PySem.W.OpenLaw} {w : World} {K : PySem.W.Frag} {h : Heap} {mg : Str → Option Value} {fa : Addr} {C0 C1 : Addr} (X : K.In h) (G : h.Ns mainGlobals mg) (hfa : mg "law" = some (.ref fa))
    {f0 : Addr} {oc0 kV0 dc0 pm0 cd0 ct0 : Value} {od0 an0 : Option Addr} {sl0 : Array (Option Value)}
    {f1 : Addr} {oc1 kV1 dc1 pm1 cd1 ct1 : Value} {od1 an1 : Option Addr} {sl1 : Array (Option Value)}
    {f2 : Addr} {oc2 kV2 dc2 pm2 cd2 ct2 : Value} {od2 an2 : Option Addr} {sl2 : Array (Option Value)}
    {f3 : Addr} {oc3 kV3 dc3 pm3 cd3 ct3 : Value} {od3 an3 : Option Addr} {sl3 : Array (Option Value)}
    {f4 : Addr} {oc4 kV4 dc4 pm4 cd4 ct4 : Value} {od4 an4 : Option Addr} {sl4 : Array (Option Value)}
    {f5 : Addr} {oc5 kV5 dc5 pm5 cd5 ct5 : Value} {od5 an5 : Option Addr} {sl5 : Array (Option Value)}
    {f6 : Addr} {oc6 kV6 dc6 pm6 cd6 ct6 : Value} {od6 an6 : Option Addr} {sl6 : Array (Option Value)}
    {f7 : Addr} {oc7 kV7 dc7 pm7 cd7 ct7 : Value} {od7 an7 : Option Addr} {sl7 : Array (Option Value)}
    {f8 : Addr} {oc8 kV8 dc8 pm8 cd8 ct8 : Value} {od8 an8 : Option Addr} {sl8 : Array (Option Value)}
    {f9 : Addr} {oc9 kV9 dc9 pm9 cd9 ct9 : Value} {od9 an9 : Option Addr} {sl9 : Array (Option Value)}
    {f10 : Addr} {oc10 kV10 dc10 pm10 cd10 ct10 : Value} {od10 an10 : Option Addr} {sl10 : Array (Option Value)}
    {f11 : Addr} {oc11 kV11 dc11 pm11 cd11 ct11 : Value} {od11 an11 : Option Addr} {sl11 : Array (Option Value)}
    {f12 : Addr} {oc12 kV12 dc12 pm12 cd12 ct12 : Value} {od12 an12 : Option Addr} {sl12 : Array (Option Value)}
    {f13 : Addr} {oc13 kV13 dc13 pm13 cd13 ct13 : Value} {od13 an13 : Option Addr} {sl13 : Array (Option Value)}
    {f14 : Addr} {oc14 kV14 dc14 pm14 cd14 ct14 : Value} {od14 an14 : Option Addr} {sl14 : Array (Option Value)}
    {f15 : Addr} {oc15 kV15 dc15 pm15 cd15 ct15 : Value} {od15 an15 : Option Addr} {sl15 : Array (Option Value)}
    {f16 : Addr} {oc16 kV16 dc16 pm16 cd16 ct16 : Value} {od16 an16 : Option Addr} {sl16 : Array (Option Value)}
    {f17 : Addr} {oc17 kV17 dc17 pm17 cd17 ct17 : Value} {od17 an17 : Option Addr} {sl17 : Array (Option Value)}
    {f18 : Addr} {oc18 kV18 dc18 pm18 cd18 ct18 : Value} {od18 an18 : Option Addr} {sl18 : Array (Option Value)}
    {f19 : Addr} {oc19 kV19 dc19 pm19 cd19 ct19 : Value} {od19 an19 : Option Addr} {sl19 : Array (Option Value)}
    {f20 : Addr} {oc20 kV20 dc20 pm20 cd20 ct20 : Value} {od20 an20 : Option Addr} {sl20 : Array (Option Value)}
    {f21 : Addr} {oc21 kV21 dc21 pm21 cd21 ct21 : Value} {od21 an21 : Option Addr} {sl21 : Array (Option Value)}
    {f22 : Addr} {oc22 kV22 dc22 pm22 cd22 ct22 : Value} {od22 an22 : Option Addr} {sl22 : Array (Option Value)}
    {f23 : Addr} {oc23 kV23 dc23 pm23 cd23 ct23 : Value} {od23 an23 : Option Addr} {sl23 : Array (Option Value)}
    {f24 : Addr} {oc24 kV24 dc24 pm24 cd24 ct24 : Value} {od24 an24 : Option Addr} {sl24 : Array (Option Value)}
    {f25 : Addr} {oc25 kV25 dc25 pm25 cd25 ct25 : Value} {od25 an25 : Option Addr} {sl25 : Array (Option Value)}
    {f26 : Addr} {oc26 kV26 dc26 pm26 cd26 ct26 : Value} {od26 an26 : Option Addr} {sl26 : Array (Option Value)}
    {f27 : Addr} {oc27 kV27 dc27 pm27 cd27 ct27 : Value} {od27 an27 : Option Addr} {sl27 : Array (Option Value)}
    {f28 : Addr} {oc28 kV28 dc28 pm28 cd28 ct28 : Value} {od28 an28 : Option Addr} {sl28 : Array (Option Value)}
    {f29 : Addr} {oc29 kV29 dc29 pm29 cd29 ct29 : Value} {od29 an29 : Option Addr} {sl29 : Array (Option Value)}
    {f30 : Addr} {oc30 kV30 dc30 pm30 cd30 ct30 : Value} {od30 an30 : Option Addr} {sl30 : Array (Option Value)}
    {f31 : Addr} {oc31 kV31 dc31 pm31 cd31 ct31 : Value} {od31 an31 : Option Addr} {sl31 : Array (Option Value)}
    {f32 : Addr} {oc32 kV32 dc32 pm32 cd32 ct32 : Value} {od32 an32 : Option Addr} {sl32 : Array (Option Value)}
    {f33 : Addr} {oc33 kV33 dc33 pm33 cd33 ct33 : Value} {od33 an33 : Option Addr} {sl33 : Array (Option Value)}
    {f34 : Addr} {oc34 kV34 dc34 pm34 cd34 ct34 : Value} {od34 an34 : Option Addr} {sl34 : Array (Option Value)}
    {f35 : Addr} {oc35 kV35 dc35 pm35 cd35 ct35 : Value} {od35 an35 : Option Addr} {sl35 : Array (Option Value)}
    {f36 : Addr} {oc36 kV36 dc36 pm36 cd36 ct36 : Value} {od36 an36 : Option Addr} {sl36 : Array (Option Value)}
    {p_FLOWING : Addr} {od_FLOWING : Option Addr} {its_FLOWING : Array Value} {n_FLOWING : Nat} {sl_FLOWING : Array (Option Value)} {xs_FLOWING : List V}
    {p_GIVEN : Addr} {od_GIVEN : Option Addr} {its_GIVEN : Array Value} {n_GIVEN : Nat} {sl_GIVEN : Array (Option Value)} {xs_GIVEN : List V}
    {p_LAYERED : Addr} {od_LAYERED : Option Addr} {its_LAYERED : Array Value} {n_LAYERED : Nat} {sl_LAYERED : Array (Option Value)} {xs_LAYERED : List V}
    {tk_LETTERS : Tok}
    {tk_MOST_LAYERS : Tok}
    {tk_MOST_STARTS : Tok}
    {p_PIECES : Addr} {od_PIECES : Option Addr} {its_PIECES : Array Value} {n_PIECES : Nat} {sl_PIECES : Array (Option Value)} {xs_PIECES : List V}
    {p_VARIED : Addr} {od_VARIED : Option Addr} {its_VARIED : Array Value} {n_VARIED : Nat} {sl_VARIED : Array (Option Value)} {xs_VARIED : List V}
    {d_CHOICES : Addr} {es_CHOICES : Array DictEntry} {n_CHOICES : Nat}
    (aC0 : PySem.W.nsIn K mainGlobals "Assembler" = some (some (.ref C0)))
    (aC1 : PySem.W.nsIn K mainGlobals "Book" = some (some (.ref C1)))
    (a0 : PySem.W.findIn K (.ref C1) "number_of" = some (some (.ref f0)))
    (i0 : PySem.W.isFn K (.ref f0) = true)
    (l0 : K.lookup f0 = some ⟨oc0, od0, .func (PySem.W.fnOf "number_of" "Book.number_of" (defArgs s_Book_number_of) (defBody s_Book_number_of) (defScope s_Book_number_of) .none kV0 dc0 pm0 an0 cd0 ct0), sl0⟩)
    (c0 : PySem.W.codeIn K cd0 "Book.number_of" = true)
    (k0 : PySem.W.keepIn K (.ref f0) = true)
    (a1 : PySem.W.findIn K (.ref C0) "hole" = some (some (.ref f1)))
    (i1 : PySem.W.isFn K (.ref f1) = true)
    (l1 : K.lookup f1 = some ⟨oc1, od1, .func (PySem.W.fnOf "hole" "Assembler.hole" (defArgs s_Assembler_hole) (defBody s_Assembler_hole) (defScope s_Assembler_hole) .none kV1 dc1 pm1 an1 cd1 ct1), sl1⟩)
    (c1 : PySem.W.codeIn K cd1 "Assembler.hole" = true)
    (k1 : PySem.W.keepIn K (.ref f1) = true)
    (a2 : PySem.W.findIn K (.ref C0) "write" = some (some (.ref f2)))
    (i2 : PySem.W.isFn K (.ref f2) = true)
    (l2 : K.lookup f2 = some ⟨oc2, od2, .func (PySem.W.fnOf "write" "Assembler.write" (defArgs s_Assembler_write) (defBody s_Assembler_write) (defScope s_Assembler_write) .none kV2 dc2 pm2 an2 cd2 ct2), sl2⟩)
    (c2 : PySem.W.codeIn K cd2 "Assembler.write" = true)
    (k2 : PySem.W.keepIn K (.ref f2) = true)
    (a3 : PySem.W.findIn K (.ref C0) "write_flow" = some (some (.ref f3)))
    (i3 : PySem.W.isFn K (.ref f3) = true)
    (l3 : K.lookup f3 = some ⟨oc3, od3, .func (PySem.W.fnOf "write_flow" "Assembler.write_flow" (defArgs s_Assembler_write_flow) (defBody s_Assembler_write_flow) (defScope s_Assembler_write_flow) .none kV3 dc3 pm3 an3 cd3 ct3), sl3⟩)
    (c3 : PySem.W.codeIn K cd3 "Assembler.write_flow" = true)
    (k3 : PySem.W.keepIn K (.ref f3) = true)
    (a4 : PySem.W.findIn K (.ref C0) "write_value" = some (some (.ref f4)))
    (i4 : PySem.W.isFn K (.ref f4) = true)
    (l4 : K.lookup f4 = some ⟨oc4, od4, .func (PySem.W.fnOf "write_value" "Assembler.write_value" (defArgs s_Assembler_write_value) (defBody s_Assembler_write_value) (defScope s_Assembler_write_value) .none kV4 dc4 pm4 an4 cd4 ct4), sl4⟩)
    (c4 : PySem.W.codeIn K cd4 "Assembler.write_value" = true)
    (k4 : PySem.W.keepIn K (.ref f4) = true)
    (a5 : PySem.W.findIn K (.ref C0) "__init__" = some (some (.ref f5)))
    (i5 : PySem.W.isFn K (.ref f5) = true)
    (l5 : K.lookup f5 = some ⟨oc5, od5, .func (PySem.W.fnOf "__init__" "Assembler.__init__" (defArgs s_Assembler_init) (defBody s_Assembler_init) (defScope s_Assembler_init) .none kV5 dc5 pm5 an5 cd5 ct5), sl5⟩)
    (c5 : PySem.W.codeIn K cd5 "Assembler.__init__" = true)
    (k5 : PySem.W.keepIn K (.ref f5) = true)
    (mk0 : PySem.W.makesIn K C0 = true)
    (kc0 : PySem.W.keepIn K (.ref C0) = true)
    (a6 : PySem.W.nsIn K mainGlobals "compiled" = some (some (.ref f6)))
    (l6 : K.lookup f6 = some ⟨oc6, od6, .func (PySem.W.fnOf "compiled" "compiled" (defArgs s_compiled) (defBody s_compiled) (defScope s_compiled) .none kV6 dc6 pm6 an6 cd6 ct6), sl6⟩)
    (c6 : PySem.W.codeIn K cd6 "compiled" = true)
    (k6 : PySem.W.keepIn K (.ref f6) = true)
    (a7 : PySem.W.nsIn K mainGlobals "is_name" = some (some (.ref f7)))
    (l7 : K.lookup f7 = some ⟨oc7, od7, .func (PySem.W.fnOf "is_name" "is_name" (defArgs s_is_name) (defBody s_is_name) (defScope s_is_name) .none kV7 dc7 pm7 an7 cd7 ct7), sl7⟩)
    (c7 : PySem.W.codeIn K cd7 "is_name" = true)
    (k7 : PySem.W.keepIn K (.ref f7) = true)
    (a8 : PySem.W.nsIn K mainGlobals "is_monoid" = some (some (.ref f8)))
    (l8 : K.lookup f8 = some ⟨oc8, od8, .func (PySem.W.fnOf "is_monoid" "is_monoid" (defArgs s_is_monoid) (defBody s_is_monoid) (defScope s_is_monoid) .none kV8 dc8 pm8 an8 cd8 ct8), sl8⟩)
    (c8 : PySem.W.codeIn K cd8 "is_monoid" = true)
    (k8 : PySem.W.keepIn K (.ref f8) = true)
    (a9 : PySem.W.nsIn K mainGlobals "is_layer" = some (some (.ref f9)))
    (l9 : K.lookup f9 = some ⟨oc9, od9, .func (PySem.W.fnOf "is_layer" "is_layer" (defArgs s_is_layer) (defBody s_is_layer) (defScope s_is_layer) .none kV9 dc9 pm9 an9 cd9 ct9), sl9⟩)
    (c9 : PySem.W.codeIn K cd9 "is_layer" = true)
    (k9 : PySem.W.keepIn K (.ref f9) = true)
    (a10 : PySem.W.nsIn K mainGlobals "_law_row" = some (some (.ref f10)))
    (l10 : K.lookup f10 = some ⟨oc10, od10, .func (PySem.W.fnOf "_law_row" "_law_row" (defArgs s_law_row) (defBody s_law_row) (defScope s_law_row) .none kV10 dc10 pm10 an10 cd10 ct10), sl10⟩)
    (c10 : PySem.W.codeIn K cd10 "_law_row" = true)
    (k10 : PySem.W.keepIn K (.ref f10) = true)
    (a11 : PySem.W.nsIn K mainGlobals "_law_is_integer" = some (some (.ref f11)))
    (l11 : K.lookup f11 = some ⟨oc11, od11, .func (PySem.W.fnOf "_law_is_integer" "_law_is_integer" (defArgs s_law_is_integer) (defBody s_law_is_integer) (defScope s_law_is_integer) .none kV11 dc11 pm11 an11 cd11 ct11), sl11⟩)
    (c11 : PySem.W.codeIn K cd11 "_law_is_integer" = true)
    (k11 : PySem.W.keepIn K (.ref f11) = true)
    (a12 : PySem.W.nsIn K mainGlobals "_law_layer" = some (some (.ref f12)))
    (l12 : K.lookup f12 = some ⟨oc12, od12, .func (PySem.W.fnOf "_law_layer" "_law_layer" (defArgs s_law_layer) (defBody s_law_layer) (defScope s_law_layer) .none kV12 dc12 pm12 an12 cd12 ct12), sl12⟩)
    (c12 : PySem.W.codeIn K cd12 "_law_layer" = true)
    (k12 : PySem.W.keepIn K (.ref f12) = true)
    (a13 : PySem.W.nsIn K mainGlobals "_law_book" = some (some (.ref f13)))
    (l13 : K.lookup f13 = some ⟨oc13, od13, .func (PySem.W.fnOf "_law_book" "_law_book" (defArgs s_law_book) (defBody s_law_book) (defScope s_law_book) .none kV13 dc13 pm13 an13 cd13 ct13), sl13⟩)
    (c13 : PySem.W.codeIn K cd13 "_law_book" = true)
    (k13 : PySem.W.keepIn K (.ref f13) = true)
    (a14 : PySem.W.nsIn K mainGlobals "_law_leaves" = some (some (.ref f14)))
    (l14 : K.lookup f14 = some ⟨oc14, od14, .func (PySem.W.fnOf "_law_leaves" "_law_leaves" (defArgs s_law_leaves) (defBody s_law_leaves) (defScope s_law_leaves) .none kV14 dc14 pm14 an14 cd14 ct14), sl14⟩)
    (c14 : PySem.W.codeIn K cd14 "_law_leaves" = true)
    (k14 : PySem.W.keepIn K (.ref f14) = true)
    (a15 : PySem.W.nsIn K mainGlobals "_law_number" = some (some (.ref f15)))
    (l15 : K.lookup f15 = some ⟨oc15, od15, .func (PySem.W.fnOf "_law_number" "_law_number" (defArgs s_law_number) (defBody s_law_number) (defScope s_law_number) .none kV15 dc15 pm15 an15 cd15 ct15), sl15⟩)
    (c15 : PySem.W.codeIn K cd15 "_law_number" = true)
    (k15 : PySem.W.keepIn K (.ref f15) = true)
    (a16 : PySem.W.nsIn K mainGlobals "_law_unary" = some (some (.ref f16)))
    (l16 : K.lookup f16 = some ⟨oc16, od16, .func (PySem.W.fnOf "_law_unary" "_law_unary" (defArgs s_law_unary) (defBody s_law_unary) (defScope s_law_unary) .none kV16 dc16 pm16 an16 cd16 ct16), sl16⟩)
    (c16 : PySem.W.codeIn K cd16 "_law_unary" = true)
    (k16 : PySem.W.keepIn K (.ref f16) = true)
    (a17 : PySem.W.nsIn K mainGlobals "_law_binary" = some (some (.ref f17)))
    (l17 : K.lookup f17 = some ⟨oc17, od17, .func (PySem.W.fnOf "_law_binary" "_law_binary" (defArgs s_law_binary) (defBody s_law_binary) (defScope s_law_binary) .none kV17 dc17 pm17 an17 cd17 ct17), sl17⟩)
    (c17 : PySem.W.codeIn K cd17 "_law_binary" = true)
    (k17 : PySem.W.keepIn K (.ref f17) = true)
    (a18 : PySem.W.nsIn K mainGlobals "_law_both" = some (some (.ref f18)))
    (l18 : K.lookup f18 = some ⟨oc18, od18, .func (PySem.W.fnOf "_law_both" "_law_both" (defArgs s_law_both) (defBody s_law_both) (defScope s_law_both) .none kV18 dc18 pm18 an18 cd18 ct18), sl18⟩)
    (c18 : PySem.W.codeIn K cd18 "_law_both" = true)
    (k18 : PySem.W.keepIn K (.ref f18) = true)
    (a19 : PySem.W.nsIn K mainGlobals "_law_round" = some (some (.ref f19)))
    (l19 : K.lookup f19 = some ⟨oc19, od19, .func (PySem.W.fnOf "_law_round" "_law_round" (defArgs s_law_round) (defBody s_law_round) (defScope s_law_round) .none kV19 dc19 pm19 an19 cd19 ct19), sl19⟩)
    (c19 : PySem.W.codeIn K cd19 "_law_round" = true)
    (k19 : PySem.W.keepIn K (.ref f19) = true)
    (a20 : PySem.W.nsIn K mainGlobals "_law_try" = some (some (.ref f20)))
    (l20 : K.lookup f20 = some ⟨oc20, od20, .func (PySem.W.fnOf "_law_try" "_law_try" (defArgs s_law_try) (defBody s_law_try) (defScope s_law_try) .none kV20 dc20 pm20 an20 cd20 ct20), sl20⟩)
    (c20 : PySem.W.codeIn K cd20 "_law_try" = true)
    (k20 : PySem.W.keepIn K (.ref f20) = true)
    (a21 : PySem.W.nsIn K mainGlobals "_law_if" = some (some (.ref f21)))
    (l21 : K.lookup f21 = some ⟨oc21, od21, .func (PySem.W.fnOf "_law_if" "_law_if" (defArgs s_law_if) (defBody s_law_if) (defScope s_law_if) .none kV21 dc21 pm21 an21 cd21 ct21), sl21⟩)
    (c21 : PySem.W.codeIn K cd21 "_law_if" = true)
    (k21 : PySem.W.keepIn K (.ref f21) = true)
    (a22 : PySem.W.nsIn K mainGlobals "_law_call" = some (some (.ref f22)))
    (l22 : K.lookup f22 = some ⟨oc22, od22, .func (PySem.W.fnOf "_law_call" "_law_call" (defArgs s_law_call) (defBody s_law_call) (defScope s_law_call) .none kV22 dc22 pm22 an22 cd22 ct22), sl22⟩)
    (c22 : PySem.W.codeIn K cd22 "_law_call" = true)
    (k22 : PySem.W.keepIn K (.ref f22) = true)
    (a23 : PySem.W.nsIn K mainGlobals "_law_grown" = some (some (.ref f23)))
    (l23 : K.lookup f23 = some ⟨oc23, od23, .func (PySem.W.fnOf "_law_grown" "_law_grown" (defArgs s_law_grown) (defBody s_law_grown) (defScope s_law_grown) .none kV23 dc23 pm23 an23 cd23 ct23), sl23⟩)
    (c23 : PySem.W.codeIn K cd23 "_law_grown" = true)
    (k23 : PySem.W.keepIn K (.ref f23) = true)
    (a24 : PySem.W.nsIn K mainGlobals "_law_item" = some (some (.ref f24)))
    (l24 : K.lookup f24 = some ⟨oc24, od24, .func (PySem.W.fnOf "_law_item" "_law_item" (defArgs s_law_item) (defBody s_law_item) (defScope s_law_item) .none kV24 dc24 pm24 an24 cd24 ct24), sl24⟩)
    (c24 : PySem.W.codeIn K cd24 "_law_item" = true)
    (k24 : PySem.W.keepIn K (.ref f24) = true)
    (a25 : PySem.W.nsIn K mainGlobals "_law_program" = some (some (.ref f25)))
    (l25 : K.lookup f25 = some ⟨oc25, od25, .func (PySem.W.fnOf "_law_program" "_law_program" (defArgs s_law_program) (defBody s_law_program) (defScope s_law_program) .none kV25 dc25 pm25 an25 cd25 ct25), sl25⟩)
    (c25 : PySem.W.codeIn K cd25 "_law_program" = true)
    (k25 : PySem.W.keepIn K (.ref f25) = true)
    (a26 : PySem.W.nsIn K mainGlobals "_law_more" = some (some (.ref f26)))
    (l26 : K.lookup f26 = some ⟨oc26, od26, .func (PySem.W.fnOf "_law_more" "_law_more" (defArgs s_law_more) (defBody s_law_more) (defScope s_law_more) .none kV26 dc26 pm26 an26 cd26 ct26), sl26⟩)
    (c26 : PySem.W.codeIn K cd26 "_law_more" = true)
    (k26 : PySem.W.keepIn K (.ref f26) = true)
    (a27 : PySem.W.nsIn K mainGlobals "_law_nest" = some (some (.ref f27)))
    (l27 : K.lookup f27 = some ⟨oc27, od27, .func (PySem.W.fnOf "_law_nest" "_law_nest" (defArgs s_law_nest) (defBody s_law_nest) (defScope s_law_nest) .none kV27 dc27 pm27 an27 cd27 ct27), sl27⟩)
    (c27 : PySem.W.codeIn K cd27 "_law_nest" = true)
    (k27 : PySem.W.keepIn K (.ref f27) = true)
    (a28 : PySem.W.nsIn K mainGlobals "_law_caught" = some (some (.ref f28)))
    (l28 : K.lookup f28 = some ⟨oc28, od28, .func (PySem.W.fnOf "_law_caught" "_law_caught" (defArgs s_law_caught) (defBody s_law_caught) (defScope s_law_caught) .none kV28 dc28 pm28 an28 cd28 ct28), sl28⟩)
    (c28 : PySem.W.codeIn K cd28 "_law_caught" = true)
    (k28 : PySem.W.keepIn K (.ref f28) = true)
    (a29 : PySem.W.nsIn K mainGlobals "_law_number_of" = some (some (.ref f29)))
    (l29 : K.lookup f29 = some ⟨oc29, od29, .func (PySem.W.fnOf "_law_number_of" "_law_number_of" (defArgs s_law_number_of) (defBody s_law_number_of) (defScope s_law_number_of) .none kV29 dc29 pm29 an29 cd29 ct29), sl29⟩)
    (c29 : PySem.W.codeIn K cd29 "_law_number_of" = true)
    (k29 : PySem.W.keepIn K (.ref f29) = true)
    (a30 : PySem.W.nsIn K mainGlobals "_law_behind" = some (some (.ref f30)))
    (l30 : K.lookup f30 = some ⟨oc30, od30, .func (PySem.W.fnOf "_law_behind" "_law_behind" (defArgs s_law_behind) (defBody s_law_behind) (defScope s_law_behind) .none kV30 dc30 pm30 an30 cd30 ct30), sl30⟩)
    (c30 : PySem.W.codeIn K cd30 "_law_behind" = true)
    (k30 : PySem.W.keepIn K (.ref f30) = true)
    (a31 : PySem.W.nsIn K mainGlobals "_law_flow" = some (some (.ref f31)))
    (l31 : K.lookup f31 = some ⟨oc31, od31, .func (PySem.W.fnOf "_law_flow" "_law_flow" (defArgs s_law_flow) (defBody s_law_flow) (defScope s_law_flow) .none kV31 dc31 pm31 an31 cd31 ct31), sl31⟩)
    (c31 : PySem.W.codeIn K cd31 "_law_flow" = true)
    (k31 : PySem.W.keepIn K (.ref f31) = true)
    (a32 : PySem.W.nsIn K mainGlobals "_law_code" = some (some (.ref f32)))
    (l32 : K.lookup f32 = some ⟨oc32, od32, .func (PySem.W.fnOf "_law_code" "_law_code" (defArgs s_law_code) (defBody s_law_code) (defScope s_law_code) .none kV32 dc32 pm32 an32 cd32 ct32), sl32⟩)
    (c32 : PySem.W.codeIn K cd32 "_law_code" = true)
    (k32 : PySem.W.keepIn K (.ref f32) = true)
    (a33 : PySem.W.nsIn K mainGlobals "_law_whole" = some (some (.ref f33)))
    (l33 : K.lookup f33 = some ⟨oc33, od33, .func (PySem.W.fnOf "_law_whole" "_law_whole" (defArgs s_law_whole) (defBody s_law_whole) (defScope s_law_whole) .none kV33 dc33 pm33 an33 cd33 ct33), sl33⟩)
    (c33 : PySem.W.codeIn K cd33 "_law_whole" = true)
    (k33 : PySem.W.keepIn K (.ref f33) = true)
    (a34 : PySem.W.nsIn K mainGlobals "_law_is_code" = some (some (.ref f34)))
    (l34 : K.lookup f34 = some ⟨oc34, od34, .func (PySem.W.fnOf "_law_is_code" "_law_is_code" (defArgs s_law_is_code) (defBody s_law_is_code) (defScope s_law_is_code) .none kV34 dc34 pm34 an34 cd34 ct34), sl34⟩)
    (c34 : PySem.W.codeIn K cd34 "_law_is_code" = true)
    (k34 : PySem.W.keepIn K (.ref f34) = true)
    (a35 : PySem.W.findIn K (.ref C1) "__init__" = some (some (.ref f35)))
    (i35 : PySem.W.isFn K (.ref f35) = true)
    (l35 : K.lookup f35 = some ⟨oc35, od35, .func (PySem.W.fnOf "__init__" "Book.__init__" (defArgs s_Book_init) (defBody s_Book_init) (defScope s_Book_init) .none kV35 dc35 pm35 an35 cd35 ct35), sl35⟩)
    (c35 : PySem.W.codeIn K cd35 "Book.__init__" = true)
    (k35 : PySem.W.keepIn K (.ref f35) = true)
    (mk1 : PySem.W.makesIn K C1 = true)
    (kc1 : PySem.W.keepIn K (.ref C1) = true)
    (a36 : PySem.W.nsIn K mainGlobals "law" = some (some (.ref f36)))
    (l36 : K.lookup f36 = some ⟨oc36, od36, .func (PySem.W.fnOf "law" "law" (defArgs s_law) (defBody s_law) (defScope s_law) .none kV36 dc36 pm36 an36 cd36 ct36), sl36⟩)
    (c36 : PySem.W.codeIn K cd36 "law" = true)
    (k36 : PySem.W.keepIn K (.ref f36) = true)
    (pg0 : PySem.W.plainGet K C0 Str.empty = true)
    (hd0 : PySem.W.hasDictIn K C0 = true)
    (po0 : PySem.W.plainOver K C0 = true)
    (sa0 : PySem.W.findIn K (.ref C0) "__setattr__" = some (some (.builtin "object.__setattr__")))
    (pg1 : PySem.W.plainGet K C1 Str.empty = true)
    (hd1 : PySem.W.hasDictIn K C1 = true)
    (po1 : PySem.W.plainOver K C1 = true)
    (sa1 : PySem.W.findIn K (.ref C1) "__setattr__" = some (some (.builtin "object.__setattr__")))
    (n0_book : PySem.W.findIn K (.ref C0) "book" = some none)
    (n0_code : PySem.W.findIn K (.ref C0) "code" = some none)
    (n1_kernel : PySem.W.findIn K (.ref C1) "kernel" = some none)
    (n1_layers : PySem.W.findIn K (.ref C1) "layers" = some none)
    (n0_places : PySem.W.findIn K (.ref C0) "places" = some none)
    (n1_size : PySem.W.findIn K (.ref C1) "size" = some none)
    (z_all : PySem.W.nsIn K mainGlobals "all" = some none)
    (z_bool : PySem.W.nsIn K mainGlobals "bool" = some none)
    (z_dict : PySem.W.nsIn K mainGlobals "dict" = some none)
    (z_enumerate : PySem.W.nsIn K mainGlobals "enumerate" = some none)
    (z_int : PySem.W.nsIn K mainGlobals "int" = some none)
    (z_isinstance : PySem.W.nsIn K mainGlobals "isinstance" = some none)
    (z_len : PySem.W.nsIn K mainGlobals "len" = some none)
    (z_list : PySem.W.nsIn K mainGlobals "list" = some none)
    (z_max : PySem.W.nsIn K mainGlobals "max" = some none)
    (z_min : PySem.W.nsIn K mainGlobals "min" = some none)
    (z_range : PySem.W.nsIn K mainGlobals "range" = some none)
    (z_reversed : PySem.W.nsIn K mainGlobals "reversed" = some none)
    (z_tuple : PySem.W.nsIn K mainGlobals "tuple" = some none)
    (g_FLOWING : PySem.W.nsIn K mainGlobals "FLOWING" = some (some (.ref p_FLOWING)))
    (gl_FLOWING : K.lookup p_FLOWING = some ⟨.type "tuple", od_FLOWING, .seq its_FLOWING n_FLOWING, sl_FLOWING⟩)
    (ge_FLOWING : wrVs its_FLOWING.toList = some ([(.str "let"), (.str "if"), (.str "repeat"), (.str "call"), (.str "try")], xs_FLOWING))
    (gz_FLOWING : its_FLOWING.size ≤ 1000)
    (g_GIVEN : PySem.W.nsIn K mainGlobals "GIVEN" = some (some (.ref p_GIVEN)))
    (gl_GIVEN : K.lookup p_GIVEN = some ⟨.type "tuple", od_GIVEN, .seq its_GIVEN n_GIVEN, sl_GIVEN⟩)
    (ge_GIVEN : wrVs its_GIVEN.toList = some ([(.str "put"), (.str "note")], xs_GIVEN))
    (gz_GIVEN : its_GIVEN.size ≤ 1000)
    (g_LAYERED : PySem.W.nsIn K mainGlobals "LAYERED" = some (some (.ref p_LAYERED)))
    (gl_LAYERED : K.lookup p_LAYERED = some ⟨.type "tuple", od_LAYERED, .seq its_LAYERED n_LAYERED, sl_LAYERED⟩)
    (ge_LAYERED : wrVs its_LAYERED.toList = some ([(.str "get"), (.str "look"), (.str "fail"), (.str "ask")], xs_LAYERED))
    (gz_LAYERED : its_LAYERED.size ≤ 1000)
    (g_LETTERS : PySem.W.nsIn K mainGlobals "LETTERS" = some (some (.str "abcdefghijklmnopqrstuvwxyz" tk_LETTERS)))
    (g_MOST_LAYERS : PySem.W.nsIn K mainGlobals "MOST_LAYERS" = some (some (.int 5 tk_MOST_LAYERS)))
    (g_MOST_STARTS : PySem.W.nsIn K mainGlobals "MOST_STARTS" = some (some (.int 12 tk_MOST_STARTS)))
    (g_PIECES : PySem.W.nsIn K mainGlobals "PIECES" = some (some (.ref p_PIECES)))
    (gl_PIECES : K.lookup p_PIECES = some ⟨.type "tuple", od_PIECES, .seq its_PIECES n_PIECES, sl_PIECES⟩)
    (ge_PIECES : wrVs its_PIECES.toList = some ([(.str "choose"), (.str "draw")], xs_PIECES))
    (gz_PIECES : its_PIECES.size ≤ 1000)
    (g_VARIED : PySem.W.nsIn K mainGlobals "VARIED" = some (some (.ref p_VARIED)))
    (gl_VARIED : K.lookup p_VARIED = some ⟨.type "tuple", od_VARIED, .seq its_VARIED n_VARIED, sl_VARIED⟩)
    (ge_VARIED : wrVs its_VARIED.toList = some ([(.str "cell"), (.str "setting")], xs_VARIED))
    (gz_VARIED : its_VARIED.size ≤ 1000)
    (h_CHOICES : PySem.W.nsIn K mainGlobals "CHOICES" = some (some (.ref d_CHOICES)))
    (hl_CHOICES : K.lookup d_CHOICES = some ⟨.type "dict", none, .dict es_CHOICES n_CHOICES, #[]⟩)
    (he_CHOICES : keysOf es_CHOICES.toList = some k_CHOICES)
    (hk_CHOICES : PySem.W.KeysLit w.params es_CHOICES.toList)
    (hs_CHOICES : (d_CHOICES == sysModules) = false)
    : ∃ (cl : Nat → Addr) (fd : FuncData), (∀ (s : Shared) (u : Value), BindsTo s fd ⟨[u], []⟩ [("script", u)]) ∧ ∀ base : Heap, FnG l.prog w K mg base cl 64 fa fd ["script"] m_law := by
  have e := hfa.symm.trans (PySem.W.mg_of X G a36)
  cases e
  have T : Txt K w mg (clOf C0 C1) := {
    q_Book_number_of := MethT.mk' bi_Book_number_of a0 i0 l0 c0 k0,
    q_Assembler_hole := MethT.mk' bi_Assembler_hole a1 i1 l1 c1 k1,
    q_Assembler_write := MethT.mk' bi_Assembler_write a2 i2 l2 c2 k2,
    q_Assembler_write_flow := MethT.mk' bi_Assembler_write_flow a3 i3 l3 c3 k3,
    q_Assembler_write_value := MethT.mk' bi_Assembler_write_value a4 i4 l4 c4 k4,
    i_Assembler := InitT.mk' bi_Assembler_init X G aC0 mk0 a5 i5 kc0 l5 c5 k5,
    d_compiled := DefT.mk' bi_compiled X G a6 l6 c6 k6,
    d_is_name := DefT.mk' bi_is_name X G a7 l7 c7 k7,
    d_is_monoid := DefT.mk' bi_is_monoid X G a8 l8 c8 k8,
    d_is_layer := DefT.mk' bi_is_layer X G a9 l9 c9 k9,
    d_law_row := DefT.mk' bi_law_row X G a10 l10 c10 k10,
    d_law_is_integer := DefT.mk' bi_law_is_integer X G a11 l11 c11 k11,
    d_law_layer := DefT.mk' bi_law_layer X G a12 l12 c12 k12,
    d_law_book := DefT.mk' bi_law_book X G a13 l13 c13 k13,
    d_law_leaves := DefT.mk' bi_law_leaves X G a14 l14 c14 k14,
    d_law_number := DefT.mk' bi_law_number X G a15 l15 c15 k15,
    d_law_unary := DefT.mk' bi_law_unary X G a16 l16 c16 k16,
    d_law_binary := DefT.mk' bi_law_binary X G a17 l17 c17 k17,
    d_law_both := DefT.mk' bi_law_both X G a18 l18 c18 k18,
    d_law_round := DefT.mk' bi_law_round X G a19 l19 c19 k19,
    d_law_try := DefT.mk' bi_law_try X G a20 l20 c20 k20,
    d_law_if := DefT.mk' bi_law_if X G a21 l21 c21 k21,
    d_law_call := DefT.mk' bi_law_call X G a22 l22 c22 k22,
    d_law_grown := DefT.mk' bi_law_grown X G a23 l23 c23 k23,
    d_law_item := DefT.mk' bi_law_item X G a24 l24 c24 k24,
    d_law_program := DefT.mk' bi_law_program X G a25 l25 c25 k25,
    d_law_more := DefT.mk' bi_law_more X G a26 l26 c26 k26,
    d_law_nest := DefT.mk' bi_law_nest X G a27 l27 c27 k27,
    d_law_caught := DefT.mk' bi_law_caught X G a28 l28 c28 k28,
    d_law_number_of := DefT.mk' bi_law_number_of X G a29 l29 c29 k29,
    d_law_behind := DefT.mk' bi_law_behind X G a30 l30 c30 k30,
    d_law_flow := DefT.mk' bi_law_flow X G a31 l31 c31 k31,
    d_law_code := DefT.mk' bi_law_code X G a32 l32 c32 k32,
    d_law_whole := DefT.mk' bi_law_whole X G a33 l33 c33 k33,
    d_law_is_code := DefT.mk' bi_law_is_code X G a34 l34 c34 k34,
    i_Book := InitT.mk' bi_Book_init X G aC1 mk1 a35 i35 kc1 l35 c35 k35,
    d_law := DefT.mk' bi_law X G a36 l36 c36 k36,
    c_Assembler := ⟨pg0, hd0, po0, sa0⟩,
    c_Book := ⟨pg1, hd1, po1, sa1⟩,
    a_book := (clsA_cons ⟨pg0, hd0, po0, sa0⟩ n0_book clsA_nil),
    a_code := (clsA_cons ⟨pg0, hd0, po0, sa0⟩ n0_code clsA_nil),
    a_kernel := (clsA_cons ⟨pg1, hd1, po1, sa1⟩ n1_kernel clsA_nil),
    a_layers := (clsA_cons ⟨pg1, hd1, po1, sa1⟩ n1_layers clsA_nil),
    a_places := (clsA_cons ⟨pg0, hd0, po0, sa0⟩ n0_places clsA_nil),
    a_size := (clsA_cons ⟨pg1, hd1, po1, sa1⟩ n1_size clsA_nil),
    b_all := PySem.W.mg_none_of X G z_all,
    b_bool := PySem.W.mg_none_of X G z_bool,
    b_dict := PySem.W.mg_none_of X G z_dict,
    b_enumerate := PySem.W.mg_none_of X G z_enumerate,
    b_int := PySem.W.mg_none_of X G z_int,
    b_isinstance := PySem.W.mg_none_of X G z_isinstance,
    b_len := PySem.W.mg_none_of X G z_len,
    b_list := PySem.W.mg_none_of X G z_list,
    b_max := PySem.W.mg_none_of X G z_max,
    b_min := PySem.W.mg_none_of X G z_min,
    b_range := PySem.W.mg_none_of X G z_range,
    b_reversed := PySem.W.mg_none_of X G z_reversed,
    b_tuple := PySem.W.mg_none_of X G z_tuple,
    g_FLOWING := GlobT.tup X G g_FLOWING gl_FLOWING ge_FLOWING gz_FLOWING,
    g_GIVEN := GlobT.tup X G g_GIVEN gl_GIVEN ge_GIVEN gz_GIVEN,
    g_LAYERED := GlobT.tup X G g_LAYERED gl_LAYERED ge_LAYERED gz_LAYERED,
    g_LETTERS := GlobT.str X G g_LETTERS,
    g_MOST_LAYERS := GlobT.int X G g_MOST_LAYERS,
    g_MOST_STARTS := GlobT.int X G g_MOST_STARTS,
    g_PIECES := GlobT.tup X G g_PIECES gl_PIECES ge_PIECES gz_PIECES,
    g_VARIED := GlobT.tup X G g_VARIED gl_VARIED ge_VARIED gz_VARIED,
    k_CHOICES := KeysT.mk' X G h_CHOICES hl_CHOICES he_CHOICES hk_CHOICES hs_CHOICES
  }
  have F := fun_mk (st := s_law) l36 c36 k36
  exact ⟨_, _, fun s u => .of_eq rfl, fun base => fn_law T F⟩
end K17

set_option Elab.async false
set_option linter.all false
open PySem PySem.W PyProof.Rows in
set_option maxRecDepth 100000 in
set_option maxHeartbeats 0 in
theorem PySem.Challenge.cw_bookshandled_k17_codes_holds : PySem.Challenge.rw_bookshandled_k17_codes.Holds := by
  w_on; o_law; k_head; (case hw => w_witness2)
  k_fill
  refine BH.law_ends (l := PySem.Challenge.rw_bookshandled_k17_codes) (lm := K17.m_law) (k := 64) rfl rfl ⟨rfl, by decide, by decide⟩ (fun w h Y => PySem.W.kIn_of Y) ?F K17.law_true
  case F =>
    intro w mg fa h KX G hmg
    refine' K17.all_mk KX G hmg ?aC0 ?aC1 ?a0 ?i0 ?l0 ?c0 ?k0 ?a1 ?i1 ?l1 ?c1 ?k1 ?a2 ?i2 ?l2 ?c2 ?k2 ?a3 ?i3 ?l3 ?c3 ?k3 ?a4 ?i4 ?l4 ?c4 ?k4 ?a5 ?i5 ?l5 ?c5 ?k5 ?mk0 ?kc0 ?a6 ?l6 ?c6 ?k6 ?a7 ?l7 ?c7 ?k7 ?a8 ?l8 ?c8 ?k8 ?a9 ?l9 ?c9 ?k9 ?a10 ?l10 ?c10 ?k10 ?a11 ?l11 ?c11 ?k11 ?a12 ?l12 ?c12 ?k12 ?a13 ?l13 ?c13 ?k13 ?a14 ?l14 ?c14 ?k14 ?a15 ?l15 ?c15 ?k15 ?a16 ?l16 ?c16 ?k16 ?a17 ?l17 ?c17 ?k17 ?a18 ?l18 ?c18 ?k18 ?a19 ?l19 ?c19 ?k19 ?a20 ?l20 ?c20 ?k20 ?a21 ?l21 ?c21 ?k21 ?a22 ?l22 ?c22 ?k22 ?a23 ?l23 ?c23 ?k23 ?a24 ?l24 ?c24 ?k24 ?a25 ?l25 ?c25 ?k25 ?a26 ?l26 ?c26 ?k26 ?a27 ?l27 ?c27 ?k27 ?a28 ?l28 ?c28 ?k28 ?a29 ?l29 ?c29 ?k29 ?a30 ?l30 ?c30 ?k30 ?a31 ?l31 ?c31 ?k31 ?a32 ?l32 ?c32 ?k32 ?a33 ?l33 ?c33 ?k33 ?a34 ?l34 ?c34 ?k34 ?a35 ?i35 ?l35 ?c35 ?k35 ?mk1 ?kc1 ?a36 ?l36 ?c36 ?k36 ?pg0 ?hd0 ?po0 ?sa0 ?pg1 ?hd1 ?po1 ?sa1 ?n0_book ?n0_code ?n1_kernel ?n1_layers ?n0_places ?n1_size ?z_all ?z_bool ?z_dict ?z_enumerate ?z_int ?z_isinstance ?z_len ?z_list ?z_max ?z_min ?z_range ?z_reversed ?z_tuple ?g_FLOWING ?gl_FLOWING ?ge_FLOWING ?gz_FLOWING ?g_GIVEN ?gl_GIVEN ?ge_GIVEN ?gz_GIVEN ?g_LAYERED ?gl_LAYERED ?ge_LAYERED ?gz_LAYERED ?g_LETTERS ?g_MOST_LAYERS ?g_MOST_STARTS ?g_PIECES ?gl_PIECES ?ge_PIECES ?gz_PIECES ?g_VARIED ?gl_VARIED ?ge_VARIED ?gz_VARIED ?h_CHOICES ?hl_CHOICES ?he_CHOICES ?hk_CHOICES ?hs_CHOICES
    (case aC0 => k_is)
    (case aC1 => k_is)
    (case a0 => k_is)
    (case i0 => k_is)
    (case l0 => k_is)
    (case c0 => k_is)
    (case k0 => k_is)
    (case a1 => k_is)
    (case i1 => k_is)
    (case l1 => k_is)
    (case c1 => k_is)
    (case k1 => k_is)
    (case a2 => k_is)
    (case i2 => k_is)
    (case l2 => k_is)
    (case c2 => k_is)
    (case k2 => k_is)
    (case a3 => k_is)
    (case i3 => k_is)
    (case l3 => k_is)
    (case c3 => k_is)
    (case k3 => k_is)
    (case a4 => k_is)
    (case i4 => k_is)
    (case l4 => k_is)
    (case c4 => k_is)
    (case k4 => k_is)
    (case a5 => k_is)
    (case i5 => k_is)
    (case l5 => k_is)
    (case c5 => k_is)
    (case k5 => k_is)
    (case mk0 => k_is)
    (case kc0 => k_is)
    (case a6 => k_is)
    (case l6 => k_is)
    (case c6 => k_is)
    (case k6 => k_is)
    (case a7 => k_is)
    (case l7 => k_is)
    (case c7 => k_is)
    (case k7 => k_is)
    (case a8 => k_is)
    (case l8 => k_is)
    (case c8 => k_is)
    (case k8 => k_is)
    (case a9 => k_is)
    (case l9 => k_is)
    (case c9 => k_is)
    (case k9 => k_is)
    (case a10 => k_is)
    (case l10 => k_is)
    (case c10 => k_is)
    (case k10 => k_is)
    (case a11 => k_is)
    (case l11 => k_is)
    (case c11 => k_is)
    (case k11 => k_is)
    (case a12 => k_is)
    (case l12 => k_is)
    (case c12 => k_is)
    (case k12 => k_is)
    (case a13 => k_is)
    (case l13 => k_is)
    (case c13 => k_is)
    (case k13 => k_is)
    (case a14 => k_is)
    (case l14 => k_is)
    (case c14 => k_is)
    (case k14 => k_is)
    (case a15 => k_is)
    (case l15 => k_is)
    (case c15 => k_is)
    (case k15 => k_is)
    (case a16 => k_is)
    (case l16 => k_is)
    (case c16 => k_is)
    (case k16 => k_is)
    (case a17 => k_is)
    (case l17 => k_is)
    (case c17 => k_is)
    (case k17 => k_is)
    (case a18 => k_is)
    (case l18 => k_is)
    (case c18 => k_is)
    (case k18 => k_is)
    (case a19 => k_is)
    (case l19 => k_is)
    (case c19 => k_is)
    (case k19 => k_is)
    (case a20 => k_is)
    (case l20 => k_is)
    (case c20 => k_is)
    (case k20 => k_is)
    (case a21 => k_is)
    (case l21 => k_is)
    (case c21 => k_is)
    (case k21 => k_is)
    (case a22 => k_is)
    (case l22 => k_is)
    (case c22 => k_is)
    (case k22 => k_is)
    (case a23 => k_is)
    (case l23 => k_is)
    (case c23 => k_is)
    (case k23 => k_is)
    (case a24 => k_is)
    (case l24 => k_is)
    (case c24 => k_is)
    (case k24 => k_is)
    (case a25 => k_is)
    (case l25 => k_is)
    (case c25 => k_is)
    (case k25 => k_is)
    (case a26 => k_is)
    (case l26 => k_is)
    (case c26 => k_is)
    (case k26 => k_is)
    (case a27 => k_is)
    (case l27 => k_is)
    (case c27 => k_is)
    (case k27 => k_is)
    (case a28 => k_is)
    (case l28 => k_is)
    (case c28 => k_is)
    (case k28 => k_is)
    (case a29 => k_is)
    (case l29 => k_is)
    (case c29 => k_is)
    (case k29 => k_is)
    (case a30 => k_is)
    (case l30 => k_is)
    (case c30 => k_is)
    (case k30 => k_is)
    (case a31 => k_is)
    (case l31 => k_is)
    (case c31 => k_is)
    (case k31 => k_is)
    (case a32 => k_is)
    (case l32 => k_is)
    (case c32 => k_is)
    (case k32 => k_is)
    (case a33 => k_is)
    (case l33 => k_is)
    (case c33 => k_is)
    (case k33 => k_is)
    (case a34 => k_is)
    (case l34 => k_is)
    (case c34 => k_is)
    (case k34 => k_is)
    (case a35 => k_is)
    (case i35 => k_is)
    (case l35 => k_is)
    (case c35 => k_is)
    (case k35 => k_is)
    (case mk1 => k_is)
    (case kc1 => k_is)
    (case a36 => k_is)
    (case l36 => k_is)
    (case c36 => k_is)
    (case k36 => k_is)
    (case pg0 => k_is)
    (case hd0 => k_is)
    (case po0 => k_is)
    (case sa0 => k_is)
    (case pg1 => k_is)
    (case hd1 => k_is)
    (case po1 => k_is)
    (case sa1 => k_is)
    (case n0_book => k_is)
    (case n0_code => k_is)
    (case n1_kernel => k_is)
    (case n1_layers => k_is)
    (case n0_places => k_is)
    (case n1_size => k_is)
    (case z_all => k_is)
    (case z_bool => k_is)
    (case z_dict => k_is)
    (case z_enumerate => k_is)
    (case z_int => k_is)
    (case z_isinstance => k_is)
    (case z_len => k_is)
    (case z_list => k_is)
    (case z_max => k_is)
    (case z_min => k_is)
    (case z_range => k_is)
    (case z_reversed => k_is)
    (case z_tuple => k_is)
    (case g_FLOWING => k_is)
    (case gl_FLOWING => k_is)
    (case ge_FLOWING => rfl)
    (case gz_FLOWING => decide)
    (case g_GIVEN => k_is)
    (case gl_GIVEN => k_is)
    (case ge_GIVEN => rfl)
    (case gz_GIVEN => decide)
    (case g_LAYERED => k_is)
    (case gl_LAYERED => k_is)
    (case ge_LAYERED => rfl)
    (case gz_LAYERED => decide)
    (case g_LETTERS => k_is)
    (case g_MOST_LAYERS => k_is)
    (case g_MOST_STARTS => k_is)
    (case g_PIECES => k_is)
    (case gl_PIECES => k_is)
    (case ge_PIECES => rfl)
    (case gz_PIECES => decide)
    (case g_VARIED => k_is)
    (case gl_VARIED => k_is)
    (case ge_VARIED => rfl)
    (case gz_VARIED => decide)
    (case h_CHOICES => k_is)
    (case hl_CHOICES => k_is)
    (case he_CHOICES => rfl)
    (case hk_CHOICES => (repeat (first | exact trivial | refine ⟨⟨_, _, rfl, rfl⟩, ?_⟩)))
    (case hs_CHOICES => decide)
