import PyProof.Rows.All
import Wide.All
import OpenK.AllK
import Wide.FinOn
import HandS.ForMost
import HandS.Wide
import HandS.Defaults
import HandS.WordsExc
import HandS.TupAny
import HandS.Style
import HandS.IsInst
import HandS.SortInts
import HandS.Deep
import HandS.SetFor
import KE.DataCmp
import KE.SortData
import KE.DataAny
import KE.SortLaws
import HandS.Conv
import HandS.TupSets
import HandS.Zip
import KE.GoesEnum
import KE.GoesZip
import HandS.HeadEnd
import HandS.Dict
import KE.KDictDisplayH
import PyProof.Rows.TupDisplay
import HandS.Flt
import HandS.Head0
import HandS.Head1
import HandS.Head2
import HandS.Head3
import HandS.HeadHook1
import HandS.HeadHook2
import PySem.Challenge.RW_rowspushed_k02_whole_shapes
import KE.KStateDown
import Lean
section
set_option Elab.async false
set_option linter.all false
set_option maxRecDepth 100000
set_option maxHeartbeats 4000000
/-! Values as trees: what a value of the abstract heap stands for, which lists may change. -/
namespace FV
open PySem PySem.Spec PyProof.Rows L2
abbrev D := PyData
abbrev Sl := List (Option D)

mutual
/-- the value stands for the tree; no list in it is one of those at Bd -/
inductive Rp (H : Hp) (Bd : Addr → Prop) : V → D → Prop
  | non : Rp H Bd .non .none
  | bl (b : Bool) : Rp H Bd (.bl b) (.bool b)
  | int (i : Int) : Rp H Bd (.int i) (.int i)
  | str (x : Str) : Rp H Bd (.str x) (.str x)
  | lst {a : Addr} {xs : List V} {ds : List D} : H a = some (.lst xs) → ¬ Bd a → RpAll H Bd xs ds → Rp H Bd (.ref a) (.list ds)
  | frz {a : Addr} {o : Obj} {xs : List V} {ds : List D} : H a = some (.frz o (.lst xs)) → RpAll H Bd xs ds → Rp H Bd (.ref a) (.list ds)
  | tup {a : Addr} {xs : List V} {ds : List D} : H a = some (.tup xs) → RpAll H Bd xs ds → Rp H Bd (.ref a) (.tuple ds)
inductive RpAll (H : Hp) (Bd : Addr → Prop) : List V → List D → Prop
  | nil : RpAll H Bd [] []
  | cons {v : V} {vs : List V} {d : D} {ds : List D} : Rp H Bd v d → RpAll H Bd vs ds → RpAll H Bd (v :: vs) (d :: ds)
end
/-- what may change -/
def Mutb (H : Hp) (a : Addr) : Prop := (∃ xs, H a = some (.lst xs)) ∨ (∃ k, H a = some (.dK k)) ∨ (∃ k, H a = some (.dT k))

mutual
theorem Rp.mono {H H' : Hp} {B B' : Addr → Prop} (hl : ∀ a xs, H a = some (.lst xs) → ¬ B a → H' a = some (.lst xs) ∧ ¬ B' a) (hf : ∀ a o u, H a = some (.frz o u) → H' a = some (.frz o u)) (ht : ∀ a xs, H a = some (.tup xs) → H' a = some (.tup xs)) :
    ∀ {v : V} {d : D}, Rp H B v d → Rp H' B' v d
  | _, _, .non => .non
  | _, _, .bl b => .bl b
  | _, _, .int i => .int i
  | _, _, .str x => .str x
  | _, _, .lst e n r => .lst (hl _ _ e n).1 (hl _ _ e n).2 (RpAll.mono hl hf ht r)
  | _, _, .frz e r => .frz (hf _ _ _ e) (RpAll.mono hl hf ht r)
  | _, _, .tup e r => .tup (ht _ _ e) (RpAll.mono hl hf ht r)
theorem RpAll.mono {H H' : Hp} {B B' : Addr → Prop} (hl : ∀ a xs, H a = some (.lst xs) → ¬ B a → H' a = some (.lst xs) ∧ ¬ B' a) (hf : ∀ a o u, H a = some (.frz o u) → H' a = some (.frz o u)) (ht : ∀ a xs, H a = some (.tup xs) → H' a = some (.tup xs)) :
    ∀ {vs : List V} {ds : List D}, RpAll H B vs ds → RpAll H' B' vs ds
  | _, _, .nil => .nil
  | _, _, .cons r t => .cons (Rp.mono hl hf ht r) (RpAll.mono hl hf ht t)
end
theorem RpAll.length : ∀ {H : Hp} {B : Addr → Prop} {vs : List V} {ds : List D}, RpAll H B vs ds → vs.length = ds.length
  | _, _, _, _, .nil => rfl
  | _, _, _, _, .cons _ t => congrArg Nat.succ (RpAll.length t)
theorem RpAll.get : ∀ {H : Hp} {B : Addr → Prop} {vs : List V} {ds : List D} {i : Nat} {d : D}, RpAll H B vs ds → ds[i]? = some d → ∃ v, vs[i]? = some v ∧ Rp H B v d
  | _, _, _, _, 0, _, .cons r _, e => by
    simp at e
    exact ⟨_, by simp, e ▸ r⟩
  | _, _, _, _, i + 1, _, .cons _ t, e => by
    obtain ⟨v, e1, r1⟩ := RpAll.get (i := i) t (by simpa using e)
    exact ⟨v, by simpa using e1, r1⟩
theorem RpAll.getV : ∀ {H : Hp} {B : Addr → Prop} {vs : List V} {ds : List D} {i : Nat} {v : V}, RpAll H B vs ds → vs[i]? = some v → ∃ d, ds[i]? = some d ∧ Rp H B v d
  | _, _, _, _, 0, _, .cons r _, e => by
    simp at e
    exact ⟨_, by simp, e ▸ r⟩
  | _, _, _, _, i + 1, _, .cons _ t, e => by
    obtain ⟨d, e1, r1⟩ := RpAll.getV (i := i) t (by simpa using e)
    exact ⟨d, by simpa using e1, r1⟩
theorem RpAll.append : ∀ {H : Hp} {B : Addr → Prop} {vs ws : List V} {ds es : List D}, RpAll H B vs ds → RpAll H B ws es → RpAll H B (vs ++ ws) (ds ++ es)
  | _, _, _, _, _, _, .nil, s => s
  | _, _, _, _, _, _, .cons r t, s => .cons r (RpAll.append t s)
theorem RpAll.one {H : Hp} {B : Addr → Prop} {v : V} {d : D} (r : Rp H B v d) : RpAll H B [v] [d] := .cons r .nil
theorem RpAll.take {H : Hp} {B : Addr → Prop} : ∀ {vs : List V} {ds : List D} (n : Nat), RpAll H B vs ds → RpAll H B (vs.take n) (ds.take n)
  | _, _, 0, _ => .nil
  | _, _, _ + 1, .nil => .nil
  | _, _, n + 1, .cons r t => .cons r (RpAll.take n t)
theorem RpAll.drop {H : Hp} {B : Addr → Prop} : ∀ {vs : List V} {ds : List D} (n : Nat), RpAll H B vs ds → RpAll H B (vs.drop n) (ds.drop n)
  | _, _, 0, r => r
  | _, _, _ + 1, .nil => .nil
  | _, _, n + 1, .cons _ t => RpAll.drop n t
theorem RpAll.set {H : Hp} {B : Addr → Prop} {v : V} {d : D} (r : Rp H B v d) : ∀ {vs : List V} {ds : List D} (i : Nat), RpAll H B vs ds → RpAll H B (vs.set i v) (ds.set i d)
  | _, _, _, .nil => .nil
  | _, _, 0, .cons _ t => .cons r t
  | _, _, i + 1, .cons q t => .cons q (RpAll.set r i t)
theorem RpAll.eraseIdx {H : Hp} {B : Addr → Prop} : ∀ {vs : List V} {ds : List D} (i : Nat), RpAll H B vs ds → RpAll H B (vs.eraseIdx i) (ds.eraseIdx i)
  | _, _, _, .nil => .nil
  | _, _, 0, .cons _ t => t
  | _, _, i + 1, .cons q t => .cons q (RpAll.eraseIdx i t)
theorem RpAll.reverse {H : Hp} {B : Addr → Prop} : ∀ {vs : List V} {ds : List D}, RpAll H B vs ds → RpAll H B vs.reverse ds.reverse
  | _, _, .nil => .nil
  | _, _, .cons r t => by
    rw [List.reverse_cons, List.reverse_cons]
    exact (RpAll.reverse t).append (.one r)
theorem RpAll.rep {H : Hp} {B : Addr → Prop} {vs : List V} {ds : List D} (r : RpAll H B vs ds) : ∀ k : Nat, RpAll H B (List.replicate k vs).flatten (List.replicate k ds).flatten
  | 0 => .nil
  | k + 1 => by
    rw [List.replicate_succ, List.replicate_succ, List.flatten_cons, List.flatten_cons]
    exact r.append (RpAll.rep r k)
theorem RpAll.ints {H : Hp} {B : Addr → Prop} : ∀ ns : List Int, RpAll H B (ns.map V.int) (ns.map PyData.int)
  | [] => .nil
  | n :: r => .cons (.int n) (RpAll.ints r)
theorem RpAll.intsV {H : Hp} {B : Addr → Prop} : ∀ {vs : List V} {ns : List Int}, RpAll H B vs (ns.map PyData.int) → vs = ns.map V.int
  | _, [], r => by cases r; rfl
  | _, n :: ns, r => by
    cases r with
    | cons h t =>
      cases h
      rw [RpAll.intsV t]
      rfl
theorem RpAll.blsV {H : Hp} {B : Addr → Prop} : ∀ {vs : List V} {ns : List Bool}, RpAll H B vs (ns.map PyData.bool) → vs = ns.map V.bl
  | _, [], r => by cases r; rfl
  | _, n :: ns, r => by
    cases r with
    | cons h t =>
      cases h
      rw [RpAll.blsV t]
      rfl

mutual
/-- .. as the library's data -/
theorem Rp.dp {K : PySem.W.Frag} {H : Hp} {B : Addr → Prop} : ∀ {v : V} {d : D}, Rp H B v d → Dp K H v d
  | _, _, .non => .non
  | _, _, .bl b => .bl b
  | _, _, .int i => .int i
  | _, _, .str x => .str x
  | _, _, .lst e _ r => .lst (.inl (.inl e)) (RpAll.dp r)
  | _, _, .frz e r => .lst (.inl (.inr ⟨_, e⟩)) (RpAll.dp r)
  | _, _, .tup e r => .tup (.inl (.inl e)) (RpAll.dp r)
theorem RpAll.dp {K : PySem.W.Frag} {H : Hp} {B : Addr → Prop} : ∀ {vs : List V} {ds : List D}, RpAll H B vs ds → DpAll K H vs ds
  | _, _, .nil => .nil
  | _, _, .cons r t => .cons (Rp.dp r) (RpAll.dp t)
end
/-- the list's items -/
theorem Rp.list {K : PySem.W.Frag} {H : Hp} {B : Addr → Prop} {v : V} {ds : List D} (r : Rp H B v (.list ds)) : ∃ a xs, v = .ref a ∧ SqL K H a xs ∧ RpAll H B xs ds := by
  cases r with
  | lst e _ r => exact ⟨_, _, rfl, .inl (.inl e), r⟩
  | frz e r => exact ⟨_, _, rfl, .inl (.inr ⟨_, e⟩), r⟩
theorem Rp.tuple {H : Hp} {B : Addr → Prop} {v : V} {ds : List D} (r : Rp H B v (.tuple ds)) : ∃ a xs, v = .ref a ∧ H a = some (.tup xs) ∧ RpAll H B xs ds := by
  cases r with
  | tup e r => exact ⟨_, _, rfl, e, r⟩
theorem Rp.intV {H : Hp} {B : Addr → Prop} {v : V} {i : Int} (r : Rp H B v (.int i)) : v = .int i := by cases r; rfl
theorem Rp.blV {H : Hp} {B : Addr → Prop} {v : V} {b : Bool} (r : Rp H B v (.bool b)) : v = .bl b := by cases r; rfl
theorem Rp.strV {H : Hp} {B : Addr → Prop} {v : V} {x : Str} (r : Rp H B v (.str x)) : v = .str x := by cases r; rfl
theorem Rp.nonV {H : Hp} {B : Addr → Prop} {v : V} (r : Rp H B v .none) : v = .non := by cases r; rfl

mutual
/-- no list in it -/
def lfree : D → Bool
  | .list _ => false
  | .tuple xs => lfreeAll xs
  | .dict _ => false
  | _ => true
def lfreeAll : List D → Bool
  | [] => true
  | x :: xs => lfree x && lfreeAll xs
end
mutual
theorem Rp.free {H : Hp} {B B' : Addr → Prop} : ∀ {v : V} {d : D}, Rp H B v d → lfree d = true → Rp H B' v d
  | _, _, .non, _ => .non
  | _, _, .bl b, _ => .bl b
  | _, _, .int i, _ => .int i
  | _, _, .str x, _ => .str x
  | _, _, .lst _ _ _, h => by simp [lfree] at h
  | _, _, .frz _ _, h => by simp [lfree] at h
  | _, _, .tup e r, h => .tup e (RpAll.free r (by simpa [lfree] using h))
theorem RpAll.free {H : Hp} {B B' : Addr → Prop} : ∀ {vs : List V} {ds : List D}, RpAll H B vs ds → lfreeAll ds = true → RpAll H B' vs ds
  | _, _, .nil, _ => .nil
  | _, _, .cons r t, h => by
    rw [lfreeAll, Bool.and_eq_true] at h
    exact .cons (Rp.free r h.1) (RpAll.free t h.2)
end

/-! ### lists of one's own -/
mutual
/-- the value stands for the tree, its lists (A) are one's own -/
inductive Ow (H : Hp) (Bd : Addr → Prop) : V → D → List Addr → Prop
  | frz {v : V} {d : D} : Rp H Bd v d → Ow H Bd v d []
  | lst {a : Addr} {xs : List V} {ds : List D} {A : List Addr} : H a = some (.lst xs) → OwAll H Bd xs ds A → Ow H Bd (.ref a) (.list ds) (a :: A)
inductive OwAll (H : Hp) (Bd : Addr → Prop) : List V → List D → List Addr → Prop
  | nil : OwAll H Bd [] [] []
  | cons {v : V} {vs : List V} {d : D} {ds : List D} {A A' : List Addr} : Ow H Bd v d A → OwAll H Bd vs ds A' → OwAll H Bd (v :: vs) (d :: ds) (A ++ A')
end
mutual
theorem Ow.mono {H H' : Hp} {B B' : Addr → Prop} (hl : ∀ a xs, H a = some (.lst xs) → ¬ B a → H' a = some (.lst xs) ∧ ¬ B' a) (hf : ∀ a o u, H a = some (.frz o u) → H' a = some (.frz o u)) (ht : ∀ a xs, H a = some (.tup xs) → H' a = some (.tup xs)) :
    ∀ {v : V} {d : D} {A : List Addr}, Ow H B v d A → (∀ a ∈ A, ∀ o, H a = some o → H' a = some o) → Ow H' B' v d A
  | _, _, _, .frz r, _ => .frz (r.mono hl hf ht)
  | _, _, _, .lst e r, k => .lst (k _ (by simp) _ e) (OwAll.mono hl hf ht r fun a ha => k a (by simp [ha]))
theorem OwAll.mono {H H' : Hp} {B B' : Addr → Prop} (hl : ∀ a xs, H a = some (.lst xs) → ¬ B a → H' a = some (.lst xs) ∧ ¬ B' a) (hf : ∀ a o u, H a = some (.frz o u) → H' a = some (.frz o u)) (ht : ∀ a xs, H a = some (.tup xs) → H' a = some (.tup xs)) :
    ∀ {vs : List V} {ds : List D} {A : List Addr}, OwAll H B vs ds A → (∀ a ∈ A, ∀ o, H a = some o → H' a = some o) → OwAll H' B' vs ds A
  | _, _, _, .nil, _ => .nil
  | _, _, _, .cons r t, k => .cons (Ow.mono hl hf ht r fun a ha => k a (by simp [ha])) (OwAll.mono hl hf ht t fun a ha => k a (by simp [ha]))
end
mutual
/-- read as it stands -/
theorem Ow.rp {H : Hp} {B : Addr → Prop} : ∀ {v : V} {d : D} {A : List Addr}, Ow H B v d A → Rp H (fun _ => False) v d
  | _, _, _, .frz r => r.mono (fun _ _ e _ => ⟨e, id⟩) (fun _ _ _ e => e) (fun _ _ e => e)
  | _, _, _, .lst e r => .lst e id (OwAll.rp r)
theorem OwAll.rp {H : Hp} {B : Addr → Prop} : ∀ {vs : List V} {ds : List D} {A : List Addr}, OwAll H B vs ds A → RpAll H (fun _ => False) vs ds
  | _, _, _, .nil => .nil
  | _, _, _, .cons r t => .cons (Ow.rp r) (OwAll.rp t)
end
theorem OwAll.flat {H : Hp} {B : Addr → Prop} : ∀ {vs : List V} {ds : List D} {A : List Addr}, OwAll H B vs ds A → A = [] → RpAll H B vs ds
  | _, _, _, .nil, _ => .nil
  | _, _, _, .cons r t, e => by
    obtain ⟨e1, e2⟩ := List.append_eq_nil_iff.mp e
    subst e1
    cases r with
    | frz r => exact .cons r (OwAll.flat t e2)
theorem RpAll.ow {H : Hp} {B : Addr → Prop} : ∀ {vs : List V} {ds : List D}, RpAll H B vs ds → OwAll H B vs ds []
  | _, _, .nil => .nil
  | _, _, .cons r t => by
    have h := OwAll.cons (Ow.frz r) (RpAll.ow t)
    simpa using h
mutual
theorem Ow.tracked {H : Hp} {B : Addr → Prop} : ∀ {v : V} {d : D} {A : List Addr}, Ow H B v d A → ∀ a ∈ A, ∃ xs, H a = some (.lst xs)
  | _, _, _, .frz _, a, h => by simp at h
  | _, _, _, .lst e r, a, h => by
    rcases List.mem_cons.mp h with rfl | h
    · exact ⟨_, e⟩
    · exact OwAll.tracked r a h
theorem OwAll.tracked {H : Hp} {B : Addr → Prop} : ∀ {vs : List V} {ds : List D} {A : List Addr}, OwAll H B vs ds A → ∀ a ∈ A, ∃ xs, H a = some (.lst xs)
  | _, _, _, .nil, a, h => by simp at h
  | _, _, _, .cons r t, a, h => by
    rcases List.mem_append.mp h with h | h
    · exact Ow.tracked r a h
    · exact OwAll.tracked t a h
end
/-! ### a slot's value: it may be a dict of one's own -/
def keyD1 : L2.Key → D
  | .inl i => .int i
  | .inr x => .str x
def keyD (k : List L2.Key) : D := .tuple (k.map keyD1)
abbrev KvT {κ : Type} (H : Hp) (Bd : Addr → Prop) (g : κ → D) : List (κ × V) → List (D × D) → Prop := Paired fun p q => q.1 = g p.1 ∧ Rp H Bd p.2 q.2
theorem KvT.mono {κ : Type} {g : κ → D} {H H' : Hp} {B B' : Addr → Prop} (hl : ∀ a xs, H a = some (.lst xs) → ¬ B a → H' a = some (.lst xs) ∧ ¬ B' a) (hf : ∀ a o u, H a = some (.frz o u) → H' a = some (.frz o u)) (ht : ∀ a xs, H a = some (.tup xs) → H' a = some (.tup xs)) :
    ∀ {kvs : List (κ × V)} {es : List (D × D)}, KvT H B g kvs es → KvT H' B' g kvs es
  | _, _, .nil => .nil
  | _, _, .cons r t => .cons ⟨r.1, r.2.mono hl hf ht⟩ (KvT.mono hl hf ht t)
inductive OwT (H : Hp) (Bd : Addr → Prop) : V → D → List Addr → Prop
  | ow {v : V} {d : D} {A : List Addr} : Ow H Bd v d A → OwT H Bd v d A
  | dT {a : Addr} {kvs : List (List L2.Key × V)} {es : List (D × D)} : H a = some (.dT kvs) → KvT H Bd keyD kvs es → OwT H Bd (.ref a) (.dict es) [a]
  | dK {a : Addr} {kvs : List (L2.Key × V)} {es : List (D × D)} : H a = some (.dK kvs) → KvT H Bd keyD1 kvs es → OwT H Bd (.ref a) (.tuple [.dict es]) [a]
theorem OwT.mono {H H' : Hp} {B B' : Addr → Prop} (hl : ∀ a xs, H a = some (.lst xs) → ¬ B a → H' a = some (.lst xs) ∧ ¬ B' a) (hf : ∀ a o u, H a = some (.frz o u) → H' a = some (.frz o u)) (ht : ∀ a xs, H a = some (.tup xs) → H' a = some (.tup xs)) :
    ∀ {v : V} {d : D} {A : List Addr}, OwT H B v d A → (∀ a ∈ A, ∀ o, H a = some o → H' a = some o) → OwT H' B' v d A
  | _, _, _, .ow r, k => .ow (r.mono hl hf ht k)
  | _, _, _, .dT e r, k => .dT (k _ (by simp) _ e) (r.mono hl hf ht)
  | _, _, _, .dK e r, k => .dK (k _ (by simp) _ e) (r.mono hl hf ht)
end FV
end
section
set_option Elab.async false
set_option linter.all false
set_option maxRecDepth 100000
set_option maxHeartbeats 4000000
/-! The slots of a frame as trees; what an expression does to them. -/
namespace FV
open PySem PySem.Spec PyProof.Rows L2
abbrev Sg := L2.St

/-- a frame: the slots whose lists are its own; those of them whose items are not; what may not be touched -/
structure Cf where
  own : List Nat
  flat : List Nat
  F : Addr → Prop
  lo : List Nat
abbrev Fp := Nat → List Addr
def Bd (c : Cf) (fp : Fp) (a : Addr) : Prop := c.F a ∨ ∃ i ∈ c.own, a ∈ fp i
def gt (S : Sl) (i : Nat) : Option D := (S[i]?).join

structure Rel (c : Cf) (fp : Fp) (σ : Sg) (S : Sl) (H : Hp) : Prop where
  len : S.length = σ.length
  own : ∀ i ∈ c.own, ∀ d, gt S i = some d → ∃ v, σ[i]? = some (some v) ∧ OwT H (Bd c fp) v d (fp i)
  frz : ∀ i, i ∉ c.own → ∀ d, gt S i = some d → ∃ v, σ[i]? = some (some v) ∧ Rp H (Bd c fp) v d
  nd : ∀ i ∈ c.own, (fp i).Nodup
  dj : ∀ i ∈ c.own, ∀ j ∈ c.own, i ≠ j → ∀ a ∈ fp i, a ∉ fp j
  nf : ∀ i ∈ c.own, ∀ a ∈ fp i, ¬ c.F a
  mt : ∀ a, Bd c fp a → Mutb H a
  fl : ∀ i ∈ c.flat, (fp i).length ≤ 1
  tk : ∀ i ∈ c.own, ∀ ds, gt S i = some (.list ds) → fp i ≠ []

structure Chg (c : Cf) (wr : List Nat) (fp : Fp) (H : Hp) (fp' : Fp) (H' : Hp) : Prop where
  keep : ∀ a o, H a = some o → (∀ i ∈ c.own, i ∈ wr → a ∉ fp i) → H' a = some o
  same : ∀ i, i ∉ wr → fp' i = fp i
  new : ∀ i ∈ c.own, ∀ a ∈ fp' i, a ∈ fp i ∨ (i ∈ c.lo ∧ ∃ j ∈ c.own, j ∈ c.lo ∧ j ∈ wr ∧ a ∈ fp j) ∨ H a = none
  live : ∀ a, H a ≠ none → H' a ≠ none

theorem Chg.refl {c : Cf} {fp : Fp} {H : Hp} : Chg c [] fp H fp H := ⟨fun _ _ e _ => e, fun _ _ => rfl, fun _ _ _ h => .inl h, fun _ h => h⟩
theorem Chg.trans {c : Cf} {w1 w2 : List Nat} {f0 f1 f2 : Fp} {H0 H1 H2 : Hp} (a : Chg c w1 f0 H0 f1 H1) (b : Chg c w2 f1 H1 f2 H2) : Chg c (w1 ++ w2) f0 H0 f2 H2 where
  keep := fun x o e n => by
    refine b.keep x o (a.keep x o e fun i hi hw => n i hi (by simp [hw])) fun i hi hw q => ?_
    rcases a.new i hi x q with z | ⟨_, j, hj, _, hjw, z⟩ | z
    · exact n i hi (by simp [hw]) z
    · exact n j hj (by simp [hjw]) z
    · rw [z] at e; cases e
  same := fun i h => by
    rw [b.same i (fun z => h (by simp [z])), a.same i (fun z => h (by simp [z]))]
  new := fun i hi x q => by
    rcases b.new i hi x q with z | ⟨h1, j, hj, hjl, hjw, z⟩ | z
    · rcases a.new i hi x z with y | ⟨h2, k, hk, hkl, hkw, y⟩ | y
      · exact .inl y
      · exact .inr (.inl ⟨h2, k, hk, hkl, by simp [hkw], y⟩)
      · exact .inr (.inr y)
    · rcases a.new j hj x z with y | ⟨h2, k, hk, hkl, hkw, y⟩ | y
      · exact .inr (.inl ⟨h1, j, hj, hjl, by simp [hjw], y⟩)
      · exact .inr (.inl ⟨h1, k, hk, hkl, by simp [hkw], y⟩)
      · exact .inr (.inr y)
    · refine .inr (.inr ?_)
      cases e : H0 x with
      | none => rfl
      | some o => exact absurd z (a.live x (by rw [e]; simp))
  live := fun x h => b.live x (a.live x h)
theorem Chg.wide {c : Cf} {w1 w2 : List Nat} {f0 f1 : Fp} {H0 H1 : Hp} (a : Chg c w1 f0 H0 f1 H1) (h : ∀ i ∈ w1, i ∈ w2) : Chg c w2 f0 H0 f1 H1 :=
  ⟨fun x o e n => a.keep x o e fun i hi hw => n i hi (h i hw), fun i hi => a.same i fun z => hi (h i z), fun i hi x q => by
    rcases a.new i hi x q with z | ⟨h1, j, hj, hjl, hjw, z⟩ | z
    · exact .inl z
    · exact .inr (.inl ⟨h1, j, hj, hjl, h j hjw, z⟩)
    · exact .inr (.inr z), a.live⟩
theorem Chg.ext {c : Cf} {fp : Fp} {H H' : Hp} (h : Same H H') : Chg c [] fp H fp H' :=
  ⟨fun x o e _ => h x o e, fun _ _ => rfl, fun _ _ _ h => .inl h, fun x hx => by
    cases e : H x with
    | none => exact absurd e hx
    | some o => rw [h x o e]; simp⟩
/-- nothing written: all stands -/
theorem Chg.all {c : Cf} {fp fp' : Fp} {H H' : Hp} (h : Chg c [] fp H fp' H') : Same H H' ∧ fp' = fp :=
  ⟨fun a o e => h.keep a o e (by simp), funext fun i => h.same i (by simp)⟩
theorem Bd.live {c : Cf} {fp : Fp} {σ : Sg} {S : Sl} {H : Hp} (R : Rel c fp σ S H) {a : Addr} (h : Bd c fp a) : H a ≠ none := by
  rcases R.mt a h with ⟨x, e⟩ | ⟨x, e⟩ | ⟨x, e⟩ <;> rw [e] <;> simp
theorem Bd.nofrz {c : Cf} {fp : Fp} {σ : Sg} {S : Sl} {H : Hp} (R : Rel c fp σ S H) {a : Addr} {o : Obj} {u : HO} (e : H a = some (.frz o u)) : ¬ Bd c fp a := fun h => by
  rcases R.mt a h with ⟨x, e'⟩ | ⟨x, e'⟩ | ⟨x, e'⟩ <;> rw [e] at e' <;> cases e'
theorem Bd.notup {c : Cf} {fp : Fp} {σ : Sg} {S : Sl} {H : Hp} (R : Rel c fp σ S H) {a : Addr} {u : List V} (e : H a = some (.tup u)) : ¬ Bd c fp a := fun h => by
  rcases R.mt a h with ⟨x, e'⟩ | ⟨x, e'⟩ | ⟨x, e'⟩ <;> rw [e] at e' <;> cases e'
section
variable {c : Cf} {fp fp' : Fp} {σ : Sg} {S : Sl} {H H' : Hp} {wr : List Nat}
theorem Chg.bd (C : Chg c wr fp H fp' H') {a : Addr} (h : ¬ Bd c fp a) (l : H a ≠ none) : ¬ Bd c fp' a := by
  rintro (z | ⟨i, hi, z⟩)
  · exact h (.inl z)
  · rcases C.new i hi a z with q | ⟨_, j, hj, _, _, q⟩ | q
    · exact h (.inr ⟨i, hi, q⟩)
    · exact h (.inr ⟨j, hj, q⟩)
    · exact l q
theorem Chg.keepN (C : Chg c wr fp H fp' H') {a : Addr} {o : HO} (e : H a = some o) (h : ¬ Bd c fp a) : H' a = some o := C.keep a o e fun i hi _ q => h (.inr ⟨i, hi, q⟩)
theorem Rp.chg (R : Rel c fp σ S H) (C : Chg c wr fp H fp' H') {v : V} {d : D} (r : Rp H (Bd c fp) v d) : Rp H' (Bd c fp') v d :=
  r.mono (fun a xs e n => ⟨C.keepN e n, C.bd n (by rw [e]; simp)⟩) (fun a o u e => C.keepN e (Bd.nofrz R e)) fun a xs e => C.keepN e (Bd.notup R e)
theorem RpAll.chg (R : Rel c fp σ S H) (C : Chg c wr fp H fp' H') {v : List V} {d : List D} (r : RpAll H (Bd c fp) v d) : RpAll H' (Bd c fp') v d :=
  r.mono (fun a xs e n => ⟨C.keepN e n, C.bd n (by rw [e]; simp)⟩) (fun a o u e => C.keepN e (Bd.nofrz R e)) fun a xs e => C.keepN e (Bd.notup R e)
theorem Rp.same {B : Addr → Prop} (h : Same H H') {v : V} {d : D} (r : Rp H B v d) : Rp H' B v d :=
  r.mono (fun a xs e n => ⟨h a _ e, n⟩) (fun a o u e => h a _ e) fun a xs e => h a _ e
theorem RpAll.same {B : Addr → Prop} (h : Same H H') {v : List V} {d : List D} (r : RpAll H B v d) : RpAll H' B v d :=
  r.mono (fun a xs e n => ⟨h a _ e, n⟩) (fun a o u e => h a _ e) fun a xs e => h a _ e
/-- new objects -/
theorem Rel.ext (R : Rel c fp σ S H) (h : Same H H') : Rel c fp σ S H' where
  len := R.len
  own := fun i hi d e => by
    obtain ⟨v, e1, r⟩ := R.own i hi d e
    exact ⟨v, e1, r.mono (fun a xs e n => ⟨h a _ e, n⟩) (fun a o u e => h a _ e) (fun a xs e => h a _ e) fun a _ xs e => h a _ e⟩
  frz := fun i hi d e => by
    obtain ⟨v, e1, r⟩ := R.frz i hi d e
    exact ⟨v, e1, r.same h⟩
  nd := R.nd
  dj := R.dj
  nf := R.nf
  mt := fun a ha => by
    rcases R.mt a ha with ⟨x, e⟩ | ⟨x, e⟩ | ⟨x, e⟩
    · exact .inl ⟨x, h a _ e⟩
    · exact .inr (.inl ⟨x, h a _ e⟩)
    · exact .inr (.inr ⟨x, h a _ e⟩)
  fl := R.fl
  tk := R.tk
end
theorem same_upd {H : Hp} {p : Addr} {o : HO} (h : H p = none) : Same H (upd H p o) := fun b x e => by
  rw [upd_ne (ne_of_none e h)]
  exact e

/-! ### values by how they are held -/
inductive Md where
  /-- no list in it is one's own -/
  | fz
  /-- a list that may be one's own, of items that are not -/
  | sh
  /-- anything, as it stands -/
  | bo
  deriving DecidableEq
def RpM (c : Cf) (fp : Fp) : Md → Hp → V → D → Prop
  | .fz, H, v, d => Rp H (Bd c fp) v d
  | .sh, H, v, d => Rp H (Bd c fp) v d ∨ ∃ a xs ds, v = .ref a ∧ d = .list ds ∧ H a = some (.lst xs) ∧ RpAll H (Bd c fp) xs ds
  | .bo, H, v, d => Rp H (fun _ => False) v d
section
variable {c : Cf} {fp fp' : Fp} {σ : Sg} {S : Sl} {H H' : Hp} {wr : List Nat} {m : Md} {v : V} {d : D}
theorem Rp.fal {B : Addr → Prop} (r : Rp H B v d) : Rp H (fun _ => False) v d := r.mono (fun _ _ e _ => ⟨e, id⟩) (fun _ _ _ e => e) (fun _ _ e => e)
theorem RpAll.fal {B : Addr → Prop} {v : List V} {d : List D} (r : RpAll H B v d) : RpAll H (fun _ => False) v d := r.mono (fun _ _ e _ => ⟨e, id⟩) (fun _ _ _ e => e) (fun _ _ e => e)
theorem RpM.bo (r : RpM c fp m H v d) : Rp H (fun _ => False) v d := by
  cases m with
  | fz => exact Rp.fal r
  | sh =>
    rcases r with r | ⟨a, xs, ds, rfl, rfl, e, r⟩
    · exact Rp.fal r
    · exact .lst e id r.fal
  | bo => exact r
theorem RpM.chg (R : Rel c fp σ S H) (C : Chg c wr fp H fp' H') (h : m = .fz ∨ wr = []) (r : RpM c fp m H v d) : RpM c fp' m H' v d := by
  rcases h with rfl | rfl
  · exact Rp.chg R C r
  · obtain ⟨s, rfl⟩ := C.all
    cases m with
    | fz => exact Rp.same s r
    | sh =>
      rcases r with r | ⟨a, xs, ds, e1, e2, e, r⟩
      · exact .inl (r.same s)
      · exact .inr ⟨a, xs, ds, e1, e2, s _ _ e, r.same s⟩
    | bo => exact Rp.same s r
theorem RpM.same (s : Same H H') (r : RpM c fp m H v d) : RpM c fp m H' v d := by
  cases m with
  | fz => exact Rp.same s r
  | sh =>
    rcases r with r | ⟨a, xs, ds, e1, e2, e, r⟩
    · exact .inl (r.same s)
    · exact .inr ⟨a, xs, ds, e1, e2, s _ _ e, r.same s⟩
  | bo => exact Rp.same s r
/-- what its items avoid -/
def ItB (c : Cf) (fp : Fp) : Md → Addr → Prop
  | .bo => fun _ => False
  | _ => Bd c fp
theorem RpM.list {K : PySem.W.Frag} {ds : List D} (r : RpM c fp m H v (.list ds)) : ∃ a xs, v = .ref a ∧ SqL K H a xs ∧ RpAll H (ItB c fp m) xs ds := by
  cases m with
  | fz => exact Rp.list r
  | sh =>
    rcases r with r | ⟨a, xs, ds', rfl, e2, e, r⟩
    · exact Rp.list r
    · cases e2
      exact ⟨a, xs, rfl, .inl (.inl e), r⟩
  | bo => exact Rp.list r
theorem RpM.tuple {ds : List D} (r : RpM c fp m H v (.tuple ds)) : ∃ a xs, v = .ref a ∧ H a = some (.tup xs) ∧ RpAll H (ItB c fp m) xs ds := by
  cases m with
  | fz => exact Rp.tuple r
  | sh =>
    rcases r with r | ⟨a, xs, ds', rfl, e2, e, r⟩
    · exact Rp.tuple r
    · cases e2
  | bo => exact Rp.tuple r
theorem RpM.intV {i : Int} (r : RpM c fp m H v (.int i)) : v = .int i := r.bo.intV
theorem RpM.blV {i : Bool} (r : RpM c fp m H v (.bool i)) : v = .bl i := r.bo.blV
theorem RpM.strV {i : Str} (r : RpM c fp m H v (.str i)) : v = .str i := r.bo.strV
theorem RpM.free (r : RpM c fp m H v d) (h : lfree d = true) : RpM c fp .fz H v d := Rp.free r.bo h
end

/-! ### what an expression does -/
abbrev SM := Sl → Option (D × Sl)
abbrev SL := Sl → Option (List D × Sl)
def tE (c : Cf) (wr : List Nat) (m : Md) (f : SM) : TE := fun σ H Q => ∃ fp S, Rel c fp σ S H ∧ ∃ d S', f S = some (d, S') ∧ ∀ v H' fp', Rel c fp' σ S' H' → Chg c wr fp H fp' H' → RpM c fp' m H' v d → Q v H'
def tT (c : Cf) (wr : List Nat) (f : SM) : TT := fun σ H Q => ∃ fp S, Rel c fp σ S H ∧ ∃ b S', f S = some (.bool b, S') ∧ ∀ H' fp', Rel c fp' σ S' H' → Chg c wr fp H fp' H' → Q b H'
/-- several values, kept while the later ones come -/
def RpMs (c : Cf) (fp : Fp) : List Md → Hp → List V → List D → Prop
  | [], _, [], [] => True
  | m :: ms, H, v :: vs, d :: ds => RpM c fp m H v d ∧ RpMs c fp ms H vs ds
  | _, _, _, _ => False
def tA (c : Cf) (wr : List Nat) (ms : List Md) (f : SL) : TA := fun σ H Q => ∃ fp S, Rel c fp σ S H ∧ ∃ ds S', f S = some (ds, S') ∧ ∀ vs H' fp', Rel c fp' σ S' H' → Chg c wr fp H fp' H' → RpMs c fp' ms H' vs ds → Q vs H'
abbrev SE (c : Cf) (X : Cx) (e : Expr) (wr : List Nat) (m : Md) (f : SM) : Prop := PE X e (tE c wr m f)
abbrev ST (c : Cf) (X : Cx) (e : Expr) (wr : List Nat) (f : SM) : Prop := PT X e (tT c wr f)
abbrev SW (c : Cf) (X : Cx) (e : Expr) (wr : List Nat) (f : SM) : Prop := PW X e (tT c wr f)
abbrev SA (c : Cf) (X : Cx) (es : List Expr) (wr : List Nat) (ms : List Md) (f : SL) : Prop := PA X es (tA c wr ms f)
theorem peImp {X : Cx} {e : Expr} {t t' : TE} (h : PE X e t) (i : ∀ σ H Q, t' σ H Q → t σ H Q) : PE X e t' := ⟨fun pins s σ H Q I q => h.run pins s σ H Q I (i σ H Q q)⟩
theorem ptImp {X : Cx} {e : Expr} {t t' : TT} (h : PT X e t) (i : ∀ σ H Q, t' σ H Q → t σ H Q) : PT X e t' := ⟨fun pins s σ H Q I q => h.run pins s σ H Q I (i σ H Q q)⟩
theorem pwImp {X : Cx} {e : Expr} {t t' : TT} (h : PW X e t) (i : ∀ σ H Q, t' σ H Q → t σ H Q) : PW X e t' := ⟨fun wh pins s σ H Q I q => h.run wh pins s σ H Q I (i σ H Q q)⟩
theorem paImp {X : Cx} {e : List Expr} {t t' : TA} (h : PA X e t) (i : ∀ σ H Q, t' σ H Q → t σ H Q) : PA X e t' := ⟨fun p pins s σ H Q I q => h.run p pins s σ H Q I (i σ H Q q)⟩

def mVar (i : Nat) : SM := fun S => (gt S i).map fun d => (d, S)
def mC (d : D) : SM := fun S => some (d, S)
def m1 (g : D → Option D) (a : SM) : SM := fun S => (a S).bind fun r => (g r.1).map fun z => (z, r.2)
def m2 (g : D → D → Option D) (a b : SM) : SM := fun S => (a S).bind fun r => (b r.2).bind fun q => (g r.1 q.1).map fun z => (z, q.2)
def mL (g : List D → Option D) (a : SL) : SM := fun S => (a S).bind fun r => (g r.1).map fun z => (z, r.2)
def mNil : SL := fun S => some ([], S)
def mCons (a : SM) (b : SL) : SL := fun S => (a S).bind fun r => (b r.2).map fun q => (r.1 :: q.1, q.2)
def mIf (t a b : SM) : SM := fun S => (t S).bind fun r => match r.1 with
  | .bool true => a r.2
  | .bool false => b r.2
  | _ => none
def mAnd (a b : SM) : SM := fun S => (a S).bind fun r => match r.1 with
  | .bool true => b r.2
  | .bool false => some (.bool false, r.2)
  | _ => none
def mOr (a b : SM) : SM := fun S => (a S).bind fun r => match r.1 with
  | .bool true => some (.bool true, r.2)
  | .bool false => b r.2
  | _ => none
def gNot : D → Option D
  | .bool b => some (.bool !b)
  | _ => none
def gFree (d : D) : Option D := if lfree d = true then some d else none
section
variable {c : Cf} {X : Cx} {e a b : Expr} {pos : Pos} {wr w1 w2 w3 : List Nat} {m m1' m2' : Md} {f fa fb fc : SM}
/-- forget how it is held, where there is no list in it -/
theorem se_free (h : SE c X e wr m f) : SE c X e wr .fz (FV.m1 gFree f) := peImp h fun σ H Q ⟨fp, S, R, d, S', e, q⟩ => by
  unfold FV.m1 at e
  cases hf : f S with
  | none => rw [hf] at e; cases e
  | some r =>
    obtain ⟨x, S1⟩ := r
    rw [hf] at e
    unfold gFree at e
    by_cases hl : lfree x = true
    · simp only [Option.bind_some, if_pos hl, Option.map_some, Option.some.injEq, Prod.mk.injEq] at e
      obtain ⟨rfl, rfl⟩ := e
      exact ⟨fp, S, R, _, _, hf, fun v H' fp' R' C r => q v H' fp' R' C (r.free hl)⟩
    · simp only [Option.bind_some, if_neg hl, Option.map_none] at e
      cases e
theorem se_wide (h : SE c X e wr m f) (hw : ∀ i ∈ wr, i ∈ w1) : SE c X e w1 m f := peImp h fun σ H Q ⟨fp, S, R, d, S', e, q⟩ => ⟨fp, S, R, d, S', e, fun v H' fp' R' C r => q v H' fp' R' (C.wide hw) r⟩
theorem st_wide (h : ST c X e wr f) (hw : ∀ i ∈ wr, i ∈ w1) : ST c X e w1 f := ptImp h fun σ H Q ⟨fp, S, R, d, S', e, q⟩ => ⟨fp, S, R, d, S', e, fun H' fp' R' C => q H' fp' R' (C.wide hw)⟩
theorem RpM.weak {fp : Fp} {H : Hp} {v : V} {d : D} {m m' : Md} (r : RpM c fp m H v d) (h : m = m' ∨ m' = .bo ∨ (m = .fz ∧ m' = .sh)) : RpM c fp m' H v d := by
  rcases h with rfl | rfl | ⟨rfl, rfl⟩
  · exact r
  · exact r.bo
  · exact .inl r
theorem se_weak (h : SE c X e wr m f) {m' : Md} (hm : m = m' ∨ m' = .bo ∨ (m = .fz ∧ m' = .sh)) : SE c X e wr m' f := peImp h fun σ H Q ⟨fp, S, R, d, S', e, q⟩ => ⟨fp, S, R, d, S', e, fun v H' fp' R' C r => q v H' fp' R' C (r.weak hm)⟩
/-- a slot that is read -/
theorem se_var {i : Nat} {x : Str} (hN : X.N[i]? = some x) (hv : Vis X.env.scope x) (hd : (x == ("__debug__" : Str)) = false) (hcd : (x == ("__classdict__" : Str)) = false) (hi : i ∉ c.own) : SE c X (.Name x pos) [] .fz (mVar i) :=
  peImp (pe_var hN hv hd hcd) fun σ H Q ⟨fp, S, R, d, S', e, q⟩ => by
    unfold mVar at e
    cases hg : gt S i with
    | none => rw [hg] at e; cases e
    | some d' =>
      rw [hg] at e
      cases e
      obtain ⟨v, e1, r⟩ := R.frz i hi _ hg
      exact ⟨v, e1, q v H fp R .refl r⟩
/-- one's own list, read -/
def mVarO (i : Nat) : SM := fun S => match gt S i with
  | some (.dict _) => none
  | some (.tuple [.dict _]) => none
  | some d => some (d, S)
  | none => none
theorem se_varO {i : Nat} {x : Str} (hN : X.N[i]? = some x) (hv : Vis X.env.scope x) (hd : (x == ("__debug__" : Str)) = false) (hcd : (x == ("__classdict__" : Str)) = false) (hi : i ∈ c.own) (hf : i ∈ c.flat) : SE c X (.Name x pos) [] .sh (mVarO i) :=
  peImp (pe_var hN hv hd hcd) fun σ H Q ⟨fp, S, R, d, S', e, q⟩ => by
    unfold mVarO at e
    split at e
    · cases e
    · cases e
    · rename_i d' hnd hnd2 hg
      cases e
      obtain ⟨v, e1, r⟩ := R.own i hi _ hg
      refine ⟨v, e1, q v H fp R .refl ?_⟩
      have hl := R.fl i hf
      generalize hA : fp i = A at r hl
      cases r with
      | ow r =>
        cases r with
        | frz r => exact .inl r
        | lst e2 r =>
          refine .inr ⟨_, _, _, rfl, rfl, e2, r.flat ?_⟩
          simpa using hl
      | dT => exact (hnd _ rfl).elim
      | dK => exact (hnd2 _ rfl).elim
    · cases e
theorem se_const {t : TE} {d : D} {v : V} (h : PE X e (tC v)) (hr : ∀ H B, Rp H B v d) : SE c X e [] .fz (mC d) := peImp h fun σ H Q ⟨fp, S, R, d', S', e, q⟩ => by
  cases e
  exact q v H fp R .refl (hr _ _)
/-- an operation by its values -/
def Op1 (r : V → Hp → VK → Prop) (c : Cf) (m m' : Md) (g : D → Option D) : Prop :=
  ∀ (fp : Fp) (σ : Sg) (S : Sl) (H : Hp) (v : V) (x z : D) (Q : VK), Rel c fp σ S H → RpM c fp m H v x → g x = some z → (∀ u H', Same H H' → RpM c fp m' H' u z → Q u H') → r v H Q
def Op2 (r : R2) (c : Cf) (ma mb m' : Md) (g : D → D → Option D) : Prop :=
  ∀ (fp : Fp) (σ : Sg) (S : Sl) (H : Hp) (v w : V) (x y z : D) (Q : VK), Rel c fp σ S H → RpM c fp ma H v x → RpM c fp mb H w y → g x y = some z → (∀ u H', Same H H' → RpM c fp m' H' u z → Q u H') → r v w H Q
theorem m1_inv {g : D → Option D} {S S' : Sl} {z : D} (h : FV.m1 g f S = some (z, S')) : ∃ x, f S = some (x, S') ∧ g x = some z := by
  unfold FV.m1 at h
  cases hf : f S with
  | none => rw [hf] at h; cases h
  | some r =>
    obtain ⟨x, S1⟩ := r
    rw [hf] at h
    simp only [Option.bind_some] at h
    cases hg : g x with
    | none => rw [hg] at h; cases h
    | some z' =>
      rw [hg] at h
      cases h
      exact ⟨x, rfl, hg⟩
theorem m2_inv {g : D → D → Option D} {S S' : Sl} {z : D} (h : FV.m2 g fa fb S = some (z, S')) : ∃ x S1 y, fa S = some (x, S1) ∧ fb S1 = some (y, S') ∧ g x y = some z := by
  unfold FV.m2 at h
  cases hf : fa S with
  | none => rw [hf] at h; cases h
  | some r =>
    obtain ⟨x, S1⟩ := r
    rw [hf] at h
    simp only [Option.bind_some] at h
    cases hb : fb S1 with
    | none => rw [hb] at h; cases h
    | some q =>
      obtain ⟨y, S2⟩ := q
      rw [hb] at h
      simp only [Option.bind_some] at h
      cases hg : g x y with
      | none => rw [hg] at h; cases h
      | some z' =>
        rw [hg] at h
        cases h
        exact ⟨x, S1, y, rfl, hb, hg⟩
theorem t_un {r : V → Hp → VK → Prop} {g : D → Option D} {m' : Md} (ho : Op1 r c m m' g) {σ : Sg} {H : Hp} {Q : VK} (h : tE c wr m' (FV.m1 g f) σ H Q) : tE c wr m f σ H fun x H1 => r x H1 Q := by
  obtain ⟨fp, S, R, z, S', e, q⟩ := h
  obtain ⟨x, e1, e2⟩ := m1_inv e
  refine ⟨fp, S, R, x, S', e1, fun v H' fp' R' C rv => ho fp' σ S' H' v x z Q R' rv e2 fun u H2 s r2 => ?_⟩
  have C2 := C.trans (Chg.ext (c := c) (fp := fp') s)
  rw [List.append_nil] at C2
  exact q u H2 fp' (R'.ext s) C2 r2
theorem t_bin {r : R2} {g : D → D → Option D} {m' : Md} (ho : Op2 r c m1' m2' m' g) (hm : m1' = .fz ∨ w2 = []) {σ : Sg} {H : Hp} {Q : VK} (h : tE c (w1 ++ w2) m' (FV.m2 g fa fb) σ H Q) :
    tE c w1 m1' fa σ H fun x H1 => tE c w2 m2' fb σ H1 fun y H2 => r x y H2 Q := by
  obtain ⟨fp, S, R, z, S', e, q⟩ := h
  obtain ⟨x, S1, y, e1, e2, e3⟩ := m2_inv e
  refine ⟨fp, S, R, x, S1, e1, fun v H1 fp1 R1 C1 rv => ⟨fp1, S1, R1, y, S', e2, fun w H2 fp2 R2 C2 rw' => ?_⟩⟩
  refine ho fp2 σ S' H2 v w x y z Q R2 (rv.chg R1 C2 hm) rw' e3 fun u H3 s r3 => ?_
  have C3 := (C1.trans C2).trans (Chg.ext (c := c) (fp := fp2) s)
  rw [List.append_nil] at C3
  exact q u H3 fp2 (R2.ext s) C3 r3
theorem se_op {op : Operator} {r : R2} {g : D → D → Option D} {m' : Md} (hr : OpR X (binaryOp op) r) (ho : Op2 r c m1' m2' m' g) (hm : m1' = .fz ∨ w2 = []) (ha : SE c X a w1 m1' fa) (hb : SE c X b w2 m2' fb) : SE c X (.BinOp a op b pos) (w1 ++ w2) m' (FV.m2 g fa fb) :=
  peImp (pe_op hr ha hb) fun _ _ _ h => t_bin ho hm h
theorem se_cmp {op : CmpOp} {r : R2} {g : D → D → Option D} {m' : Md} (hr : OpR X (compareOp op) r) (ho : Op2 r c m1' m2' m' g) (hm : m1' = .fz ∨ w2 = []) (hk : behindInMarks op b = false) (ha : SE c X a w1 m1' fa) (hb : SE c X b w2 m2' fb) : SE c X (.Compare a [op] [b] pos) (w1 ++ w2) m' (FV.m2 g fa fb) :=
  peImp (pe_cmpR hr ha hb hk) fun _ _ _ h => t_bin ho hm h
theorem tT_of {σ : Sg} {H : Hp} {Q : Bool → Hp → Prop} (h : tT c wr f σ H Q) : tE c wr .bo f σ H fun x H' => ∃ k, x = .bl k ∧ Q k H' := by
  obtain ⟨fp, S, R, b, S', e, q⟩ := h
  exact ⟨fp, S, R, .bool b, S', e, fun v H' fp' R' C r => ⟨b, r.blV, q H' fp' R' C⟩⟩
theorem tT_of' {σ : Sg} {H : Hp} {Q : Bool → Hp → Prop} (h : tT c wr f σ H Q) : tE c wr m f σ H fun x H' => ∃ k, x = .bl k ∧ Q k H' := by
  obtain ⟨fp, S, R, b, S', e, q⟩ := h
  exact ⟨fp, S, R, .bool b, S', e, fun v H' fp' R' C r => ⟨b, r.blV, q H' fp' R' C⟩⟩
theorem st_cmp {op : CmpOp} {r : R2} {g : D → D → Option D} {m' : Md} (hr : OpR X (compareOp op) r) (ho : Op2 r c m1' m2' m' g) (hm : m1' = .fz ∨ w2 = []) (hk : behindInMarks op b = false) (ha : SE c X a w1 m1' fa) (hb : SE c X b w2 m2' fb) : ST c X (.Compare a [op] [b] pos) (w1 ++ w2) (FV.m2 g fa fb) :=
  ptImp (pt_cmpR hr ha hb hk) fun _ _ _ h => t_bin ho hm (tT_of' h)
/-- a value as a test -/
theorem st_val (h : SE c X e wr m f) (he : ∀ whole, isTrue e X.env whole = (do let v ← whole; standAt e.pos; holding [v] (truthy v))) : ST c X e wr f := ptImp (pt_val h he) fun _ _ _ q => tT_of' q
theorem st_not (h : ST c X a wr f) : ST c X (.UnaryOp .Not a pos) wr (FV.m1 gNot f) := ptImp (pt_not h) fun σ H Q ⟨fp, S, R, b, S', e, q⟩ => by
  obtain ⟨x, e1, e2⟩ := m1_inv e
  cases x with
  | bool k =>
    cases e2
    exact ⟨fp, S, R, k, S', e1, fun H' fp' R' C => q H' fp' R' C⟩
  | _ => cases e2
theorem se_not (h : SE c X a wr m f) : SE c X (.UnaryOp .Not a pos) wr .fz (FV.m1 gNot f) := peImp (pe_not h) fun σ H Q ⟨fp, S, R, d, S', e, q⟩ => by
  obtain ⟨x, e1, e2⟩ := m1_inv e
  cases x with
  | bool k =>
    cases e2
    exact ⟨fp, S, R, .bool k, S', e1, fun v H' fp' R' C r => ⟨k, r.blV, q _ H' fp' R' C (.bl _)⟩⟩
  | _ => cases e2
theorem mAnd_inv {S S' : Sl} {z : D} (h : mAnd fa fb S = some (z, S')) : (∃ S1, fa S = some (.bool true, S1) ∧ fb S1 = some (z, S')) ∨ (fa S = some (.bool false, S') ∧ z = .bool false) := by
  unfold mAnd at h
  cases hf : fa S with
  | none => rw [hf] at h; cases h
  | some r =>
    obtain ⟨x, S1⟩ := r
    rw [hf] at h
    simp only [Option.bind_some] at h
    cases x with
    | bool k =>
      cases k with
      | true => exact .inl ⟨S1, rfl, h⟩
      | false => cases h; exact .inr ⟨rfl, rfl⟩
    | _ => cases h
theorem mOr_inv {S S' : Sl} {z : D} (h : mOr fa fb S = some (z, S')) : (∃ S1, fa S = some (.bool false, S1) ∧ fb S1 = some (z, S')) ∨ (fa S = some (.bool true, S') ∧ z = .bool true) := by
  unfold mOr at h
  cases hf : fa S with
  | none => rw [hf] at h; cases h
  | some r =>
    obtain ⟨x, S1⟩ := r
    rw [hf] at h
    simp only [Option.bind_some] at h
    cases x with
    | bool k =>
      cases k with
      | false => exact .inl ⟨S1, rfl, h⟩
      | true => cases h; exact .inr ⟨rfl, rfl⟩
    | _ => cases h
theorem mIf_inv {S S' : Sl} {z : D} (h : mIf fc fa fb S = some (z, S')) : (∃ S1, fc S = some (.bool true, S1) ∧ fa S1 = some (z, S')) ∨ (∃ S1, fc S = some (.bool false, S1) ∧ fb S1 = some (z, S')) := by
  unfold mIf at h
  cases hf : fc S with
  | none => rw [hf] at h; cases h
  | some r =>
    obtain ⟨x, S1⟩ := r
    rw [hf] at h
    simp only [Option.bind_some] at h
    cases x with
    | bool k =>
      cases k with
      | true => exact .inl ⟨S1, rfl, h⟩
      | false => exact .inr ⟨S1, rfl, h⟩
    | _ => cases h
variable {rest : List Expr}
theorem sw_and (ha : ST c X a w1 fa) (hb : SW c X (.BoolOp .And (b :: rest) pos) w2 fb) : SW c X (.BoolOp .And (a :: b :: rest) pos) (w1 ++ w2) (mAnd fa fb) :=
  pwImp (pw_and ha hb) fun σ H Q ⟨fp, S, R, k, S', e, q⟩ => by
    rcases mAnd_inv e with ⟨S1, e1, e2⟩ | ⟨e1, e2⟩
    · exact ⟨fp, S, R, true, S1, e1, fun H1 fp1 R1 C1 => by
        try dsimp only
        rw [if_pos rfl]
        exact ⟨fp1, S1, R1, k, S', e2, fun H2 fp2 R2 C2 => q H2 fp2 R2 (C1.trans C2)⟩⟩
    · cases e2
      exact ⟨fp, S, R, false, S', e1, fun H1 fp1 R1 C1 => by
        try dsimp only
        rw [if_neg (by simp)]
        exact q H1 fp1 R1 (C1.wide fun i hi => by simp [hi])⟩
theorem sw_or (ha : ST c X a w1 fa) (hb : SW c X (.BoolOp .Or (b :: rest) pos) w2 fb) : SW c X (.BoolOp .Or (a :: b :: rest) pos) (w1 ++ w2) (mOr fa fb) :=
  pwImp (pw_or ha hb) fun σ H Q ⟨fp, S, R, k, S', e, q⟩ => by
    rcases mOr_inv e with ⟨S1, e1, e2⟩ | ⟨e1, e2⟩
    · exact ⟨fp, S, R, false, S1, e1, fun H1 fp1 R1 C1 => by
        try dsimp only
        rw [if_neg (by simp)]
        exact ⟨fp1, S1, R1, k, S', e2, fun H2 fp2 R2 C2 => q H2 fp2 R2 (C1.trans C2)⟩⟩
    · cases e2
      exact ⟨fp, S, R, true, S', e1, fun H1 fp1 R1 C1 => by
        try dsimp only
        rw [if_pos rfl]
        exact q H1 fp1 R1 (C1.wide fun i hi => by simp [hi])⟩
theorem se_and (ha : SE c X a w1 m1' fa) (hb : SE c X (.BoolOp .And (b :: rest) pos) w2 m fb) : SE c X (.BoolOp .And (a :: b :: rest) pos) (w1 ++ w2) m (mAnd fa fb) :=
  peImp (pe_and ha hb) fun σ H Q ⟨fp, S, R, k, S', e, q⟩ => by
    rcases mAnd_inv e with ⟨S1, e1, e2⟩ | ⟨e1, e2⟩
    · exact ⟨fp, S, R, .bool true, S1, e1, fun v H1 fp1 R1 C1 r => ⟨true, r.blV, by
        try dsimp only
        rw [if_pos rfl]
        exact ⟨fp1, S1, R1, k, S', e2, fun u H2 fp2 R2 C2 r2 => q u H2 fp2 R2 (C1.trans C2) r2⟩⟩⟩
    · cases e2
      exact ⟨fp, S, R, .bool false, S', e1, fun v H1 fp1 R1 C1 r => ⟨false, r.blV, by
        try dsimp only
        rw [if_neg (by simp)]
        refine q _ H1 fp1 R1 (C1.wide fun i hi => by simp [hi]) ?_
        cases m with
        | fz => exact .bl _
        | sh => exact .inl (.bl _)
        | bo => exact .bl _⟩⟩
theorem se_or (ha : SE c X a w1 m1' fa) (hb : SE c X (.BoolOp .Or (b :: rest) pos) w2 m fb) : SE c X (.BoolOp .Or (a :: b :: rest) pos) (w1 ++ w2) m (mOr fa fb) :=
  peImp (pe_or ha hb) fun σ H Q ⟨fp, S, R, k, S', e, q⟩ => by
    rcases mOr_inv e with ⟨S1, e1, e2⟩ | ⟨e1, e2⟩
    · exact ⟨fp, S, R, .bool false, S1, e1, fun v H1 fp1 R1 C1 r => ⟨false, r.blV, by
        try dsimp only
        rw [if_neg (by simp)]
        exact ⟨fp1, S1, R1, k, S', e2, fun u H2 fp2 R2 C2 r2 => q u H2 fp2 R2 (C1.trans C2) r2⟩⟩⟩
    · cases e2
      exact ⟨fp, S, R, .bool true, S', e1, fun v H1 fp1 R1 C1 r => ⟨true, r.blV, by
        try dsimp only
        rw [if_pos rfl]
        refine q _ H1 fp1 R1 (C1.wide fun i hi => by simp [hi]) ?_
        cases m with
        | fz => exact .bl _
        | sh => exact .inl (.bl _)
        | bo => exact .bl _⟩⟩
theorem se_if {t : Expr} (ht : ST c X t w1 fc) (ha : SE c X a w2 m fa) (hb : SE c X b w3 m fb) : SE c X (.IfExp t a b pos) (w1 ++ (w2 ++ w3)) m (mIf fc fa fb) :=
  peImp (pe_ifExp ht ha hb) fun σ H Q ⟨fp, S, R, k, S', e, q⟩ => by
    rcases mIf_inv e with ⟨S1, e1, e2⟩ | ⟨S1, e1, e2⟩
    · exact ⟨fp, S, R, true, S1, e1, fun H1 fp1 R1 C1 => by
        try dsimp only
        rw [if_pos rfl]
        exact ⟨fp1, S1, R1, k, S', e2, fun u H2 fp2 R2 C2 r2 => q u H2 fp2 R2 ((C1.trans C2).wide fun i hi => by
          rcases List.mem_append.mp hi with h | h <;> simp [h]) r2⟩⟩
    · exact ⟨fp, S, R, false, S1, e1, fun H1 fp1 R1 C1 => by
        try dsimp only
        rw [if_neg (by simp)]
        exact ⟨fp1, S1, R1, k, S', e2, fun u H2 fp2 R2 C2 r2 => q u H2 fp2 R2 ((C1.trans C2).wide fun i hi => by
          rcases List.mem_append.mp hi with h | h <;> simp [h]) r2⟩⟩
/-! ### arguments -/
theorem sa_nil : SA c X [] [] [] mNil := paImp pa_nil fun σ H Q ⟨fp, S, R, ds, S', e, q⟩ => by
  cases e
  exact q [] H fp R .refl trivial
theorem mCons_inv {g : SL} {S S' : Sl} {ds : List D} (h : mCons f g S = some (ds, S')) : ∃ d S1 r, f S = some (d, S1) ∧ g S1 = some (r, S') ∧ ds = d :: r := by
  unfold mCons at h
  cases hf : f S with
  | none => rw [hf] at h; cases h
  | some r =>
    obtain ⟨x, S1⟩ := r
    rw [hf] at h
    simp only [Option.bind_some] at h
    cases hg : g S1 with
    | none => rw [hg] at h; cases h
    | some z' =>
      rw [hg] at h
      cases h
      exact ⟨x, S1, _, rfl, hg, rfl⟩
theorem sa_cons {es : List Expr} {ms : List Md} {g : SL} (ha : SE c X e w1 m f) (hr : SA c X es w2 ms g) (hs : starEach (e :: es) X.env = (false, eval e X.env) :: starEach es X.env) (hm : m = .fz ∨ w2 = []) : SA c X (e :: es) (w1 ++ w2) (m :: ms) (mCons f g) :=
  paImp (pa_cons ha hr hs) fun σ H Q ⟨fp, S, R, ds, S', e, q⟩ => by
    obtain ⟨d, S1, r, e1, e2, rfl⟩ := mCons_inv e
    exact ⟨fp, S, R, d, S1, e1, fun v H1 fp1 R1 C1 rv => ⟨fp1, S1, R1, r, S', e2, fun vs H2 fp2 R2 C2 rs => q (v :: vs) H2 fp2 R2 (C1.trans C2) ⟨rv.chg R1 C2 hm, rs⟩⟩⟩
end
end FV
end
section
set_option Elab.async false
set_option linter.all false
set_option maxRecDepth 100000
set_option maxHeartbeats 4000000
/-! Operations on trees: operators, comparisons. -/
namespace FV
open PySem PySem.Spec PyProof.Rows L2
section
variable {X : Cx} {c : Cf} {m m' ma mb : Md}
/-! ### ints -/
def bigOk (i j : Int) : Bool := decide (i.natAbs < 18446744073709551616) || decide (j.natAbs < 18446744073709551616) || decide (i.natAbs.log2 + j.natAbs.log2 < 1000000)
def gI2 (ok : Int → Int → Bool) (f : Int → Int → Int) : D → D → Option D
  | .int i, .int j => if ok i j = true then some (.int (f i j)) else none
  | _, _ => none
theorem gI2_inv {ok : Int → Int → Bool} {f : Int → Int → Int} {x y z : D} (h : gI2 ok f x y = some z) : ∃ i j, x = .int i ∧ y = .int j ∧ ok i j = true ∧ z = .int (f i j) := by
  cases x with
  | int i =>
    cases y with
    | int j =>
      unfold gI2 at h
      by_cases e : ok i j = true
      · simp only [if_pos e, Option.some.injEq] at h
        exact ⟨i, j, rfl, rfl, e, h.symm⟩
      · simp only [if_neg e] at h
        cases h
    | _ => cases h
  | _ => cases h
theorem rpm_int {fp : Fp} {H : Hp} {i : Int} : RpM c fp .fz H (.int i) (.int i) := .int i
theorem rpm_bl {fp : Fp} {H : Hp} {i : Bool} : RpM c fp .fz H (.bl i) (.bool i) := .bl i
theorem rpm_str {fp : Fp} {H : Hp} {i : Str} : RpM c fp .fz H (.str i) (.str i) := .str i
theorem o2_int {C : Int → Int → Prop} {k : Int → Int → V} {ok : Int → Int → Bool} {f : Int → Int → Int} (h : ∀ i j, ok i j = true → C i j ∧ k i j = .int (f i j)) : Op2 (rI C k) c ma mb .fz (gI2 ok f) :=
  fun fp σ S H v w x y z Q R rx ry e q => by
    obtain ⟨i, j, rfl, rfl, e1, rfl⟩ := gI2_inv e
    refine ⟨i, j, rx.intV, ry.intV, (h i j e1).1, ?_⟩
    rw [(h i j e1).2]
    exact q _ H (Same.refl H) rpm_int
theorem o2_int0 {k : Int → Int → V} {f : Int → Int → Int} (h : ∀ i j, k i j = .int (f i j)) : Op2 (rI0 k) c ma mb .fz (gI2 (fun _ _ => true) f) :=
  fun fp σ S H v w x y z Q R rx ry e q => by
    obtain ⟨i, j, rfl, rfl, e1, rfl⟩ := gI2_inv e
    refine ⟨i, j, rx.intV, ry.intV, ?_⟩
    rw [h i j]
    exact q _ H (Same.refl H) rpm_int
def gSub : D → D → Option D := gI2 (fun _ _ => true) fun i j => i - j
def gMulI : D → D → Option D := gI2 bigOk fun i j => i * j
def gFdiv : D → D → Option D := gI2 (fun _ j => (decide (j ≠ 0) && decide (j.natAbs < 1073741824)) || (decide (0 < j) && decide (j.natAbs.log2 < 9000))) fun i j => i.fdiv j
def gMod : D → D → Option D := gI2 (fun _ j => decide (j ≠ 0)) fun i j => i.fmod j
def gPow : D → D → Option D := gI2 (fun i j => decide (0 ≤ j) && decide (j ≤ 1000000) && decide (i.natAbs < 18446744073709551616)) fun i j => i ^ j.toNat
theorem pow64 : (2 : Int) ^ 64 = 18446744073709551616 := by decide
theorem pow64n : (2 : Nat) ^ 64 = 18446744073709551616 := by decide
theorem o2_sub : Op2 (rI0 fun i j => .int (i - j)) c ma mb .fz gSub := o2_int0 fun _ _ => rfl
def rMul : R2 := fun x y H Q => rI CMul (fun i j => .int (i * j)) x y H Q ∨ rI CMulW (fun i j => .int (i * j)) x y H Q
theorem op_mulB : OpR X (binaryOp .Mult) rMul := OpR.or op_mul op_mulW
theorem o2_mul : Op2 rMul c ma mb .fz gMulI := fun fp σ S H v w x y z Q R rx ry e q => by
  obtain ⟨i, j, rfl, rfl, e1, rfl⟩ := gI2_inv e
  have q' := q (.int (i * j)) H (Same.refl H) rpm_int
  unfold bigOk at e1
  rw [Bool.or_eq_true, Bool.or_eq_true, decide_eq_true_eq, decide_eq_true_eq, decide_eq_true_eq] at e1
  rcases e1 with (e1 | e1) | e1
  · exact .inl ⟨i, j, rx.intV, ry.intV, .inl (by rw [pow64]; omega), q'⟩
  · exact .inl ⟨i, j, rx.intV, ry.intV, .inr (by rw [pow64]; omega), q'⟩
  · exact .inr ⟨i, j, rx.intV, ry.intV, e1, q'⟩
def rDiv : R2 := fun x y H Q => rI CDivN (fun i j => .int (i.fdiv j)) x y H Q ∨ rI CDivW (fun i j => .int (i / j)) x y H Q
theorem op_divB : OpR X (binaryOp .FloorDiv) rDiv := OpR.or op_fdivN op_fdivW
theorem o2_div : Op2 rDiv c ma mb .fz gFdiv := fun fp σ S H v w x y z Q R rx ry e q => by
  obtain ⟨i, j, rfl, rfl, e1, rfl⟩ := gI2_inv e
  have q' := q (.int (i.fdiv j)) H (Same.refl H) rpm_int
  simp only [Bool.or_eq_true, Bool.and_eq_true, decide_eq_true_eq] at e1
  rcases e1 with e1 | e1
  · exact .inl ⟨i, j, rx.intV, ry.intV, e1, q'⟩
  · refine .inr ⟨i, j, rx.intV, ry.intV, e1, ?_⟩
    have hj : 0 ≤ j := Int.le_of_lt e1.1
    have e2 : i.fdiv j = i / j := Int.fdiv_eq_ediv_of_nonneg i hj
    rw [e2] at q'
    exact q'
theorem o2_mod : Op2 (rI (fun _ j => j ≠ 0) fun i j => .int (i.fmod j)) c ma mb .fz gMod := o2_int fun i j h => ⟨of_decide_eq_true h, rfl⟩
theorem o2_pow : Op2 (rI CPow fun i j => .int (i ^ j.toNat)) c ma mb .fz gPow := o2_int fun i j h => by
  simp only [Bool.and_eq_true, decide_eq_true_eq] at h
  exact ⟨⟨h.1.1, h.1.2, by rw [pow64n]; exact h.2⟩, rfl⟩
/-! ### + and * of sequences -/
theorem Rd.lst {P : Program} {w : World} {H : Hp} {h : Heap} {p : Addr} {xs : List V} (ok : HOk P w H h) (r : Rd H p (.lst xs)) : xs.length ≤ sizeLine ∧ ∃ (us : List Value) (k : Nat), Vals xs us ∧ xs.length = us.length ∧ h.get? p = some { cls := .type "list", data := .seq us.toArray k } := by
  obtain ⟨z, us, k, rv, e⟩ := r.ok ok
  exact ⟨z, us, k, rv, rv.length, e⟩
def rCatR : R2 := fun x y H Q => ∃ l b xs zs, x = .ref l ∧ y = .ref b ∧ Rd H l (.lst xs) ∧ Rd H b (.lst zs) ∧ xs.length + zs.length ≤ sizeLine ∧ ∀ p, H p = none → Q (.ref p) (upd H p (.lst (xs ++ zs)))
theorem op_catR : OpR X (binaryOp .Add) rCatR := fun pins s σ H x y v u Q I rx ry ⟨l, b, xs, zs, ex, ey, hl, hb, hz, q⟩ => by
  subst ex ey
  cases rx; cases ry
  obtain ⟨_, us, k, rv, le, e⟩ := Rd.lst I.hok hl
  obtain ⟨_, ws, k2, rv2, le2, e2⟩ := Rd.lst I.hok hb
  refine PySem.P.add_list e e2 ?_ (by simp only [List.size_toArray]; omega)
  rw [show us.toArray ++ ws.toArray = (us ++ ws).toArray by simp]
  exact ⟨.ref _, _, Inv.lnew (t' := s.toks) I (rv.append rv2) (by rw [List.length_append]; omega), rfl, q _ I.fresh⟩
def rAddA (K : PySem.W.Frag) : R2 := fun x y H Q => (rI0 (fun i j => .int (i + j)) x y H Q ∨ (∃ i j, x = .str i ∧ y = .str j ∧ i.length + j.length ≤ sizeLine ∧ Q (.str (i ++ j)) H)) ∨ (rCatA K x y H Q ∨ rCatR x y H Q)
theorem op_addA : OpR X (binaryOp .Add) (rAddA X.K) := OpR.or (OpR.or op_add op_add_str) (OpR.or op_catA op_catR)
def gAdd : D → D → Option D
  | .int i, .int j => some (.int (i + j))
  | .str x, .str y => if x.length + y.length ≤ sizeLine then some (.str (x ++ y)) else none
  | .tuple x, .tuple y => if x.length + y.length ≤ sizeLine then some (.tuple (x ++ y)) else none
  | .list x, .list y => if x.length + y.length ≤ sizeLine then some (.list (x ++ y)) else none
  | _, _ => none
theorem RpM.listR {fp : Fp} {H : Hp} {v : V} {ds : List D} (r : RpM c fp m H v (.list ds)) : ∃ a xs, v = .ref a ∧ Rd H a (.lst xs) ∧ RpAll H (ItB c fp m) xs ds := by
  have go : ∀ B, Rp H B v (.list ds) → ∃ a xs, v = .ref a ∧ Rd H a (.lst xs) ∧ RpAll H B xs ds := fun B r => by
    cases r with
    | lst e _ r => exact ⟨_, _, rfl, .inl e, r⟩
    | frz e r => exact ⟨_, _, rfl, .inr ⟨_, e⟩, r⟩
  cases m with
  | fz => exact go _ r
  | sh =>
    rcases r with r | ⟨a, xs, ds', rfl, e2, e, r⟩
    · exact go _ r
    · cases e2
      exact ⟨a, xs, rfl, .inl e, r⟩
  | bo => exact go _ r
/-- a new list of such items -/
theorem rp_newL {H : Hp} {B : Addr → Prop} {p : Addr} {xs : List V} {ds : List D} (hB : ∀ a, B a → H a ≠ none) (hp : H p = none) (r : RpAll H B xs ds) : Rp (upd H p (.lst xs)) B (.ref p) (.list ds) :=
  .lst upd_same (fun b => hB p b hp) (r.same (same_upd hp))
theorem rp_newT {H : Hp} {B : Addr → Prop} {p : Addr} {xs : List V} {ds : List D} (hp : H p = none) (r : RpAll H B xs ds) : Rp (upd H p (.tup xs)) B (.ref p) (.tuple ds) :=
  .tup upd_same (r.same (same_upd hp))
/-- how a new thing of the items is held -/
def mdI : Md → Md
  | .bo => .bo
  | _ => .fz
theorem rpm_of {fp : Fp} {H : Hp} {v : V} {d : D} (r : Rp H (ItB c fp m) v d) : RpM c fp (mdI m) H v d := by
  cases m <;> exact r
def mdJ : Md → Md → Md
  | .bo, _ => .bo
  | _, .bo => .bo
  | _, _ => .fz
theorem itB_live {fp : Fp} {σ : Sg} {S : Sl} {H : Hp} (R : Rel c fp σ S H) (m : Md) : ∀ a, ItB c fp m a → H a ≠ none := fun a h => by
  cases m with
  | bo => exact h.elim
  | fz => exact Bd.live R h
  | sh => exact Bd.live R h
theorem itB_J1 {fp : Fp} {H : Hp} {xs : List V} {ds : List D} (r : RpAll H (ItB c fp ma) xs ds) (mb : Md) : RpAll H (ItB c fp (mdJ ma mb)) xs ds := by
  cases ma <;> cases mb <;> first | exact r | exact r.fal
theorem itB_J2 {fp : Fp} {H : Hp} {xs : List V} {ds : List D} (r : RpAll H (ItB c fp mb) xs ds) (ma : Md) : RpAll H (ItB c fp (mdJ ma mb)) xs ds := by
  cases ma <;> cases mb <;> first | exact r | exact r.fal
theorem rpmJ {fp : Fp} {H : Hp} {v : V} {d : D} (r : Rp H (ItB c fp (mdJ ma mb)) v d) : RpM c fp (mdJ ma mb) H v d := by
  cases ma <;> cases mb <;> exact r
theorem rpm_fz {fp : Fp} {H : Hp} {v : V} {d : D} (r : RpM c fp .fz H v d) (m : Md) : RpM c fp m H v d := r.weak (by cases m <;> simp)
theorem o2_add : Op2 (rAddA X.K) c ma mb (mdJ ma mb) gAdd := fun fp σ S H v w x y z Q R rx ry e q => by
  cases x with
  | int i =>
    cases y with
    | int j =>
      cases e
      exact .inl (.inl ⟨i, j, rx.intV, ry.intV, q _ H (Same.refl H) (rpm_fz rpm_int _)⟩)
    | _ => cases e
  | str i =>
    cases y with
    | str j =>
      simp only [gAdd] at e
      split at e
      · rename_i h
        cases e
        exact .inl (.inr ⟨i, j, rx.strV, ry.strV, h, q _ H (Same.refl H) (rpm_fz rpm_str _)⟩)
      · cases e
    | _ => cases e
  | tuple ds =>
    cases y with
    | tuple es =>
      simp only [gAdd] at e
      split at e
      · rename_i h
        cases e
        obtain ⟨a, xs, rfl, ha, r1⟩ := rx.tuple
        obtain ⟨b, ys, rfl, hb, r2⟩ := ry.tuple
        have l1 := r1.length
        have l2 := r2.length
        have r3 : RpAll H (ItB c fp (mdJ ma mb)) (xs ++ ys) (ds ++ es) := (itB_J1 r1 mb).append (itB_J2 r2 ma)
        refine .inr (.inl ⟨a, b, xs, ys, rfl, rfl, .inl (.inl ha), .inl (.inl hb), by omega, fun h1 => ?_, fun h1 h2 => ?_, fun h1 h2 p hp => ?_⟩)
        · subst h1
          exact q _ H (Same.refl H) (rpmJ (.tup hb r3))
        · subst h2
          rw [List.append_nil] at r3
          exact q _ H (Same.refl H) (rpmJ (.tup ha r3))
        · exact q _ _ (same_upd hp) (rpmJ (rp_newT hp r3))
      · cases e
    | _ => cases e
  | list ds =>
    cases y with
    | list es =>
      simp only [gAdd] at e
      split at e
      · rename_i h
        cases e
        obtain ⟨a, xs, rfl, ha, r1⟩ := rx.listR
        obtain ⟨b, ys, rfl, hb, r2⟩ := ry.listR
        have l1 := r1.length
        have l2 := r2.length
        have r3 : RpAll H (ItB c fp (mdJ ma mb)) (xs ++ ys) (ds ++ es) := (itB_J1 r1 mb).append (itB_J2 r2 ma)
        exact .inr (.inr ⟨a, b, xs, ys, rfl, rfl, ha, hb, by omega, fun p hp => q _ _ (same_upd hp) (rpmJ (rp_newL (itB_live R _) hp r3))⟩)
      · cases e
    | _ => cases e
  | _ => cases e
/-- xs * k -/
def rRepR : R2 := fun x y H Q => ∃ l k xs, x = .ref l ∧ y = .int k ∧ Rd H l (.lst xs) ∧ -(2 ^ 63) ≤ k ∧ k < 2 ^ 63 ∧ xs.length * k.toNat ≤ sizeLine ∧
  ∀ p, H p = none → Q (.ref p) (upd H p (.lst (List.replicate k.toNat xs).flatten))
/-! ### comparisons -/
def gCmp (f : Int → Int → Bool) : D → D → Option D
  | .int i, .int j => some (.bool (f i j))
  | _, _ => none
theorem o2_cmp {f : Int → Int → Bool} : Op2 (rI0 fun i j => .bl (f i j)) c ma mb .fz (gCmp f) := fun fp σ S H v w x y z Q R rx ry e q => by
  cases x with
  | int i =>
    cases y with
    | int j =>
      cases e
      exact ⟨i, j, rx.intV, ry.intV, q _ H (Same.refl H) rpm_bl⟩
    | _ => cases e
  | _ => cases e
def gLt : D → D → Option D := gCmp fun i j => decide (i < j)
def gLe : D → D → Option D := gCmp fun i j => decide (i ≤ j)
def gGt : D → D → Option D := gCmp fun i j => decide (j < i)
def gGe : D → D → Option D := gCmp fun i j => decide (j ≤ i)
def gEq (x y : D) : Option D := if SeqAt.shaped x = true ∧ SeqAt.shaped y = true then some (.bool (PyData.eqv x y)) else none
def gNe (x y : D) : Option D := if SeqAt.shaped x = true ∧ SeqAt.shaped y = true then some (.bool (!PyData.eqv x y)) else none
theorem o2_eq : Op2 (rEqD X.K) c ma mb .fz gEq := fun fp σ S H v w x y z Q R rx ry e q => by
  unfold gEq at e
  split at e
  · rename_i h
    cases e
    exact ⟨x, y, rx.bo.dp, ry.bo.dp, h.1, h.2, q _ H (Same.refl H) rpm_bl⟩
  · cases e
theorem o2_ne : Op2 (rNeD X.K) c ma mb .fz gNe := fun fp σ S H v w x y z Q R rx ry e q => by
  unfold gNe at e
  split at e
  · rename_i h
    cases e
    exact ⟨x, y, rx.bo.dp, ry.bo.dp, h.1, h.2, q _ H (Same.refl H) rpm_bl⟩
  · cases e
/-- is, of truths; of None -/
def rIsA : R2 := fun x y H Q => rIsB x y H Q ∨ (y = .non ∧ Q (.bl (decide (x = .non))) H)
def rIsN : R2 := fun x y H Q => rNotB x y H Q ∨ (y = .non ∧ Q (.bl (!decide (x = .non))) H)
theorem op_isA : OpR X (compareOp .Is) rIsA := OpR.or op_isBl op_isN
theorem op_isnA : OpR X (compareOp .IsNot) rIsN := OpR.or op_notBl op_notN
def isNon : D → Bool
  | .none => true
  | _ => false
def gIs : D → D → Option D
  | .bool a, .bool b => some (.bool (decide (a = b)))
  | x, .none => some (.bool (isNon x))
  | _, _ => none
def gIsN : D → D → Option D
  | .bool a, .bool b => some (.bool (!decide (a = b)))
  | x, .none => some (.bool (!isNon x))
  | _, _ => none
theorem isNon_eq {H : Hp} {B : Addr → Prop} {v : V} {d : D} (r : Rp H B v d) : decide (v = .non) = isNon d := by
  cases r <;> first | rfl | exact decide_eq_false (fun h => nomatch h)
theorem o2_is : Op2 rIsA c ma mb .fz gIs := fun fp σ S H v w x y z Q R rx ry e q => by
  cases y with
  | none =>
    have e' : z = .bool (isNon x) := by cases x <;> exact (Option.some.inj e).symm
    subst e'
    refine .inr ⟨ry.bo.nonV, ?_⟩
    rw [isNon_eq rx.bo]
    exact q _ H (Same.refl H) rpm_bl
  | bool b =>
    cases x with
    | bool a =>
      cases e
      exact .inl ⟨a, b, rx.blV, ry.blV, q _ H (Same.refl H) rpm_bl⟩
    | _ => cases e
  | _ => cases x <;> cases e
theorem o2_isn : Op2 rIsN c ma mb .fz gIsN := fun fp σ S H v w x y z Q R rx ry e q => by
  cases y with
  | none =>
    have e' : z = .bool (!isNon x) := by cases x <;> exact (Option.some.inj e).symm
    subst e'
    refine .inr ⟨ry.bo.nonV, ?_⟩
    rw [isNon_eq rx.bo]
    exact q _ H (Same.refl H) rpm_bl
  | bool b =>
    cases x with
    | bool a =>
      cases e
      exact .inl ⟨a, b, rx.blV, ry.blV, q _ H (Same.refl H) rpm_bl⟩
    | _ => cases e
  | _ => cases x <;> cases e
/-- in, not in: flat items -/
def flatD : D → Bool
  | .none => true
  | .bool _ => true
  | .int _ => true
  | .str _ => true
  | _ => false
theorem flat_eq {H : Hp} {B : Addr → Prop} {v : V} {d : D} (r : Rp H B v d) : flatV v = flatD d := by cases r <;> rfl
theorem eqV_eq {H : Hp} {B B' : Addr → Prop} {v w : V} {d e : D} (r : Rp H B v d) (r' : Rp H B' w e) (h : flatD d = true) (h' : flatD e = true) : eqV v w = PyData.eqv d e := by
  cases r <;> cases r' <;> first | (simp [flatD] at h; done) | (simp [flatD] at h'; done) | (simp [eqV, PyData.eqv])
theorem allFlat_eq {H : Hp} {B : Addr → Prop} : ∀ {vs : List V} {ds : List D}, RpAll H B vs ds → vs.all flatV = ds.all flatD
  | _, _, .nil => rfl
  | _, _, .cons r t => by rw [List.all_cons, List.all_cons, flat_eq r, allFlat_eq t]
theorem inV_eq {H : Hp} {B B' : Addr → Prop} {v : V} {d : D} (r : Rp H B' v d) (h : flatD d = true) : ∀ {vs : List V} {ds : List D}, RpAll H B vs ds → ds.all flatD = true → inV v vs = ds.any fun y => PyData.eqv y d
  | _, _, .nil, _ => rfl
  | _, _, .cons q t, hd => by
    rw [List.all_cons, Bool.and_eq_true] at hd
    have ih := inV_eq r h t hd.2
    unfold inV at ih ⊢
    rw [List.any_cons, List.any_cons, ih, eqV_eq q r hd.1 h]
def itemsOf : D → Option (List D)
  | .list ds => some ds
  | .tuple ds => some ds
  | _ => none
theorem RpM.items {K : PySem.W.Frag} {fp : Fp} {H : Hp} {v : V} {d : D} {ds : List D} (r : RpM c fp m H v d) (h : itemsOf d = some ds) : ∃ a xs, v = .ref a ∧ (SqL K H a xs ∨ SqT K H a xs) ∧ RpAll H (ItB c fp m) xs ds := by
  cases d with
  | list es =>
    cases h
    obtain ⟨a, xs, e, h1, h2⟩ := r.list (K := K)
    exact ⟨a, xs, e, .inl h1, h2⟩
  | tuple es =>
    cases h
    obtain ⟨a, xs, e, h1, h2⟩ := r.tuple
    exact ⟨a, xs, e, .inr (.inl (.inl h1)), h2⟩
  | _ => cases h
def gIn (neg : Bool) (x y : D) : Option D := (itemsOf y).bind fun ds => if flatD x = true ∧ ds.all flatD = true then some (.bool (if neg then !(ds.any fun z => PyData.eqv z x) else ds.any fun z => PyData.eqv z x)) else none
theorem o2_in {neg : Bool} : Op2 (rIn X.K neg) c ma mb .fz (gIn neg) := fun fp σ S H v w x y z Q R rx ry e q => by
  unfold gIn at e
  cases hi : itemsOf y with
  | none => rw [hi] at e; cases e
  | some ds =>
    rw [hi] at e
    simp only [Option.bind_some] at e
    split at e
    · rename_i h
      cases e
      obtain ⟨a, xs, rfl, h1, r⟩ := ry.items (K := X.K) hi
      refine ⟨a, xs, rfl, h1, ?_, ?_, ?_⟩
      · rw [flat_eq rx.bo]; exact h.1
      · rw [allFlat_eq r]; exact h.2
      · rw [inV_eq rx.bo h.1 r h.2]
        exact q _ H (Same.refl H) rpm_bl
    · cases e
end
end FV
end
section
set_option Elab.async false
set_option linter.all false
set_option maxRecDepth 100000
set_option maxHeartbeats 4000000
/-! Calls of built-ins, displays, subscripts, slices, over trees. -/
namespace FV
open PySem PySem.Spec PyProof.Rows L2
section
variable {X : Cx} {c : Cf} {m m' ma mb : Md}
theorem RpMs.one {fp : Fp} {H : Hp} {vs : List V} {ds : List D} (r : RpMs c fp [m] H vs ds) : ∃ v d, vs = [v] ∧ ds = [d] ∧ RpM c fp m H v d := by
  match vs, ds, r with
  | [v], [d], ⟨r, _⟩ => exact ⟨v, d, rfl, rfl, r⟩
  | [], [], r => exact r.elim
  | [], _ :: _, r => exact r.elim
  | _ :: _, [], r => exact r.elim
  | [_], _ :: _ :: _, ⟨_, r⟩ => exact r.elim
  | _ :: _ :: _, [_], ⟨_, r⟩ => exact r.elim
  | _ :: _ :: _, _ :: _ :: _, ⟨_, r⟩ => exact r.elim
theorem RpMs.cons {fp : Fp} {H : Hp} {ms : List Md} {vs : List V} {ds : List D} (r : RpMs c fp (m :: ms) H vs ds) : ∃ v d vs' ds', vs = v :: vs' ∧ ds = d :: ds' ∧ RpM c fp m H v d ∧ RpMs c fp ms H vs' ds' := by
  match vs, ds, r with
  | v :: vs', d :: ds', ⟨r, q⟩ => exact ⟨v, d, vs', ds', rfl, rfl, r, q⟩
  | [], [], r => exact r.elim
  | [], _ :: _, r => exact r.elim
  | _ :: _, [], r => exact r.elim
theorem RpMs.nil {fp : Fp} {H : Hp} {vs : List V} {ds : List D} (r : RpMs c fp [] H vs ds) : vs = [] ∧ ds = [] := by
  match vs, ds, r with
  | [], [], _ => exact ⟨rfl, rfl⟩
  | [], _ :: _, r => exact r.elim
  | _ :: _, [], r => exact r.elim
  | _ :: _, _ :: _, r => exact r.elim
theorem RpMs.two {fp : Fp} {H : Hp} {vs : List V} {ds : List D} (r : RpMs c fp [ma, mb] H vs ds) : ∃ v w x y, vs = [v, w] ∧ ds = [x, y] ∧ RpM c fp ma H v x ∧ RpM c fp mb H w y := by
  obtain ⟨v, x, vs', ds', rfl, rfl, r1, r2⟩ := r.cons
  obtain ⟨w, y, rfl, rfl, r3⟩ := r2.one
  exact ⟨v, w, x, y, rfl, rfl, r1, r3⟩
theorem RpMs.length {fp : Fp} {H : Hp} : ∀ {ms : List Md} {vs : List V} {ds : List D}, RpMs c fp ms H vs ds → vs.length = ds.length ∧ ms.length = ds.length
  | [], vs, ds, r => by
    obtain ⟨rfl, rfl⟩ := r.nil
    exact ⟨rfl, rfl⟩
  | m :: ms, vs, ds, r => by
    obtain ⟨v, d, vs', ds', rfl, rfl, _, r⟩ := r.cons
    have h := RpMs.length r
    exact ⟨congrArg Nat.succ h.1, congrArg Nat.succ h.2⟩
/-- all held without one's own -/
theorem RpMs.fz {fp : Fp} {H : Hp} : ∀ {ms : List Md} {vs : List V} {ds : List D}, RpMs c fp ms H vs ds → (∀ m ∈ ms, m = .fz) → RpAll H (Bd c fp) vs ds
  | [], vs, ds, r, _ => by
    obtain ⟨rfl, rfl⟩ := r.nil
    exact .nil
  | m :: ms, vs, ds, r, h => by
    obtain ⟨v, d, vs', ds', rfl, rfl, r1, r⟩ := r.cons
    have e : m = .fz := h m (by simp)
    rw [e] at r1
    exact .cons r1 (RpMs.fz r fun m2 hm2 => h m2 (List.mem_cons_of_mem _ hm2))
theorem RpMs.bo {fp : Fp} {H : Hp} : ∀ {ms : List Md} {vs : List V} {ds : List D}, RpMs c fp ms H vs ds → RpAll H (fun _ => False) vs ds
  | [], vs, ds, r => by
    obtain ⟨rfl, rfl⟩ := r.nil
    exact .nil
  | m :: ms, vs, ds, r => by
    obtain ⟨v, d, vs', ds', rfl, rfl, r1, r⟩ := r.cons
    exact .cons r1.bo (RpMs.bo r)
/-- a call by values -/
def OpN (r : List V → Hp → VK → Prop) (c : Cf) (ms : List Md) (m' : Md) (g : List D → Option D) : Prop :=
  ∀ (fp : Fp) (σ : Sg) (S : Sl) (H : Hp) (vs : List V) (ds : List D) (z : D) (Q : VK), Rel c fp σ S H → RpMs c fp ms H vs ds → g ds = some z → (∀ u H', Same H H' → RpM c fp m' H' u z → Q u H') → r vs H Q
theorem mL_inv {g : List D → Option D} {f : SL} {S S' : Sl} {z : D} (h : mL g f S = some (z, S')) : ∃ ds, f S = some (ds, S') ∧ g ds = some z := by
  unfold mL at h
  cases hf : f S with
  | none => rw [hf] at h; cases h
  | some r =>
    obtain ⟨x, S1⟩ := r
    rw [hf] at h
    simp only [Option.bind_some] at h
    cases hg : g x with
    | none => rw [hg] at h; cases h
    | some z' =>
      rw [hg] at h
      cases h
      exact ⟨x, rfl, hg⟩
section
variable {wr : List Nat} {ms : List Md} {f : SL} {es : List Expr} {e : Expr} {pos p : Pos} {x : Str} {id T : String}
theorem t_args {r : List V → Hp → VK → Prop} {g : List D → Option D} (ho : OpN r c ms m' g) {σ : Sg} {H : Hp} {Q : VK} (h : tE c wr m' (mL g f) σ H Q) : tA c wr ms f σ H fun vs H1 => r vs H1 Q := by
  obtain ⟨fp, S, R, z, S', e, q⟩ := h
  obtain ⟨ds, e1, e2⟩ := mL_inv e
  refine ⟨fp, S, R, ds, S', e1, fun vs H' fp' R' C rv => ho fp' σ S' H' vs ds z Q R' rv e2 fun u H2 s r2 => ?_⟩
  have C2 := C.trans (Chg.ext (c := c) (fp := fp') s)
  rw [List.append_nil] at C2
  exact q u H2 fp' (R'.ext s) C2 r2
theorem se_callB {r : List V → Hp → VK → Prop} {g : List D → Option D} (hc : CallR X (.builtin id) r) (ho : OpN r c ms m' g) (hg : Gl X x) (hm : X.mg x = none) (hv : bootBuiltins x = some (.builtin id)) (hn : x ≠ "__name__") (hd : (x == ("__debug__" : Str)) = false)
    (hs : starEach (e :: es) X.env = (false, eval e X.env) :: starEach es X.env) (hpl : (backTo pos (starEach es X.env)).any (·.1) = false) (ha : SA c X (e :: es) wr ms f) : SE c X (.Call (.Name x p) (e :: es) [] pos) wr m' (mL g f) :=
  peImp (pe_callB hc hg hm hv ha hn hd hs hpl) fun _ _ _ h => t_args ho h
theorem se_callTy {r : List V → Hp → VK → Prop} {g : List D → Option D} (hc : CallR X (.type T) r) (ho : OpN r c ms m' g) (hg : Gl X x) (hm : X.mg x = none) (hv : bootBuiltins x = some (.type T)) (hn : x ≠ "__name__") (hd : (x == ("__debug__" : Str)) = false)
    (hs : starEach (e :: es) X.env = (false, eval e X.env) :: starEach es X.env) (hpl : (backTo pos (starEach es X.env)).any (·.1) = false) (ha : SA c X (e :: es) wr ms f) : SE c X (.Call (.Name x p) (e :: es) [] pos) wr m' (mL g f) :=
  peImp (pe_callTy hc hg hm hv ha hn hd hs hpl) fun _ _ _ h => t_args ho h
/-- displays -/
def gTup (ds : List D) : Option D := if ds.length ≤ sizeLine then some (.tuple ds) else none
def gLst (ds : List D) : Option D := if ds.length ≤ sizeLine then some (.list ds) else none
def mdS (ms : List Md) : Md := if ms.all (· == .fz) then .fz else .bo
theorem all_fz {ms : List Md} (h : ms.all (· == .fz) = true) : ∀ m ∈ ms, m = .fz := fun m hm => by
  have := List.all_eq_true.mp h m hm
  exact eq_of_beq this
theorem se_tup {k : Nat} (ha : SA c X es wr ms f) : SE c X (.Tuple es k pos) wr (mdS ms) (mL gTup f) := peImp (pe_tup ha) fun σ H Q h => by
  refine t_args (m' := mdS ms) (g := gTup) (r := fun xs H1 Q => xs.length ≤ sizeLine ∧ ∀ p, H1 p = none → Q (.ref p) (upd H1 p (.tup xs))) ?_ h
  intro fp σ S H vs ds z Q R rv e q
  unfold gTup at e
  split at e
  · rename_i hl
    cases e
    refine ⟨by rw [rv.length.1]; exact hl, fun p hp => q _ _ (same_upd hp) ?_⟩
    unfold mdS
    split
    · rename_i ha
      exact rp_newT hp (rv.fz (all_fz ha))
    · exact rp_newT hp rv.bo
  · cases e
theorem se_lst (ha : SA c X es wr ms f) : SE c X (.List es pos) wr (mdS ms) (mL gLst f) := peImp (pe_lst ha) fun σ H Q h => by
  refine t_args (m' := mdS ms) (g := gLst) (r := fun xs H1 Q => xs.length ≤ sizeLine ∧ ∀ p, H1 p = none → Q (.ref p) (upd H1 p (.lst xs))) ?_ h
  intro fp σ S H vs ds z Q R rv e q
  unfold gLst at e
  split at e
  · rename_i hl
    cases e
    refine ⟨by rw [rv.length.1]; exact hl, fun p hp => q _ _ (same_upd hp) ?_⟩
    unfold mdS
    split
    · rename_i ha
      exact rp_newL (fun a h => Bd.live R h) hp (rv.fz (all_fz ha))
    · exact rp_newL (fun a h => h.elim) hp rv.bo
  · cases e
end
/-! ### one argument -/
def g1 (g : D → Option D) : List D → Option D
  | [d] => g d
  | _ => none
def g2 (g : D → D → Option D) : List D → Option D
  | [a, b] => g a b
  | _ => none
def gLen : D → Option D
  | .list ds => some (.int ds.length)
  | .tuple ds => some (.int ds.length)
  | .str x => if x.length ≤ sizeLine then some (.int x.length) else none
  | _ => none
theorem on_len : OpN (fun xs H Q => ∃ x n, xs = [x] ∧ LenV X.K x H n ∧ Q (.int n) H) c [m] .fz (g1 gLen) := fun fp σ S H vs ds z Q R rv e q => by
  obtain ⟨v, d, rfl, rfl, r⟩ := rv.one
  cases d with
  | list ds =>
    cases e
    obtain ⟨a, xs, rfl, h, r2⟩ := r.list (K := X.K)
    refine ⟨_, xs.length, rfl, .inl ⟨xs, h, rfl⟩, ?_⟩
    rw [r2.length]
    exact q _ H (Same.refl H) rpm_int
  | tuple ds =>
    cases e
    obtain ⟨a, xs, rfl, h, r2⟩ := r.tuple
    refine ⟨_, xs.length, rfl, .inr ⟨xs, .inl (.inl h), rfl⟩, ?_⟩
    rw [r2.length]
    exact q _ H (Same.refl H) rpm_int
  | str x =>
    simp only [g1, gLen] at e
    split at e
    · rename_i hl
      cases e
      have := r.strV
      subst this
      exact ⟨_, x.length, rfl, ⟨hl, rfl⟩, q _ H (Same.refl H) rpm_int⟩
    · cases e
  | _ => cases e
def intsOf : List D → Option (List Int)
  | [] => some []
  | .int n :: r => (intsOf r).map (n :: ·)
  | _ => none
theorem intsOf_eq : ∀ {ds : List D} {ns : List Int}, intsOf ds = some ns → ds = ns.map .int
  | [], ns, h => by cases h; rfl
  | d :: r, ns, h => by
    cases d with
    | int n =>
      simp only [intsOf] at h
      cases hr : intsOf r with
      | none => rw [hr] at h; cases h
      | some ms =>
        rw [hr] at h
        cases h
        rw [intsOf_eq hr]
        rfl
    | _ => cases h
theorem intsOf_map (ns : List Int) : intsOf (ns.map .int) = some ns := by
  induction ns with
  | nil => rfl
  | cons n r ih => simp only [List.map_cons, intsOf, ih, Option.map_some]
/-- sum of a list or a tuple of ints -/
theorem preSum_take (ns : List Int) : ∀ j, j ≤ ns.length → preSum (fun i => ns.getD i 0) j = (ns.take j).sum
  | 0, _ => by simp [preSum]
  | j + 1, h => by
    have ih := preSum_take ns j (by omega)
    have hj : j < ns.length := by omega
    have e : ns.take (j + 1) = ns.take j ++ [ns[j]] := by
      rw [List.take_add_one, List.getElem?_eq_getElem hj]
      rfl
    have e2 : ns.getD j 0 = ns[j] := by simp [List.getD, List.getElem?_eq_getElem hj]
    rw [preSum, ih, e, List.sum_append, e2]
    simp
def rSumA (K : PySem.W.Frag) : List V → Hp → VK → Prop := fun vs H Q => ∃ (a : Addr) (ns : List Int), vs = [V.ref a] ∧ (SqL K H a (ns.map V.int) ∨ SqT K H a (ns.map V.int)) ∧ Q (.int ns.sum) H
theorem cr_sumA (hc : X.calm = true) : CallR X (.builtin "sum") (rSumA X.K) := fun pins s σ H vs us Q I r ⟨a, ns, e, h, q⟩ => by
  subst e
  rcases h with h | h
  · exact cr_sum hc pins s σ H _ us Q I r ⟨a, ns, rfl, h, q⟩
  · obtain ⟨its, rv, hT, _⟩ := I.tuple h
    rw [Vals.ref1 r]
    have hlt : a < s.heap.objs.size := by
      obtain ⟨_, e, _⟩ := hT
      exact Heap.lt_size e
    have hi := rv.ints
    have hlen : its.length = ns.length := by
      rw [← rv.length, List.length_map]
    refine call_sum_walkG (wpAny_pyIter_tuple (show s.heap.IsTuple a its.toArray from hT) ⟨s.heap.objs.size, [s.heap.objs.size, a], [s.heap.objs.size], its.toArray.size, _, _, fun i => ns.getD i 0, rfl, Walks.tuple (A := X.A.in1) (I.ok.hd hc) _ a (Nat.ne_of_lt hlt) its.toArray,
      ⟨⟨_, Heap.get?_push_size _ rfl, rfl, rfl⟩, Heap.IsTuple.push (show s.heap.IsTuple a its.toArray from hT) _⟩, fun b hb => ?_, fun i v hv => ?_, fun h' tk t' hk => ?_⟩)
    · show b < (s.heap.push _).objs.size
      rw [Heap.size_push]
      rcases List.mem_cons.mp hb with rfl | hb
      · exact Nat.lt_succ_self _
      · rw [List.mem_singleton.mp hb]
        exact Nat.lt_succ_of_lt hlt
    · have hv' : its[i]? = some v := by simpa using hv
      have hin : i < ns.length := by
        rw [← hlen]
        exact (List.getElem?_eq_some_iff.mp hv').1
      obtain ⟨u, hu, ru⟩ := rv.get (i := i) (x := V.int ns[i]) (by rw [List.getElem?_map, List.getElem?_eq_getElem hin]; rfl)
      rw [hv'] at hu
      cases hu
      obtain ⟨t, rfl⟩ := ru
      exact ⟨t, by simp [List.getD, List.getElem?_eq_getElem hin]⟩
    · have e : preSum (fun i => ns.getD i 0) its.toArray.size = ns.sum := by
        rw [preSum_take ns _ (by simp [hlen]), List.take_of_length_le (by simp [hlen])]
      rw [e]
      refine ⟨.int _, H, I.kept (h' := h') (t' := tk) fun b o eo => hk b o (fun hmem => ?_) (Heap.get?_push_of_some _ eo), ⟨_, rfl⟩, q⟩
      rw [List.mem_singleton.mp hmem] at eo
      exact absurd (Heap.lt_size eo) (Nat.lt_irrefl _)
def gSum (d : D) : Option D := (itemsOf d).bind fun ds => (intsOf ds).map fun ns => .int ns.sum
theorem on_sum : OpN (rSumA X.K) c [m] .fz (g1 gSum) := fun fp σ S H vs ds z Q R rv e q => by
  obtain ⟨v, d, rfl, rfl, r⟩ := rv.one
  simp only [g1, gSum] at e
  cases hi : itemsOf d with
  | none => rw [hi] at e; cases e
  | some ds =>
    rw [hi] at e
    simp only [Option.bind_some] at e
    cases hn : intsOf ds with
    | none => rw [hn] at e; cases e
    | some ns =>
      rw [hn] at e
      cases e
      obtain ⟨a, xs, rfl, h, r2⟩ := r.items (K := X.K) hi
      rw [intsOf_eq hn] at r2
      have := r2.intsV
      subst this
      exact ⟨a, ns, rfl, h, q _ H (Same.refl H) rpm_int⟩
/-- min, max of two ints -/
def gMax2 : D → D → Option D := gI2 (fun _ _ => true) fun i j => if j > i then j else i
def gMin2 : D → D → Option D := gI2 (fun _ _ => true) fun i j => if j < i then j else i
theorem on_max2 : OpN (fun xs H Q => ∃ i j, xs = [.int i, .int j] ∧ Q (.int (if j > i then j else i)) H) c [ma, mb] .fz (g2 gMax2) := fun fp σ S H vs ds z Q R rv e q => by
  obtain ⟨v, w, x, y, rfl, rfl, r1, r2⟩ := rv.two
  obtain ⟨i, j, rfl, rfl, _, rfl⟩ := gI2_inv e
  exact ⟨i, j, by rw [r1.intV, r2.intV], q _ H (Same.refl H) rpm_int⟩
theorem on_min2 : OpN (fun xs H Q => ∃ i j, xs = [.int i, .int j] ∧ Q (.int (if j < i then j else i)) H) c [ma, mb] .fz (g2 gMin2) := fun fp σ S H vs ds z Q R rv e q => by
  obtain ⟨v, w, x, y, rfl, rfl, r1, r2⟩ := rv.two
  obtain ⟨i, j, rfl, rfl, _, rfl⟩ := gI2_inv e
  exact ⟨i, j, by rw [r1.intV, r2.intV], q _ H (Same.refl H) rpm_int⟩
/-- min, max of a list of ints -/
def lMin : List Int → Option Int
  | [] => none
  | n :: r => some (r.foldl min n)
def lMax : List Int → Option Int
  | [] => none
  | n :: r => some (r.foldl max n)
theorem foldl_min_mem : ∀ (r : List Int) (n : Int), r.foldl min n ∈ n :: r ∧ ∀ y ∈ n :: r, r.foldl min n ≤ y
  | [], n => by simp
  | a :: r, n => by
    obtain ⟨h1, h2⟩ := foldl_min_mem r (min n a)
    rw [List.foldl_cons]
    have hmn : min n a ≤ n := by omega
    have hma : min n a ≤ a := by omega
    refine ⟨?_, fun y hy => ?_⟩
    · rcases List.mem_cons.mp h1 with e | h1
      · rw [e]
        rcases Int.le_total n a with h | h
        · rw [show min n a = n by omega]; simp
        · rw [show min n a = a by omega]; simp
      · simp [h1]
    · have h0 := h2 (min n a) (by simp)
      rcases List.mem_cons.mp hy with rfl | hy
      · omega
      · rcases List.mem_cons.mp hy with rfl | hy
        · omega
        · exact h2 y (by simp [hy])
theorem foldl_max_mem : ∀ (r : List Int) (n : Int), r.foldl max n ∈ n :: r ∧ ∀ y ∈ n :: r, y ≤ r.foldl max n
  | [], n => by simp
  | a :: r, n => by
    obtain ⟨h1, h2⟩ := foldl_max_mem r (max n a)
    rw [List.foldl_cons]
    have hmn : n ≤ max n a := by omega
    have hma : a ≤ max n a := by omega
    refine ⟨?_, fun y hy => ?_⟩
    · rcases List.mem_cons.mp h1 with e | h1
      · rw [e]
        rcases Int.le_total n a with h | h
        · rw [show max n a = a by omega]; simp
        · rw [show max n a = n by omega]; simp
      · simp [h1]
    · have h0 := h2 (max n a) (by simp)
      rcases List.mem_cons.mp hy with rfl | hy
      · omega
      · rcases List.mem_cons.mp hy with rfl | hy
        · omega
        · exact h2 y (by simp [hy])
def gMinL : D → Option D
  | .list ds => ((intsOf ds).bind lMin).map .int
  | _ => none
def gMaxL : D → Option D
  | .list ds => ((intsOf ds).bind lMax).map .int
  | _ => none
theorem on_minL : OpN (rMin X.K) c [m] .fz (g1 gMinL) := fun fp σ S H vs ds z Q R rv e q => by
  obtain ⟨v, d, rfl, rfl, r⟩ := rv.one
  cases d with
  | list ds =>
    simp only [g1, gMinL] at e
    cases hn : intsOf ds with
    | none => rw [hn] at e; cases e
    | some ns =>
      rw [hn] at e
      cases ns with
      | nil => cases e
      | cons n t =>
        cases e
        obtain ⟨a, xs, rfl, h, r2⟩ := r.list (K := X.K)
        rw [intsOf_eq hn] at r2
        have := r2.intsV
        subst this
        refine ⟨a, n :: t, rfl, h, by simp, fun m' h1 h2 => ?_⟩
        obtain ⟨k1, k2⟩ := foldl_min_mem t n
        have e1 : m' = t.foldl min n := by
          have a1 := h2 _ k1
          have a2 := k2 _ h1
          omega
        rw [e1]
        exact q _ H (Same.refl H) rpm_int
  | _ => cases e
theorem on_maxL : OpN (rMax X.K) c [m] .fz (g1 gMaxL) := fun fp σ S H vs ds z Q R rv e q => by
  obtain ⟨v, d, rfl, rfl, r⟩ := rv.one
  cases d with
  | list ds =>
    simp only [g1, gMaxL] at e
    cases hn : intsOf ds with
    | none => rw [hn] at e; cases e
    | some ns =>
      rw [hn] at e
      cases ns with
      | nil => cases e
      | cons n t =>
        cases e
        obtain ⟨a, xs, rfl, h, r2⟩ := r.list (K := X.K)
        rw [intsOf_eq hn] at r2
        have := r2.intsV
        subst this
        refine ⟨a, n :: t, rfl, h, by simp, fun m' h1 h2 => ?_⟩
        obtain ⟨k1, k2⟩ := foldl_max_mem t n
        have e1 : m' = t.foldl max n := by
          have a1 := h2 _ k1
          have a2 := k2 _ h1
          omega
        rw [e1]
        exact q _ H (Same.refl H) rpm_int
  | _ => cases e
/-- list(..), tuple(..) -/
def gList (d : D) : Option D := (itemsOf d).map .list
def gTuple (d : D) : Option D := (itemsOf d).map .tuple
theorem on_list : OpN (fun xs H Q => ∃ p ys, xs = [.ref p] ∧ (SqL X.K H p ys ∨ SqT X.K H p ys) ∧ ∀ l, H l = none → Q (.ref l) (upd H l (.lst ys))) c [m] (mdI m) (g1 gList) := fun fp σ S H vs ds z Q R rv e q => by
  obtain ⟨v, d, rfl, rfl, r⟩ := rv.one
  simp only [g1, gList] at e
  cases hi : itemsOf d with
  | none => rw [hi] at e; cases e
  | some ds =>
    rw [hi] at e
    cases e
    obtain ⟨a, xs, rfl, h, r2⟩ := r.items (K := X.K) hi
    exact ⟨a, xs, rfl, h, fun l hl => q _ _ (same_upd hl) (rpm_of (rp_newL (itB_live R m) hl r2))⟩
theorem on_tuple : OpN (fun xs H Q => ∃ p ys, xs = [.ref p] ∧ ((SqL X.K H p ys ∧ ∀ l, H l = none → Q (.ref l) (upd H l (.tup ys))) ∨ (SqT X.K H p ys ∧ Q (.ref p) H))) c [m] (mdI m) (g1 gTuple) := fun fp σ S H vs ds z Q R rv e q => by
  obtain ⟨v, d, rfl, rfl, r⟩ := rv.one
  cases d with
  | list ds =>
    cases e
    obtain ⟨a, xs, rfl, h, r2⟩ := r.list (K := X.K)
    exact ⟨a, xs, rfl, .inl ⟨h, fun l hl => q _ _ (same_upd hl) (rpm_of (rp_newT hl r2))⟩⟩
  | tuple ds =>
    cases e
    obtain ⟨a, xs, rfl, h, r2⟩ := r.tuple
    exact ⟨a, xs, rfl, .inr ⟨.inl (.inl h), q _ H (Same.refl H) (rpm_of (.tup h r2))⟩⟩
  | _ => cases e
/-- all, any of a list of truths -/
def blsOf : List D → Option (List Bool)
  | [] => some []
  | .bool n :: r => (blsOf r).map (n :: ·)
  | _ => none
theorem blsOf_eq : ∀ {ds : List D} {ns : List Bool}, blsOf ds = some ns → ds = ns.map .bool
  | [], ns, h => by cases h; rfl
  | d :: r, ns, h => by
    cases d with
    | bool n =>
      simp only [blsOf] at h
      cases hr : blsOf r with
      | none => rw [hr] at h; cases h
      | some ms =>
        rw [hr] at h
        cases h
        rw [blsOf_eq hr]
        rfl
    | _ => cases h
theorem blsOf_map (ns : List Bool) : blsOf (ns.map .bool) = some ns := by
  induction ns with
  | nil => rfl
  | cons n r ih => simp only [List.map_cons, blsOf, ih, Option.map_some]
def gAll : D → Option D
  | .list ds => (blsOf ds).map fun bs => .bool (bs.all id)
  | _ => none
def gAny : D → Option D
  | .list ds => (blsOf ds).map fun bs => .bool (bs.any id)
  | _ => none
theorem on_all : OpN (rAll X.K) c [m] .fz (g1 gAll) := fun fp σ S H vs ds z Q R rv e q => by
  obtain ⟨v, d, rfl, rfl, r⟩ := rv.one
  cases d with
  | list ds =>
    simp only [g1, gAll] at e
    cases hn : blsOf ds with
    | none => rw [hn] at e; cases e
    | some ns =>
      rw [hn] at e
      cases e
      obtain ⟨a, xs, rfl, h, r2⟩ := r.list (K := X.K)
      rw [blsOf_eq hn] at r2
      have := r2.blsV
      subst this
      exact ⟨a, ns, rfl, h, q _ H (Same.refl H) rpm_bl⟩
  | _ => cases e
theorem on_any : OpN (rAny X.K) c [m] .fz (g1 gAny) := fun fp σ S H vs ds z Q R rv e q => by
  obtain ⟨v, d, rfl, rfl, r⟩ := rv.one
  cases d with
  | list ds =>
    simp only [g1, gAny] at e
    cases hn : blsOf ds with
    | none => rw [hn] at e; cases e
    | some ns =>
      rw [hn] at e
      cases e
      obtain ⟨a, xs, rfl, h, r2⟩ := r.list (K := X.K)
      rw [blsOf_eq hn] at r2
      have := r2.blsV
      subst this
      exact ⟨a, ns, rfl, h, q _ H (Same.refl H) rpm_bl⟩
  | _ => cases e
def gInt : D → Option D
  | .int i => some (.int i)
  | .bool k => some (.int (if k then 1 else 0))
  | _ => none
theorem on_int : OpN (fun xs H Q => (∃ i, xs = [.int i] ∧ Q (.int i) H) ∨ ∃ k, xs = [.bl k] ∧ Q (.int (if k then 1 else 0)) H) c [m] .fz (g1 gInt) := fun fp σ S H vs ds z Q R rv e q => by
  obtain ⟨v, d, rfl, rfl, r⟩ := rv.one
  cases d with
  | int i =>
    cases e
    exact .inl ⟨i, by rw [r.intV], q _ H (Same.refl H) rpm_int⟩
  | bool k =>
    cases e
    exact .inr ⟨k, by rw [r.blV], q _ H (Same.refl H) rpm_int⟩
  | _ => cases e
end
end FV
end
section
set_option Elab.async false
set_option linter.all false
set_option maxRecDepth 100000
set_option maxHeartbeats 4000000
/-! Subscripts, slices, sorted, repr, isinstance, ranges as lists, sets' sizes, over trees. -/
namespace FV
open PySem PySem.Spec PyProof.Rows L2
section
variable {X : Cx} {c : Cf} {m m' ma mb : Md} {a b e : Expr} {pos : Pos} {wr w1 w2 w3 : List Nat} {m1' m2' m3' : Md} {f fa fb fc : SM}
/-! ### unary minus -/
def gNeg : D → Option D
  | .int i => some (.int (-i))
  | _ => none
theorem o1_neg : Op1 (rU fun i => .int (-i)) c m .fz gNeg := fun fp σ S H v x z Q R rx e q => by
  cases x with
  | int i =>
    cases e
    exact ⟨i, rx.intV, q _ H (Same.refl H) rpm_int⟩
  | _ => cases e
theorem se_neg (ha : SE c X a wr m fa) : SE c X (.UnaryOp .USub a pos) wr .fz (FV.m1 gNeg fa) := peImp (pe_un un_neg ha) fun _ _ _ h => t_un o1_neg h
/-! ### a[i] -/
def gIdx (x y : D) : Option D := match y with
  | .int i => (itemsOf x).bind fun ds => atI ds i
  | _ => none
theorem atI_rp {H : Hp} {B : Addr → Prop} {xs : List V} {ds : List D} {i : Int} {d : D} (r : RpAll H B xs ds) (h : atI ds i = some d) : ∃ v, atI xs i = some v ∧ Rp H B v d := by
  unfold atI at h ⊢
  rw [r.length]
  cases hi : ixN ds.length i with
  | none => rw [hi] at h; cases h
  | some j =>
    rw [hi] at h
    exact r.get h
def rIxA (K : PySem.W.Frag) : R2 := fun x y H Q => rIxL K x y H Q ∨ rIxT K x y H Q
theorem ix_A : IxR X (rIxA X.K) := IxR.or ix_list ix_tup
theorem o2_idx : Op2 (rIxA X.K) c ma mb (mdI ma) gIdx := fun fp σ S H v w x y z Q R rx ry e q => by
  cases y with
  | int i =>
    simp only [gIdx] at e
    cases hi : itemsOf x with
    | none => rw [hi] at e; cases e
    | some ds =>
      rw [hi] at e
      simp only [Option.bind_some] at e
      cases x with
      | list es =>
        cases hi
        obtain ⟨p, xs, rfl, h, r⟩ := rx.list (K := X.K)
        obtain ⟨u, e1, r1⟩ := atI_rp r e
        exact .inl ⟨p, xs, i, u, rfl, ry.intV, h, e1, q _ H (Same.refl H) (rpm_of r1)⟩
      | tuple es =>
        cases hi
        obtain ⟨p, xs, rfl, h, r⟩ := rx.tuple
        obtain ⟨u, e1, r1⟩ := atI_rp r e
        exact .inr ⟨p, xs, i, u, rfl, ry.intV, .inl (.inl h), e1, q _ H (Same.refl H) (rpm_of r1)⟩
      | _ => cases hi
  | _ => cases e
theorem se_idx (hs : PlainIx b) (hm : m1' = .fz ∨ w2 = []) (ha : SE c X a w1 m1' fa) (hb : SE c X b w2 m2' fb) : SE c X (.Subscript a b pos) (w1 ++ w2) (mdI m1') (FV.m2 gIdx fa fb) :=
  peImp (pe_ix ix_A ha hb hs) fun _ _ _ h => t_bin o2_idx hm h
/-! ### a[lo:hi] -/
def sOf : D → Option (Option Int)
  | .none => some none
  | .int i => some (some i)
  | _ => none
def cutD (xs : List D) (lo hi : Option Int) : List D := (xs.drop (HT.sIx xs.length 0 lo)).take (HT.sIx xs.length xs.length hi - HT.sIx xs.length 0 lo)
def gCut (lo hi : Option Int) : D → Option D
  | .list ds => some (.list (cutD ds lo hi))
  | .tuple ds => some (.tuple (cutD ds lo hi))
  | _ => none
theorem cut_rp {H : Hp} {B : Addr → Prop} {xs : List V} {ds : List D} (r : RpAll H B xs ds) (lo hi : Option Int) : RpAll H B (cutV xs lo hi) (cutD ds lo hi) := by
  unfold cutV cutD
  rw [r.length]
  exact (r.drop _).take _
/-- a part of a slice -/
structure SO (c : Cf) (X : Cx) (e : Option Expr) (wr : List Nat) (f : Sl → Option (Option Int × Sl)) : Prop where
  run : PO X e fun σ H Q => ∃ fp S, Rel c fp σ S H ∧ ∃ d S', f S = some (d, S') ∧ ∀ H' fp', Rel c fp' σ S' H' → Chg c wr fp H fp' H' → Q d H'
def oNone : Sl → Option (Option Int × Sl) := fun S => some (none, S)
def oSome (f : SM) : Sl → Option (Option Int × Sl) := fun S => (f S).bind fun r => match r.1 with
  | .int i => some (some i, r.2)
  | _ => none
theorem so_none : SO c X none [] oNone := ⟨⟨fun pins s σ H Q I ⟨fp, S, R, d, S', e, q⟩ => by
  cases e
  exact po_none.run pins s σ H Q I (q H fp R .refl)⟩⟩
theorem so_some (h : SE c X a wr m fa) : SO c X (some a) wr (oSome fa) := ⟨⟨fun pins s σ H Q I ⟨fp, S, R, d, S', e, q⟩ => by
  refine (po_some h).run pins s σ H Q I ?_
  unfold oSome at e
  cases hf : fa S with
  | none => rw [hf] at e; cases e
  | some r =>
    obtain ⟨x, S1⟩ := r
    rw [hf] at e
    simp only [Option.bind_some] at e
    cases x with
    | int i =>
      cases e
      exact ⟨fp, S, R, .int i, _, hf, fun v H' fp' R' C rv => ⟨i, rv.intV, q H' fp' R' C⟩⟩
    | _ => cases e⟩⟩
def mCut (a : SM) (lo hi : Sl → Option (Option Int × Sl)) : SM := fun S => (a S).bind fun r => (lo r.2).bind fun l => (hi l.2).bind fun h => (gCut l.1 h.1 r.1).map fun z => (z, h.2)
theorem mCut_inv {lo hi : Sl → Option (Option Int × Sl)} {S S' : Sl} {z : D} (h : mCut fa lo hi S = some (z, S')) : ∃ x S1 l S2 u, fa S = some (x, S1) ∧ lo S1 = some (l, S2) ∧ hi S2 = some (u, S') ∧ gCut l u x = some z := by
  unfold mCut at h
  cases hf : fa S with
  | none => rw [hf] at h; cases h
  | some r =>
    obtain ⟨x, S1⟩ := r
    rw [hf] at h
    simp only [Option.bind_some] at h
    cases hl : lo S1 with
    | none => rw [hl] at h; cases h
    | some l =>
      obtain ⟨l, S2⟩ := l
      rw [hl] at h
      simp only [Option.bind_some] at h
      cases hh : hi S2 with
      | none => rw [hh] at h; cases h
      | some u =>
        obtain ⟨u, S3⟩ := u
        rw [hh] at h
        simp only [Option.bind_some] at h
        cases hg : gCut l u x with
        | none => rw [hg] at h; cases h
        | some z' =>
          rw [hg] at h
          cases h
          exact ⟨x, S1, l, S2, u, rfl, hl, hh, hg⟩
def rSlAll (K : PySem.W.Frag) : V → Option Int → Option Int → Hp → VK → Prop := fun x lo hi H Q => rSlL K x lo hi H Q ∨ rSlA K x lo hi H Q
theorem sl_all : SlR X (rSlAll X.K) := SlR.or sl_list sl_tupA
theorem cut_whole {xs : List V} {lo hi : Option Int} (h : HT.sIx xs.length 0 lo = 0 ∧ HT.sIx xs.length xs.length hi = xs.length) : cutV xs lo hi = xs := by
  unfold cutV
  rw [h.1, h.2, List.drop_zero, Nat.sub_zero, List.take_length]
theorem se_cut {lo hi : Option Expr} {fl fh : Sl → Option (Option Int × Sl)} {p2 : Pos} (hm : m1' = .fz ∨ (w2 = [] ∧ w3 = [])) (ha : SE c X a w1 m1' fa) (hl : SO c X lo w2 fl) (hh : SO c X hi w3 fh) :
    SE c X (.Subscript a (.Slice lo hi none p2) pos) (w1 ++ (w2 ++ w3)) (mdI m1') (mCut fa fl fh) := peImp (pe_slice sl_all ha hl.run hh.run) fun σ H Q ⟨fp, S, R, z, S', e, q⟩ => by
  obtain ⟨x, S1, l, S2, u, e1, e2, e3, e4⟩ := mCut_inv e
  refine ⟨fp, S, R, x, S1, e1, fun v H1 fp1 R1 C1 rv => ⟨fp1, S1, R1, l, S2, e2, fun H2 fp2 R2 C2 => ⟨fp2, S2, R2, u, S', e3, fun H3 fp3 R3 C3 => ?_⟩⟩⟩
  have r3 : RpM c fp3 m1' H3 v x := (rv.chg R1 C2 (hm.imp id (·.1))).chg R2 C3 (hm.imp id (·.2))
  have CC : Chg c (w1 ++ (w2 ++ w3)) fp H fp3 H3 := C1.trans (C2.trans C3)
  have fin : ∀ u H', Same H3 H' → RpM c fp3 (mdI m1') H' u z → Q u H' := fun u H' s r => by
    have C4 := CC.trans (Chg.ext (c := c) (fp := fp3) s)
    rw [List.append_nil] at C4
    exact q u H' fp3 (R3.ext s) C4 r
  cases x with
  | list ds =>
    cases e4
    obtain ⟨p, xs, rfl, h, r⟩ := r3.list (K := X.K)
    exact .inl ⟨p, xs, rfl, h, fun n hn => fin _ _ (same_upd hn) (rpm_of (rp_newL (itB_live R3 _) hn (cut_rp r l u)))⟩
  | tuple ds =>
    cases e4
    obtain ⟨p, xs, rfl, h, r⟩ := r3.tuple
    refine .inr ⟨p, xs, rfl, .inl (.inl h), fun hw => ?_, fun _ n hn => fin _ _ (same_upd hn) (rpm_of (rp_newT hn (cut_rp r l u)))⟩
    have r' := cut_rp r l u
    rw [cut_whole hw] at r'
    exact fin _ H3 (Same.refl _) (rpm_of (.tup h r'))
  | _ => cases e4
/-- a[::-1], a list -/
def gRevL : D → Option D
  | .list ds => some (.list ds.reverse)
  | _ => none
theorem se_revL {k : Nat} {p1 p2 p3 : Pos} (ha : SE c X a wr m fa) : SE c X (.Subscript a (.Slice none none (some (.UnaryOp .USub (.Constant (.int 1) k p1) p2)) p3) pos) wr (mdI m) (FV.m1 gRevL fa) :=
  peImp (pe_revL ha) fun σ H Q h => by
    refine t_un (g := gRevL) (m' := mdI m) (r := fun x H1 Q => ∃ a xs, x = .ref a ∧ SqL X.K H1 a xs ∧ ∀ p, H1 p = none → Q (.ref p) (upd H1 p (.lst xs.reverse))) ?_ h
    intro fp σ S H v x z Q R rx e q
    cases x with
    | list ds =>
      cases e
      obtain ⟨p, xs, rfl, h, r⟩ := rx.list (K := X.K)
      exact ⟨p, xs, rfl, h, fun n hn => q _ _ (same_upd hn) (rpm_of (rp_newL (itB_live R m) hn r.reverse))⟩
    | _ => cases e
/-! ### sorted(list) -/
def allAlike (ds : List D) : Bool := ds.all fun d => ds.all fun e => PySem.W.alike d e
def isTupC : D → Bool
  | .tuple (_ :: _) => true
  | _ => false
def noTupNone : D → Bool
  | .none => false
  | .tuple _ => false
  | _ => true
def sortOk (ds : List D) : Bool := allAlike ds && (ds.all isTupC || ds.all noTupNone) && ds.all fun d => decide (d.depth ≤ 64)
def sortD (ds : List D) : List D := ds.mergeSort (PySem.W.dataLe false id)
def gSorted : D → Option D
  | .list ds => if ds.length < 2 then some (.list ds) else if sortOk ds = true then some (.list (sortD ds)) else none
  | _ => none
theorem allAlike_of {ds : List D} (h : allAlike ds = true) : PySem.W.AllAlike ds := fun d hd e he => by
  have h1 := List.all_eq_true.mp h d hd
  exact List.all_eq_true.mp h1 e he
theorem sortable_of {ds : List D} (h : (ds.all isTupC || ds.all noTupNone) = true) : PySem.W.Sortable ds := by
  rcases Bool.or_eq_true_iff.mp h with h | h
  · refine .inl fun d hd => ?_
    have h1 := List.all_eq_true.mp h d hd
    cases d with
    | tuple xs =>
      cases xs with
      | nil => cases h1
      | cons x r => exact ⟨x, r, rfl⟩
    | _ => cases h1
  · refine .inr fun d hd => ?_
    have h1 := List.all_eq_true.mp h d hd
    cases d with
    | none => cases h1
    | tuple _ => cases h1
    | bool _ => exact ⟨(by intro z; cases z), (by intro _ z; cases z)⟩
    | int _ => exact ⟨(by intro z; cases z), (by intro _ z; cases z)⟩
    | str _ => exact ⟨(by intro z; cases z), (by intro _ z; cases z)⟩
    | list _ => exact ⟨(by intro z; cases z), (by intro _ z; cases z)⟩
    | dict _ => exact ⟨(by intro z; cases z), (by intro _ z; cases z)⟩
/-- the list's items, sorted as trees -/
def rSortA (K : PySem.W.Frag) (A : Around) : List V → Hp → VK → Prop := fun vs H Q => ∃ (a : Addr) (xs : List V) (ds : List D), vs = [V.ref a] ∧ SqL K H a xs ∧ RpAll H (fun _ => False) xs ds ∧
  ((ds.length < 2 ∧ ∀ p, H p = none → Q (.ref p) (upd H p (.lst xs))) ∨ (sortOk ds = true ∧ ∀ (zs : List (V × D)) p, zs = (xs.zip ds).mergeSort (PySem.W.dataLe false (·.2)) → H p = none → Q (.ref p) (upd H p (.lst (zs.map (·.1))))))
theorem each_zip {h : Heap} {K : PySem.W.Frag} {H : Hp} : ∀ {xs : List V} {us : List Value} {ds : List D}, Vals xs us → xs.length = ds.length → PySem.W.EachIs (fun u p => RelV p.1 u) us (xs.zip ds)
  | [], _, _, .nil, _ => .nil
  | x :: xs, _ :: _, [], .cons _ _, h => by simp at h
  | x :: xs, u :: us, d :: ds, .cons r t, h => .cons r (each_zip (h := ‹Heap›) (K := K) (H := H) t (by simpa using h))
theorem each_reads {h : Heap} : ∀ {xs : List V} {us : List Value} {ds : List D} {as : List Addr}, xs.length = ds.length → ReadsAll h us ds as → PySem.W.EachIs (fun u (p : V × D) => ∃ bs, Reads h u p.2 bs) us (xs.zip ds)
  | xs, _, [], _, hl, .nil => by
    cases xs with
    | nil => exact .nil
    | cons _ _ => simp at hl
  | [], _, d :: ds, _, hl, _ => by simp at hl
  | x :: xs, _, d :: ds, _, hl, .cons h1 h2 => .cons ⟨_, h1⟩ (each_reads (by simpa using hl) h2)
theorem vals_each : ∀ {us : List Value} {zs : List (V × D)}, PySem.W.EachIs (fun u p => RelV p.1 u) us zs → Vals (zs.map (·.1)) us
  | _, _, .nil => .nil
  | _, _, .cons r t => .cons r (vals_each t)
theorem zip_snd {α β : Type} : ∀ (xs : List α) (ds : List β), xs.length = ds.length → (xs.zip ds).map (·.2) = ds
  | [], [], _ => rfl
  | [], _ :: _, h => by simp at h
  | _ :: _, [], h => by simp at h
  | x :: xs, d :: ds, h => by
    rw [List.zip_cons_cons, List.map_cons, zip_snd xs ds (by simpa using h)]
theorem zip_fst {α β : Type} : ∀ (xs : List α) (ds : List β), xs.length = ds.length → (xs.zip ds).map (·.1) = xs
  | [], [], _ => rfl
  | [], _ :: _, h => by simp at h
  | _ :: _, [], h => by simp at h
  | x :: xs, d :: ds, h => by
    rw [List.zip_cons_cons, List.map_cons, zip_fst xs ds (by simpa using h)]
theorem swo_none : SrtO.Swo (fun (_ _ : Value) => false) where
  asym := fun _ _ _ => rfl
  tr := fun _ _ _ _ _ => rfl
theorem cr_sortA (hu : X.A.units + 100 < cLine) : CallR X (.builtin "sorted") (rSortA X.K X.A) := fun pins s σ H vs us Q I r ⟨a, xs, ds, e, hs, rp, h⟩ => by
  subst e
  obtain ⟨its, rv, hl, hz⟩ := I.list hs
  rw [Vals.ref1 r]
  have hlen : its.length = ds.length := by rw [← rv.length, rp.length]
  rcases h with ⟨h2, q⟩ | ⟨hk, q⟩
  · refine SrtO.sorted_ord swo_none hl.isList (by rw [← rv.length]; exact hz) (fun h3 => by omega) fun out h4 h5 => ?_
    have eo : out = its := by
      have hp := h5.perm
      match its, out, hp with
      | [], out, hp => exact hp.eq_nil
      | [x], out, hp => exact List.perm_singleton.mp hp
      | _ :: _ :: _, _, _ => simp at hlen; omega
    subst eo
    obtain ⟨ep, he'⟩ := PyProof.Rows.sortedAll_at s.heap out out.toArray
    exact ⟨.ref _, upd H (s.heap.objs.size + 1) (.lst xs), I.laid (t' := s.toks) (fun _ _ => PyProof.Rows.sortedAll_old) (Nat.le_succ _) ⟨hz, out, ep, rv, he'⟩, rfl, q _ (I.hok.fresh (Nat.le_succ _))⟩
  · unfold sortOk at hk
    rw [Bool.and_eq_true, Bool.and_eq_true] at hk
    obtain ⟨⟨k1, k2⟩, k3⟩ := hk
    obtain ⟨as, hr⟩ := Dp.readsAll I ds xs its rp.dp rv
    have e2 : ((xs.zip ds).map (·.2)) = ds := zip_snd xs ds rp.length
    refine PySem.W.sorted_data (bs := xs.zip ds) (enc := (·.2)) (R := fun u p => RelV p.1 u) hl.isList (each_zip (h := s.heap) (K := X.K) (H := H) rv rp.length) (each_reads rp.length hr) (by rw [e2]; exact allAlike_of k1) (by rw [e2]; exact sortable_of k2) (by rw [List.length_zip]; omega) (fun p hp => ?_) fun out ho er => ?_
    · have hm : p.2 ∈ ds := by
        rw [← e2]
        exact List.mem_map_of_mem hp
      have := of_decide_eq_true (List.all_eq_true.mp k3 _ hm)
      omega
    · obtain ⟨ep, he'⟩ := PyProof.Rows.sortedAll_at s.heap its out.toArray
      have rv2 := vals_each er
      have hz2 : (((xs.zip ds).mergeSort (PySem.W.dataLe false (·.2))).map (·.1)).length ≤ sizeLine := by
        rw [rv2.length, ho, List.length_zip]
        omega
      exact ⟨.ref _, upd H (s.heap.objs.size + 1) (.lst _), I.laid (t' := s.toks) (fun _ _ => PyProof.Rows.sortedAll_old) (Nat.le_succ _) ⟨hz2, out, ep, rv2, he'⟩, rfl, q _ _ rfl (I.hok.fresh (Nat.le_succ _))⟩
theorem rpAll_of_pairs {H : Hp} {B : Addr → Prop} : ∀ {zs : List (V × D)}, (∀ p ∈ zs, Rp H B p.1 p.2) → RpAll H B (zs.map (·.1)) (zs.map (·.2))
  | [], _ => .nil
  | p :: zs, h => .cons (h p (by simp)) (rpAll_of_pairs fun q hq => h q (by simp [hq]))
theorem pairs_of_rpAll {H : Hp} {B : Addr → Prop} : ∀ {xs : List V} {ds : List D}, RpAll H B xs ds → ∀ p ∈ xs.zip ds, Rp H B p.1 p.2
  | _, _, .nil, p, h => by simp at h
  | _, _, .cons r t, p, h => by
    rw [List.zip_cons_cons, List.mem_cons] at h
    rcases h with rfl | h
    · exact r
    · exact pairs_of_rpAll t p h
theorem on_sorted : OpN (rSortA X.K X.A) c [m] (mdI m) (g1 gSorted) := fun fp σ S H vs ds z Q R rv e q => by
  obtain ⟨v, d, rfl, rfl, r⟩ := rv.one
  cases d with
  | list ds =>
    simp only [g1, gSorted] at e
    obtain ⟨a, xs, rfl, h, r2⟩ := r.list (K := X.K)
    refine ⟨a, xs, ds, rfl, h, r2.fal, ?_⟩
    split at e
    · rename_i hl
      cases e
      exact .inl ⟨hl, fun p hp => q _ _ (same_upd hp) (rpm_of (rp_newL (itB_live R m) hp r2))⟩
    · split at e
      · rename_i hk
        cases e
        refine .inr ⟨hk, fun zs p hz hp => q _ _ (same_upd hp) (rpm_of (rp_newL (itB_live R m) hp ?_))⟩
        have hs : zs.map (·.2) = sortD ds := by
          rw [hz]
          unfold sortD
          have := PySem.W.sort_maps (r := PySem.W.dataLe false (fun p : V × D => p.2)) (s := PySem.W.dataLe false (id : D → D)) (fun p : V × D => p.2) (l := xs.zip ds) (fun a _ b _ => rfl)
          rw [this, zip_snd xs ds r2.length]
        rw [← hs]
        refine rpAll_of_pairs fun p hp => ?_
        rw [hz] at hp
        exact pairs_of_rpAll r2 p ((List.mergeSort_perm _ _).mem_iff.mp hp)
      · cases e
  | _ => cases e
/-! ### repr -/
def reprOk (d : D) : Bool := d.showable && !d.hasDict && decide (d.depth ≤ 64) && decide (d.shown.length ≤ sizeLine)
def isRefD : D → Bool
  | .list _ => true
  | .tuple _ => true
  | _ => false
def gRepr (d : D) : Option D := if reprOk d = true ∧ isRefD d = true then some (.str d.shown) else none
def rRepr (K : PySem.W.Frag) : List V → Hp → VK → Prop := fun vs H Q => ∃ v d, vs = [v] ∧ Rp H (fun _ => False) v d ∧ reprOk d = true ∧ isRefD d = true ∧ Q (.str d.shown) H
theorem cr_repr (hg : X.A.guards = some []) (hu : X.A.units + 100 < cLine) : CallR X (.builtin "repr") (rRepr X.K) := fun pins s σ H vs us Q I r ⟨v, d, e, rp, ok, ir, q⟩ => by
  subst e
  obtain ⟨u, rfl, ru⟩ := vals1 r
  unfold reprOk at ok
  simp only [Bool.and_eq_true, Bool.not_eq_true', decide_eq_true_eq] at ok
  obtain ⟨⟨⟨o1, o2⟩, o3⟩, o4⟩ := ok
  obtain ⟨as, hr⟩ := Dp.reads I d v u rp.dp ru
  obtain ⟨p, rfl⟩ : ∃ p, u = Value.ref p := by
    cases rp with
    | lst _ _ _ => cases ru; exact ⟨_, rfl⟩
    | frz _ _ => cases ru; exact ⟨_, rfl⟩
    | tup _ _ => cases ru; exact ⟨_, rfl⟩
    | _ => cases ir
  exact repr_of_reads' hr o1 (PyData.noDict_hsm o2) hg (by omega) (fun _ _ e => e) (fun h' u tk hk => ⟨.str d.shown, H, I.kept hk, ⟨u, rfl⟩, q⟩) o4
theorem on_repr : OpN (rRepr X.K) c [m] .fz (g1 gRepr) := fun fp σ S H vs ds z Q R rv e q => by
  obtain ⟨v, d, rfl, rfl, r⟩ := rv.one
  simp only [g1, gRepr] at e
  split at e
  · rename_i h
    cases e
    exact ⟨v, d, rfl, r.bo, h.1, h.2, q _ H (Same.refl H) rpm_str⟩
  · cases e
end
end FV
end
section
set_option Elab.async false
set_option linter.all false
set_option maxRecDepth 100000
set_option maxHeartbeats 4000000
namespace FV
open PySem PySem.Spec PyProof.Rows L2
section
variable {X : Cx} {c : Cf} {m m' ma mb mc : Md} {a b e : Expr} {pos p p2 p3 : Pos} {wr w1 w2 w3 : List Nat} {f fa fb fc : SM}
/-! ### isinstance -/
def tyD : D → String
  | .none => "NoneType"
  | .bool _ => "bool"
  | .int _ => "int"
  | .str _ => "str"
  | .list _ => "list"
  | .tuple _ => "tuple"
  | .dict _ => "dict"
def tyNames : List String := ["NoneType", "bool", "int", "str", "list", "tuple", "dict"]
def askNames : List String := ["int", "bool", "str", "list", "tuple", "dict"]
def instT (T : String) (d : D) : Bool := (tyD d == T) || ((T == "int") && (tyD d == "bool"))
theorem kitAll : ∀ t ∈ tyNames, ∀ T ∈ askNames, kitB t T = some ((t == T) || ((T == "int") && (t == "bool"))) := by decide +kernel
theorem tyD_mem (d : D) : tyD d ∈ tyNames := by cases d <;> simp [tyD, tyNames]
theorem kit_inst {T : String} (hT : T ∈ askNames) (d : D) : kitB (tyD d) T = some (instT T d) := kitAll _ (tyD_mem d) T hT
theorem tyX_of {K : PySem.W.Frag} {H : Hp} {B : Addr → Prop} {v : V} {d : D} (r : Rp H B v d) : TyX K H v (.type (tyD d)) := by
  cases r with
  | non => exact .base .non
  | bl b => exact .base (.bl b)
  | int i => exact .base (.int i)
  | str x => exact .base (.str x)
  | lst e _ _ => exact .base (.lst e)
  | frz e _ => exact .base (.frz e)
  | tup e _ => exact .base (.tup e)
def gInst (T : String) (d : D) : Option D := some (.bool (instT T d))
theorem se_inst {x xT : Str} {T : String} (hT : T ∈ askNames) (hg : Gl X x) (hm : X.mg x = none) (hv : bootBuiltins x = some (.builtin "isinstance")) (hn : x ≠ "__name__") (hd : (x == ("__debug__" : Str)) = false)
    (gT : Gl X xT) (mT : X.mg xT = none) (vT : bootBuiltins xT = some (.type T)) (nT : xT ≠ "__name__") (dT : (xT == ("__debug__" : Str)) = false)
    (hs : starEach [a, .Name xT p3] X.env = (false, eval a X.env) :: starEach [.Name xT p3] X.env) (hs2 : starEach [.Name xT p3] X.env = (false, eval (.Name xT p3) X.env) :: starEach [] X.env) (hpl : (backTo pos (starEach [.Name xT p3] X.env)).any (·.1) = false)
    (ha : SE c X a wr m fa) : SE c X (.Call (.Name x p) [a, .Name xT p3] [] pos) wr .fz (FV.m1 (gInst T) fa) :=
  peImp (pe_callB call_isi hg hm hv (pa_cons ha (pa_cons (pe_bltn (v := .ty T) gT mT vT rfl nT dT) pa_nil hs2) hs) hn hd hs hpl) fun σ H Q h => by
    refine t_un (g := gInst T) (m' := .fz) (r := fun v H1 Q => rIsi X.K [v, .ty T] H1 Q) ?_ h
    intro fp σ S H v x z Q R rx e q
    cases e
    exact ⟨v, .ty T, _, _, instT T x, rfl, .ty T, tyX_of rx.bo, kit_ty (kit_inst hT x), q _ H (Same.refl H) rpm_bl⟩
/-! ### a op b op c -/
def mChain (g g' : D → D → Option D) (a b d : SM) : SM := fun S => (a S).bind fun r => (b r.2).bind fun q => (g r.1 q.1).bind fun k => match k with
  | .bool true => (d q.2).bind fun t => (g' q.1 t.1).map fun z => (z, t.2)
  | .bool false => some (.bool false, q.2)
  | _ => none
theorem mChain_inv {g g' : D → D → Option D} {S S' : Sl} {z : D} (h : mChain g g' fa fb fc S = some (z, S')) : ∃ x S1 y S2, fa S = some (x, S1) ∧ fb S1 = some (y, S2) ∧
    ((g x y = some (.bool false) ∧ z = .bool false ∧ S' = S2) ∨ (g x y = some (.bool true) ∧ ∃ t, fc S2 = some (t, S') ∧ g' y t = some z)) := by
  unfold mChain at h
  cases hf : fa S with
  | none => rw [hf] at h; cases h
  | some r =>
    obtain ⟨x, S1⟩ := r
    rw [hf] at h
    simp only [Option.bind_some] at h
    cases hb : fb S1 with
    | none => rw [hb] at h; cases h
    | some q =>
      obtain ⟨y, S2⟩ := q
      rw [hb] at h
      simp only [Option.bind_some] at h
      refine ⟨x, S1, y, S2, rfl, hb, ?_⟩
      cases hg : g x y with
      | none => rw [hg] at h; cases h
      | some k =>
        rw [hg] at h
        simp only [Option.bind_some] at h
        cases k with
        | bool k =>
          cases k with
          | false => cases h; exact .inl ⟨rfl, rfl, rfl⟩
          | true =>
            refine .inr ⟨rfl, ?_⟩
            simp only at h
            cases hc : fc S2 with
            | none => rw [hc] at h; cases h
            | some t =>
              obtain ⟨t, S3⟩ := t
              rw [hc] at h
              simp only [Option.bind_some] at h
              cases hg' : g' y t with
              | none => rw [hg'] at h; cases h
              | some z' =>
                rw [hg'] at h
                cases h
                exact ⟨t, rfl, hg'⟩
        | _ => cases h
theorem t_chain {r r' : R2} {g g' : D → D → Option D} (ho : Op2 r c ma mb .fz g) (ho' : Op2 r' c mb mc .fz g') (h1 : ma = .fz ∨ w2 = []) (h2 : mb = .fz ∨ w3 = []) {σ : Sg} {H : Hp} {Q : VK} (h : tE c (w1 ++ (w2 ++ w3)) .fz (mChain g g' fa fb fc) σ H Q) :
    tChain r r' (tE c w1 ma fa) (tE c w2 mb fb) (tE c w3 mc fc) σ H Q := by
  obtain ⟨fp, S, R, z, S', e, q⟩ := h
  obtain ⟨x, S1, y, S2, e1, e2, e3⟩ := mChain_inv e
  refine ⟨fp, S, R, x, S1, e1, fun v H1 fp1 R1 C1 rv => ⟨fp1, S1, R1, y, S2, e2, fun w H2 fp2 R2 C2 rw' => ?_⟩⟩
  have rv2 := rv.chg R1 C2 h1
  rcases e3 with ⟨e3, rfl, rfl⟩ | ⟨e3, t, e4, e5⟩
  · refine ho fp2 σ S' H2 v w x y _ _ R2 rv2 rw' e3 fun u H3 s r3 => ⟨false, r3.blV, ?_⟩
    try dsimp only
    rw [if_neg (by simp)]
    have C3 : Chg c (w1 ++ (w2 ++ w3)) fp H fp2 H3 := ((C1.trans C2).trans (Chg.ext (c := c) (fp := fp2) s)).wide fun i hi => by
      simp only [List.append_nil, List.mem_append] at hi ⊢
      rcases hi with hi | hi
      · exact .inl hi
      · exact .inr (.inl hi)
    exact q _ H3 fp2 (R2.ext s) C3 rpm_bl
  · refine ho fp2 σ S2 H2 v w x y _ _ R2 rv2 rw' e3 fun u H3 s r3 => ⟨true, r3.blV, ?_⟩
    try dsimp only
    rw [if_pos rfl]
    refine ⟨fp2, S2, R2.ext s, t, S', e4, fun w' H4 fp4 R4 C4 r4 => ?_⟩
    have C3 := (C1.trans C2).trans (Chg.ext (c := c) (fp := fp2) s)
    rw [List.append_nil] at C3
    refine ho' fp4 σ S' H4 w w' y t z Q R4 ((rw'.same s).chg (R2.ext s) C4 h2) r4 e5 fun u' H5 s5 r5 => ?_
    have C5 := (C3.trans C4).trans (Chg.ext (c := c) (fp := fp4) s5)
    rw [List.append_nil, List.append_assoc] at C5
    exact q u' H5 fp4 (R4.ext s5) C5 r5
theorem se_chain {op op' : CmpOp} {r r' : R2} {g g' : D → D → Option D} {d : Expr} (hr : OpR X (compareOp op) r) (hr' : OpR X (compareOp op') r') (ho : Op2 r c ma mb .fz g) (ho' : Op2 r' c mb mc .fz g') (h1 : ma = .fz ∨ w2 = []) (h2 : mb = .fz ∨ w3 = [])
    (hm : lastMarks [op, op'] [b, d] = false) (ha : SE c X a w1 ma fa) (hb : SE c X b w2 mb fb) (hc : SE c X d w3 mc fc) : SE c X (.Compare a [op, op'] [b, d] pos) (w1 ++ (w2 ++ w3)) .fz (mChain g g' fa fb fc) :=
  peImp (pe_chain hr hr' ha hb hc hm) fun _ _ _ h => t_chain ho ho' h1 h2 h
theorem st_chain {op op' : CmpOp} {r r' : R2} {g g' : D → D → Option D} {d : Expr} (hr : OpR X (compareOp op) r) (hr' : OpR X (compareOp op') r') (ho : Op2 r c ma mb .fz g) (ho' : Op2 r' c mb mc .fz g') (h1 : ma = .fz ∨ w2 = []) (h2 : mb = .fz ∨ w3 = [])
    (hm : lastMarks [op, op'] [b, d] = false) (ha : SE c X a w1 ma fa) (hb : SE c X b w2 mb fb) (hc : SE c X d w3 mc fc) : ST c X (.Compare a [op, op'] [b, d] pos) (w1 ++ (w2 ++ w3)) (mChain g g' fa fb fc) :=
  ptImp (pt_chain hr hr' ha hb hc hm) fun σ H Q h => t_chain ho ho' h1 h2 (tT_of' (m := .fz) h)
/-! ### list(range(..)) -/
def rgD (a b : Int) : List D := (List.range (b - a).toNat).map fun i => PyData.int (a + (i : Nat))
theorem rgD_rp {H : Hp} {B : Addr → Prop} (a b : Int) : RpAll H B (rgV a b) (rgD a b) := by
  unfold rgV rgD
  generalize List.range (b - a).toNat = l
  induction l with
  | nil => exact .nil
  | cons i r ih => exact .cons (.int _) ih
def rgOkB (a b : Int) : Bool := decide (-4611686018427387904 ≤ a) && decide (a < 4611686018427387904) && decide (-4611686018427387904 ≤ b) && decide (b < 4611686018427387904) && decide ((b - a).toNat ≤ 16777216)
theorem rgOk_of {a b : Int} (h : rgOkB a b = true) : RgOk a b := by
  unfold rgOkB at h
  simp only [Bool.and_eq_true, decide_eq_true_eq] at h
  obtain ⟨⟨⟨⟨h1, h2⟩, h3⟩, h4⟩, h5⟩ := h
  exact ⟨h1, h2, h3, h4, h5⟩
def gRg1 : D → Option D
  | .int b => if rgOkB 0 b = true then some (.list (rgD 0 b)) else none
  | _ => none
def gRg2 : D → D → Option D
  | .int a, .int b => if rgOkB a b = true then some (.list (rgD a b)) else none
  | _, _ => none
theorem se_listRg1 {x y : Str} (hc : X.calm = true) (hg : Gl X "list") (hm : X.mg "list" = none) (hg2 : Gl X "range") (hm2 : X.mg "range" = none)
    (na : starEach [a] X.env = (false, eval a X.env) :: starEach [] X.env) (ha : SE c X a wr m fa) : SE c X (.Call (.Name "list" p) [.Call (.Name "range" p2) [a] [] p3] [] pos) wr .fz (FV.m1 gRg1 fa) :=
  peImp (pe_listRg hc hg hm (prg_1 hg2 hm2 ha na)) fun σ H Q h => by
    refine t_un (g := gRg1) (m' := .fz) (r := fun v H1 Q => ∃ n, v = .int n ∧ RgOk 0 n ∧ ∀ q, H1 q = none → Q (.ref q) (upd H1 q (.lst (rgV 0 n)))) ?_ h
    intro fp σ S H v x z Q R rx e q
    cases x with
    | int n =>
      simp only [gRg1] at e
      split at e
      · rename_i h
        cases e
        exact ⟨n, rx.intV, rgOk_of h, fun p hp => q _ _ (same_upd hp) (rp_newL (fun a h => Bd.live R h) hp (rgD_rp 0 n))⟩
      · cases e
    | _ => cases e
theorem se_listRg2 (hc : X.calm = true) (hg : Gl X "list") (hm : X.mg "list" = none) (hg2 : Gl X "range") (hm2 : X.mg "range" = none) (h12 : ma = .fz ∨ w2 = [])
    (na : starEach [a, b] X.env = (false, eval a X.env) :: starEach [b] X.env) (na2 : starEach [b] X.env = (false, eval b X.env) :: starEach [] X.env) (hpl : (backTo p3 (starEach [b] X.env)).any (·.1) = false) (ha : SE c X a w1 ma fa) (hb : SE c X b w2 mb fb) :
    SE c X (.Call (.Name "list" p) [.Call (.Name "range" p2) [a, b] [] p3] [] pos) (w1 ++ w2) .fz (FV.m2 gRg2 fa fb) :=
  peImp (pe_listRg hc hg hm (prg_2 hg2 hm2 ha hb na na2 hpl)) fun σ H Q h => by
    refine t_bin (g := gRg2) (m' := .fz) (r := fun v w H1 Q => ∃ i j, v = .int i ∧ w = .int j ∧ RgOk i j ∧ ∀ q, H1 q = none → Q (.ref q) (upd H1 q (.lst (rgV i j)))) ?_ h12 h
    intro fp σ S H v w x y z Q R rx ry e q
    cases x with
    | int i =>
      cases y with
      | int j =>
        simp only [gRg2] at e
        split at e
        · rename_i h
          cases e
          exact ⟨i, j, rx.intV, ry.intV, rgOk_of h, fun p hp => q _ _ (same_upd hp) (rp_newL (fun a h => Bd.live R h) hp (rgD_rp i j))⟩
        · cases e
      | _ => cases e
    | _ => cases e
/-! ### len(set(t)), a tuple of ints -/
def dd : List Int → List Int
  | [] => []
  | x :: r => if x ∈ r then dd r else x :: dd r
theorem mem_dd (k : Int) : ∀ l : List Int, k ∈ dd l ↔ k ∈ l
  | [] => Iff.rfl
  | x :: r => by
    unfold dd
    split
    · rename_i h
      rw [mem_dd k r, List.mem_cons]
      constructor
      · exact .inr
      · rintro (rfl | h2)
        · exact h
        · exact h2
    · rw [List.mem_cons, List.mem_cons, mem_dd k r]
theorem nodup_dd : ∀ l : List Int, (dd l).Nodup
  | [] => List.nodup_nil
  | x :: r => by
    unfold dd
    split
    · exact nodup_dd r
    · rename_i h
      exact List.nodup_cons.mpr ⟨fun z => h ((mem_dd x r).mp z), nodup_dd r⟩
theorem len_le_of_sub : ∀ (l m : List Int), l.Nodup → (∀ x ∈ l, x ∈ m) → l.length ≤ m.length
  | [], _, _, _ => Nat.zero_le _
  | x :: r, m, hn, hs => by
    obtain ⟨h1, h2⟩ := List.nodup_cons.mp hn
    have hx := hs x (by simp)
    have ih := len_le_of_sub r (m.erase x) h2 fun y hy => by
      have hne : y ≠ x := fun e => h1 (e ▸ hy)
      exact (List.mem_erase_of_ne hne).mpr (hs y (by simp [hy]))
    rw [List.length_erase_of_mem hx] at ih
    have : 0 < m.length := List.length_pos_of_mem hx
    simp only [List.length_cons]
    omega
theorem len_eq_of_mem {l m : List Int} (h1 : l.Nodup) (h2 : m.Nodup) (h : ∀ x, x ∈ l ↔ x ∈ m) : l.length = m.length :=
  Nat.le_antisymm (len_le_of_sub l m h1 fun x hx => (h x).mp hx) (len_le_of_sub m l h2 fun x hx => (h x).mpr hx)
def tLenSetT (K : PySem.W.Frag) (ta : TE) : TE := fun σ H Q => ta σ H fun x H1 => ∃ (l : Addr) (ns : List Int), x = V.ref l ∧ SqT K H1 l (ns.map V.int) ∧ ns.length ≤ 1000 ∧ Q (.int (dd ns).length) H1
theorem pe_lenSetT {ta : TE} (hc : X.calm = true) (hg : Gl X "len") (hm : X.mg "len" = none) (hg2 : Gl X "set") (hm2 : X.mg "set" = none) (na : starEach [a] X.env = (false, eval a X.env) :: starEach [] X.env) (ha : PE X a ta) :
    PE X (.Call (.Name "len" p) [.Call (.Name "set" p2) [a] [] p3] [] pos) (tLenSetT X.K ta) := ⟨fun pins s σ H Q I h => by
  refine Call_ (ld_blt I hg hm PySem.boot_len ?_)
  refine PyProof.Rows.callWith_builtin1 (PyProof.Rows.args_cons ?_ rfl) rfl rfl
  refine Call_ (ld_blt I hg2 hm2 PyProof.Rows.boot_set ?_)
  refine PyProof.Rows.callWith_type1 (PyProof.Rows.args_cons (thn (ha.run pins s σ H _ I h) fun v s1 ⟨x, H1, I1, r1, l, ns, ex, hq, hn, q1⟩ => PyProof.Rows.args_nil ?_) na) na rfl
  subst ex
  cases r1
  obtain ⟨us, rv, pl, _⟩ := I1.tuple hq
  refine call_set_tupI ns (I1.ok.hd hc) pl (by simpa using rv.ints) (by unfold scanBound; omega) fun h' tk k hS hk hkeep => ?_
  obtain ⟨o, es, ep, t, ho, hex, hd, _, hnd, hmem, _, hf, hsz, _⟩ := hS
  have I2 : Inv X pins σ H1 { s1 with heap := h', toks := tk } := I1.kept fun b o e => hkeep b o e
  refine PyProof.Rows.args_nil ?_
  have hcount : es.size = (dd ns).length := by
    rw [← len_eq_of_mem hnd (nodup_dd ns) fun x => by
      rw [mem_dd, ← hmem x, decide_eq_true_eq]]
    simp
  refine call_len_set ho hex hd hf (by omega) ⟨.int (dd ns).length, H1, I2.tok _, ⟨_, by rw [hcount]⟩, q1⟩⟩
def gLenSet : D → Option D
  | .tuple ds => (intsOf ds).bind fun ns => if ns.length ≤ 1000 then some (.int (dd ns).length) else none
  | _ => none
theorem se_lenSet (hc : X.calm = true) (hg : Gl X "len") (hm : X.mg "len" = none) (hg2 : Gl X "set") (hm2 : X.mg "set" = none) (na : starEach [a] X.env = (false, eval a X.env) :: starEach [] X.env) (ha : SE c X a wr m fa) :
    SE c X (.Call (.Name "len" p) [.Call (.Name "set" p2) [a] [] p3] [] pos) wr .fz (FV.m1 gLenSet fa) := peImp (pe_lenSetT hc hg hm hg2 hm2 na ha) fun σ H Q h => by
  refine t_un (g := gLenSet) (m' := .fz) (r := fun x H1 Q => ∃ (l : Addr) (ns : List Int), x = V.ref l ∧ SqT X.K H1 l (ns.map V.int) ∧ ns.length ≤ 1000 ∧ Q (.int (dd ns).length) H1) ?_ h
  intro fp σ S H v x z Q R rx e q
  cases x with
  | tuple ds =>
    simp only [gLenSet] at e
    cases hn : intsOf ds with
    | none => rw [hn] at e; cases e
    | some ns =>
      rw [hn] at e
      simp only [Option.bind_some] at e
      split at e
      · rename_i hl
        cases e
        obtain ⟨l, xs, rfl, h, r⟩ := rx.tuple
        rw [intsOf_eq hn] at r
        have := r.intsV
        subst this
        exact ⟨l, ns, rfl, .inl (.inl h), hl, q _ H (Same.refl H) rpm_int⟩
      · cases e
  | _ => cases e
end
end FV
end
section
set_option Elab.async false
set_option linter.all false
set_option maxRecDepth 100000
set_option maxHeartbeats 4000000
/-! Walks over lists and tuples in any mix: enumerate, zip. -/
namespace FV
open PySem PySem.Spec PyProof.Rows L2
inductive SK where
  | l
  | t
def SK.ob : SK → Addr → Obj
  | .l, a => { cls := .type "list_iterator", data := .fields #[.ref a, .int 0 0] }
  | .t, a => { cls := .type "tuple_iterator", data := .fields #[.ref a, .int 0 0] }
def SK.It : SK → Heap → Addr → Addr → Nat → Prop
  | .l, h, it, a, i => h.IsListIter it a i
  | .t, h, it, a, i => h.IsTupleIter it a i
def SK.Sq : SK → Heap → Addr → Array Value → Prop
  | .l, h, a, xs => h.IsList a xs
  | .t, h, a, xs => h.IsTuple a xs
def SK.H : SK → PySem.W.Frag → Hp → Addr → List V → Prop
  | .l, K, H, a, xs => SqL K H a xs
  | .t, K, H, a, xs => SqT K H a xs
theorem SK.begins (k : SK) (a : Addr) (items : Array Value) : Begins (.ref a) (k.ob a) fun h => k.Sq h a items := by
  cases k with
  | l => exact begins_list a items
  | t => exact begins_tuple a items
theorem SK.draws (k : SK) {prog : Program} {w : World} {A : Around} (hh : A.handled = none) (it a : Addr) (hne : a ≠ it) (items : Array Value) :
    Draws prog w A it [it, a] items.size (fun i v => items[i]? = some v) (fun i h => k.It h it a i ∧ k.Sq h a items) := by
  cases k with
  | l => exact Draws.list hh it a hne items
  | t => exact Draws.tuple hh it a hne items
theorem SK.obj (k : SK) {h : Heap} {it a : Addr} {i : Nat} (x : k.It h it a i) : ∃ o, h.get? it = some o ∧ ∀ v, o.data ≠ .cell v := by
  cases k with
  | l => obtain ⟨o, e, _, d⟩ := x; exact ⟨o, e, fun v z => by rw [d] at z; cases z⟩
  | t => obtain ⟨o, e, _, d⟩ := x; exact ⟨o, e, fun v z => by rw [d] at z; cases z⟩
theorem SK.at (k : SK) {h h' : Heap} {it a : Addr} {i : Nat} (x : k.It h it a i) (e : ∀ o, h.get? it = some o → h'.get? it = some o) : k.It h' it a i := by
  cases k with
  | l => exact Heap.IsListIter.at x e
  | t => exact Heap.IsTupleIter.at x e
theorem SK.sqAt (k : SK) {h h' : Heap} {a : Addr} {xs : Array Value} (x : k.Sq h a xs) (e : ∀ o, h.get? a = some o → h'.get? a = some o) : k.Sq h' a xs := by
  cases k with
  | l => exact Heap.IsList.at x e
  | t => exact Heap.IsTuple.at x e
theorem SK.start (k : SK) {h : Heap} {it a : Addr} (e : h.get? it = some (k.ob a)) : k.It h it a 0 := by
  cases k with
  | l => exact ⟨_, e, rfl, rfl⟩
  | t => exact ⟨_, e, rfl, rfl⟩
theorem SK.lt (k : SK) {h : Heap} {a : Addr} {xs : Array Value} (x : k.Sq h a xs) : a < h.objs.size := by
  cases k with
  | l => obtain ⟨_, e, _⟩ := x; exact Heap.lt_size e
  | t => obtain ⟨_, e, _⟩ := x; exact Heap.lt_size e
section
variable {X : Cx} {pins : List (Addr × Obj)} {σ : Sg} {H : Hp} {s : Shared} {a : Addr} {xs ys : List V}
theorem SK.inv (k : SK) (I : Inv X pins σ H s) (h : k.H X.K H a xs) : ∃ its : List Value, Vals xs its ∧ k.Sq s.heap a its.toArray ∧ xs.length ≤ sizeLine := by
  cases k with
  | l => obtain ⟨its, r, p, z⟩ := I.list h; exact ⟨its, r, p.isList, z⟩
  | t => exact I.tuple h
theorem SK.inj (k : SK) (I : Inv X pins σ H s) (h : k.H X.K H a xs) (h' : k.H X.K H a ys) : xs = ys := by
  cases k with
  | l => exact I.list_inj h h'
  | t => exact I.tuple_inj h h'
end
/-! ### enumerate(seq) -/
def ItE (k : SK) (K : PySem.W.Frag) (a : Addr) : It :=
  ⟨fun i H => ∃ (xs : List V) (x : V), k.H K H a xs ∧ xs[i]? = some x, fun i H v H' => ∃ T x, v = .ref T ∧ H T = none ∧ H' = upd H T (.tup [.int (i : Nat), x]) ∧ ∀ xs, k.H K H a xs → xs[i]? = some x, fun i H => ∃ xs : List V, k.H K H a xs ∧ xs.length = i⟩
theorem turn_enumK (k : SK) {P : Program} {w : World} {K : PySem.W.Frag} {elts : List Expr} {kk : Nat} {tpos : Pos} (a e it : Addr) (hea : a ≠ it) (hae : a ≠ e) (hne : e ≠ it) :
    Turn P w K (.Tuple elts kk tpos) (ItE k K a) [e, it] e (fun i h => (∃ old, IsEnum h e it ((i : Nat) : Int) old) ∧ k.It h it a i) where
  mem := by simp
  obj := fun i h ⟨⟨old, he⟩, hit⟩ b hb => by
    have e' : b = e ∨ b = it := by simpa using hb
    rcases e' with z | z
    · rw [z]; exact ⟨_, he, fun v q => nomatch q⟩
    · rw [z]; exact k.obj hit
  keep := fun i h h' ⟨⟨old, he⟩, hit⟩ kp => ⟨⟨old, kp e (by simp) _ he⟩, k.at hit fun o q => kp it (by simp) o q⟩
  item := by
    intro X hP hw hK hc i pins s σ H E I hf ⟨⟨old, he⟩, hit⟩ ⟨xs, x, hq, hx⟩
    subst hP hw hK
    obtain ⟨its, rv, sq, hz⟩ := k.inv I hq
    obtain ⟨u, hu, ru⟩ := rv.get hx
    have hel : e < s.heap.objs.size := Heap.lt_size he
    have hil : it < s.heap.objs.size := by obtain ⟨_, q, _⟩ := k.obj hit; exact Heap.lt_size q
    have hD := k.draws (prog := X.prog) (w := X.w) (A := X.A.in1) (I.ok.hd hc) it a hea its.toArray
    have hin : i < its.toArray.size := by
      have := (List.getElem?_eq_some_iff.mp hu).1
      simpa using this
    refine wpAny_pyNext_enum_itemC (c := ((i : Nat) : Int)) hD he ⟨hit, sq⟩ hin hne (by simp [hne, Ne.symm hae]) fun y h' tk hy ho hst hT hsz hk => ?_
    have hyu : y = u := by
      have q1 : its.toArray[i]? = some y := hy
      have q2 : its.toArray[i]? = some u := by simpa using hu
      rw [q1] at q2
      exact Option.some.inj q2
    subst hyu
    refine ⟨_, rfl, wpAny_letOwnedTupleGo_enum (s := { s with heap := h', toks := tk + 1 }) ho fun h'' he' sb => ?_⟩
    have hT2 : h''.get? s.heap.objs.size = some { cls := .type "tuple", data := .seq #[.int ((i : Nat) : Int) tk, y] } := (sb.2 _ (Nat.ne_of_gt hel)).trans hT
    have new : ObjOk X.prog X.w (upd H s.heap.objs.size (.tup [.int ((i : Nat) : Int), x])) h'' s.heap.objs.size (.tup [.int ((i : Nat) : Int), x]) :=
      ⟨by show 2 ≤ sizeLine; decide, [.int i tk, y], .cons ⟨_, rfl⟩ (.cons ru .nil), ⟨_, hT2, rfl, _, rfl⟩⟩
    have I1 : Inv X pins σ (upd H s.heap.objs.size (.tup [.int ((i : Nat) : Int), x])) { s with heap := h'', toks := tk + 1 } :=
      Inv.turnedNew (ch := [e, it]) I (fun b ob hb q => (sb.2 b (fun z => hb (by simp [z]))).trans (hk b ob (fun z => hb (by simp [z])) (fun z => hb (by simp [z])) q)) hf (Nat.le_refl _) new
    refine ⟨.ref s.heap.objs.size, _, I1, rfl, ⟨_, x, rfl, I.hok.fresh (Nat.le_refl _), rfl, fun zs hzs => by rw [k.inj I hzs hq]; exact hx⟩, ⟨⟨y, ?_⟩, k.at hst.1 fun o q => (sb.2 it (Ne.symm hne)).trans q⟩, fun b hb => ?_⟩
    · rw [show ((i + 1 : Nat) : Int) = (i : Int) + 1 by omega]; exact he'
    · have hb' : b < s.heap.objs.size := by
        have e' : b = e ∨ b = it := by simpa using hb
        rcases e' with z | z
        · rw [z]; exact hel
        · rw [z]; exact hil
      rw [upd_ne (Nat.ne_of_lt hb')]
      exact (hf b hb).1
  done := by
    intro X hP hw hK hc i pins s σ H E I hf ⟨⟨old, he⟩, hit⟩ ⟨xs, hq, hx⟩
    subst hP hw hK
    obtain ⟨its, rv, sq, hz⟩ := k.inv I hq
    have hD := k.draws (prog := X.prog) (w := X.w) (A := X.A.in1) (I.ok.hd hc) it a hea its.toArray
    have hl : its.toArray.size = i := by rw [List.size_toArray, ← rv.length, hx]
    obtain ⟨f0, f1, f2, f3, f4, f5⟩ := hf it (by simp)
    refine wpAny_pyNext_enum_endD (s := s) hD he (by rw [hl]; exact ⟨hit, sq⟩) fun h' eb => ⟨rfl, ?_⟩
    exact Inv.turned (t' := s.toks) I (fun b o hb q => eb b o hb q) f0 f1 f3 f4 f5
  self := fun A i s Q E ⟨⟨_, he⟩, _⟩ h => wpAny_pyIter_enum he h
end FV
end
section
set_option Elab.async false
set_option linter.all false
set_option maxRecDepth 100000
set_option maxHeartbeats 4000000
namespace FV
open PySem PySem.Spec PyProof.Rows L2
/-! ### enumerate made over a tuple -/
open AutoSeq1 (wpAny_loadPart') in
set_option maxHeartbeats 2000000 in
theorem enumNewT (a : Addr) (items : Array Value) : Meets (Builtin.«enumerate.__new__» ⟨[.type "enumerate", .ref a], []⟩) (fun _ R s => Heap.IsTuple s.heap a items ∧
      R (.ok (.ret (.ref (s.heap.push (SK.t.ob a)).objs.size))) { s with heap := (s.heap.push (SK.t.ob a)).push { cls := .type "enumerate", data := .fields #[.none, .bool false, .ref s.heap.objs.size, rawInt 0, .none, .none] } }) :=
  .of_wp fun prog w A R s hh => by
    obtain ⟨hp, g, dr, tk, os⟩ := s
    obtain ⟨hT, h⟩ := hh
    have hT' : Heap.IsTuple (Shared.heap ⟨hp, g, dr, tk, os⟩) a items := hT
    have hsub := sub_enumerate
    wp_walk using wpAny_pyIter_tuple hT'
    refine wpAny_stack_any fun stk => (wpAny_pure ?_)
    split
    · rename_i cc _ _ _ _ _
      cases (cc == Value.type "enumerate")
      · (wp_walk using wpAny_pyIter_tuple hT'); exact ⟨_, rfl, h⟩
      · (wp_walk using wpAny_pyIter_tuple hT'); exact ⟨_, rfl, h⟩
    · (wp_walk using wpAny_pyIter_tuple hT'); exact ⟨_, rfl, h⟩
section
variable {prog : Program} {w : World} {A : Around} {E : Value → Shared → Prop} {s : Shared}
theorem call_enumK (k : SK) {a : Addr} {items : Array Value} {Q : Value → Shared → Prop} (hS : k.Sq s.heap a items)
    (h : ∀ h', IsEnum h' (s.heap.objs.size + 1) s.heap.objs.size 0 .none → k.It h' s.heap.objs.size a 0 → (∀ b o, s.heap.get? b = some o → h'.get? b = some o) → Q (.ref (s.heap.objs.size + 1)) { s with heap := h' }) :
    wpAny (model prog w) A (call (.type "enumerate") [.ref a]) Q E s := by
  cases k with
  | l => exact call_enumerate_list hS fun h' x y _ z => h h' x y z
  | t =>
    refine callType_new F.called_enumerate (by decide) (F.typeCall_enumerate_1 _) (F.newCall_enumerate_1 _) (fun obj => F.args_object_init_2 obj _) F.entry_enumerate_new (enumNewT a items) ⟨hS, ?_⟩
    have hz : (s.heap.push (SK.t.ob a)).objs.size = s.heap.objs.size + 1 := Heap.size_push ..
    show _ ∧ _
    rw [hz]
    have he := Heap.get?_push_size (s.heap.push (SK.t.ob a)) (o := { cls := .type "enumerate", data := .fields #[.none, .bool false, .ref s.heap.objs.size, rawInt 0, .none, .none] }) rfl
    rw [hz] at he
    exact ⟨⟨_, he, rfl⟩, h _ he ⟨_, Heap.get?_push_of_some _ (Heap.get?_push_size _ rfl), rfl, rfl⟩ fun b o x => Heap.get?_push_of_some _ (Heap.get?_push_of_some _ x)⟩
end
/-! ### zip of two -/
theorem SK.ne (k : SK) {h : Heap} {a b it : Addr} {xs : Array Value} {i : Nat} (x : k.Sq h a xs) (y : k.It h it b i) : a ≠ it := fun e => by
  subst e
  cases k with
  | l =>
    obtain ⟨o1, q1, c1, _⟩ := x
    obtain ⟨o2, q2, c2, _⟩ := y
    rw [q1] at q2
    cases q2
    rw [c1] at c2
    injection c2 with c2
    exact absurd c2 (by decide)
  | t =>
    obtain ⟨o1, q1, c1, _⟩ := x
    obtain ⟨o2, q2, c2, _⟩ := y
    rw [q1] at q2
    cases q2
    rw [c1] at c2
    injection c2 with c2
    exact absurd c2 (by decide)

def ItZ (k1 k2 : SK) (K : PySem.W.Frag) (a b : Addr) : It :=
  ⟨fun i H => ∃ (xs ys : List V) (x y : V), k1.H K H a xs ∧ k2.H K H b ys ∧ xs[i]? = some x ∧ ys[i]? = some y,
    fun i H v H' => ∃ T x y, v = .ref T ∧ H T = none ∧ H' = upd H T (.tup [x, y]) ∧ (∀ xs, k1.H K H a xs → xs[i]? = some x) ∧ ∀ ys, k2.H K H b ys → ys[i]? = some y,
    fun i H => ∃ xs ys : List V, k1.H K H a xs ∧ k2.H K H b ys ∧ i ≤ xs.length ∧ i ≤ ys.length ∧ (i = xs.length ∨ i = ys.length)⟩
theorem turn_zipK (k1 k2 : SK) {P : Program} {w : World} {K : PySem.W.Frag} {elts : List Expr} {kk : Nat} {tpos : Pos} {a b z TI TO i1 i2 : Addr} (D : ZipSep2 z TI TO i1 i2 [i1, a] [i2, b]) :
    Turn P w K (.Tuple elts kk tpos) (ItZ k1 k2 K a b) [z, TI, TO, i1, i2] z (fun i h => IsZip h z TI TO .none ∧ IsTupOf2 h TI (.ref i1) (.ref i2) ∧ (∃ x y, IsTupOf2 h TO x y) ∧ k1.It h i1 a i ∧ k2.It h i2 b i) where
  mem := by simp
  obj := fun i h ⟨hz, hTI, ⟨x, y, hTO⟩, h1, h2⟩ q hq => by
    have e' : q = z ∨ q = TI ∨ q = TO ∨ q = i1 ∨ q = i2 := by simpa using hq
    rcases e' with e | e | e | e | e <;> subst e
    · exact ⟨_, hz, fun v r => nomatch r⟩
    · exact ⟨_, hTI, fun v r => nomatch r⟩
    · exact ⟨_, hTO, fun v r => nomatch r⟩
    · exact k1.obj h1
    · exact k2.obj h2
  keep := fun i h h' ⟨hz, hTI, ⟨x, y, hTO⟩, h1, h2⟩ k =>
    ⟨k z (by simp) _ hz, k TI (by simp) _ hTI, ⟨x, y, k TO (by simp) _ hTO⟩, k1.at h1 fun o q => k i1 (by simp) o q, k2.at h2 fun o q => k i2 (by simp) o q⟩
  item := by
    intro X hP hw hK hc i pins s σ H E I hf ⟨hz, hTI, ⟨x0, y0, hTO⟩, h1, h2⟩ ⟨xs, ys, x, y, hqx, hqy, hx, hy⟩
    subst hP hw hK
    obtain ⟨us, rv, sq1, _⟩ := k1.inv I hqx
    obtain ⟨ws, rv2, sq2, _⟩ := k2.inv I hqy
    obtain ⟨u, hu, ru⟩ := rv.get hx
    obtain ⟨u2, hu2, ru2⟩ := rv2.get hy
    have hzl : z < s.heap.objs.size := Heap.lt_size hz
    have n1 : a ≠ i1 := k1.ne sq1 h1
    have n2 : b ≠ i2 := k2.ne sq2 h2
    have D1 := k1.draws (prog := X.prog) (w := X.w) (A := X.A.in1) (I.ok.hd hc) i1 a n1 us.toArray
    have D2 := k2.draws (prog := X.prog) (w := X.w) (A := X.A.in1) (I.ok.hd hc) i2 b n2 ws.toArray
    have l1 : i < us.toArray.size := by simpa using (List.getElem?_eq_some_iff.mp hu).1
    have l2 : i < ws.toArray.size := by simpa using (List.getElem?_eq_some_iff.mp hu2).1
    refine wpAny_pyNext_zipD2_item D D1 D2 hz hTI hTO ⟨h1, sq1⟩ ⟨h2, sq2⟩ l1 l2 fun p1 p2 h' tk hp1 hp2 z' TO' st1 st2 hT hsz hk => ?_
    have e1 : p1 = u := by
      have q1 : us.toArray[i]? = some p1 := hp1
      have q2 : us.toArray[i]? = some u := by simpa using hu
      rw [q1] at q2
      exact Option.some.inj q2
    have e2 : p2 = u2 := by
      have q1 : ws.toArray[i]? = some p2 := hp2
      have q2 : ws.toArray[i]? = some u2 := by simpa using hu2
      rw [q1] at q2
      exact Option.some.inj q2
    subst e1 e2
    refine ⟨_, rfl, wpAny_letOwnedTupleGo_zip (s := { s with heap := h', toks := tk }) z' fun h'' z'' sb => ?_⟩
    have hT2 : h''.get? s.heap.objs.size = some { cls := .type "tuple", data := .seq #[p1, p2] } := (sb.2 _ (Nat.ne_of_gt hzl)).trans hT
    have new : ObjOk X.prog X.w (upd H s.heap.objs.size (.tup [x, y])) h'' s.heap.objs.size (.tup [x, y]) :=
      ⟨by show 2 ≤ sizeLine; decide, [p1, p2], .cons ru (.cons ru2 .nil), ⟨_, hT2, rfl, _, rfl⟩⟩
    have I1 : Inv X pins σ (upd H s.heap.objs.size (.tup [x, y])) { s with heap := h'', toks := tk } :=
      Inv.turnedNew (ch := [z, TI, TO, i1, i2]) I (fun c o hb q => (sb.2 c (fun q' => hb (by simp [q']))).trans (hk c o (fun q' => hb (by simp [q'])) (fun q' => hb (by simp [q'])) (fun q' => hb (by simp [q'])) (fun q' => hb (by simp [q'])) q)) hf (Nat.le_refl _) new
    have ii1 : i1 ≠ z := fun e => D.zf1 (e ▸ D.mem1)
    have ii2 : i2 ≠ z := fun e => D.zf2 (e ▸ D.mem2)
    have TIi1 := D.TIi1
    have TIi2 := D.TIi2
    refine ⟨.ref s.heap.objs.size, _, I1, rfl, ⟨_, x, y, rfl, I.hok.fresh (Nat.le_refl _), rfl, fun zs hl => by rw [k1.inj I hl hqx]; exact hx, fun zs hl => by rw [k2.inj I hl hqy]; exact hy⟩, ⟨z'', ?_, ⟨p1, p2, ?_⟩, ?_, ?_⟩, fun q hqm => ?_⟩
    · exact (sb.2 _ D.TIz).trans (hk _ _ D.TIz D.TITO TIi1 TIi2 hTI)
    · exact (sb.2 _ D.TOz).trans TO'
    · exact k1.at st1.1 fun o q => (sb.2 _ ii1).trans q
    · exact k2.at st2.1 fun o q => (sb.2 _ ii2).trans q
    · have hlt : q < s.heap.objs.size := by
        have e' : q = z ∨ q = TI ∨ q = TO ∨ q = i1 ∨ q = i2 := by simpa using hqm
        rcases e' with e | e | e | e | e
        · rw [e]; exact hzl
        · rw [e]; exact Heap.lt_size hTI
        · rw [e]; exact Heap.lt_size hTO
        · rw [e]; obtain ⟨_, e1, _⟩ := k1.obj h1; exact Heap.lt_size e1
        · rw [e]; obtain ⟨_, e2, _⟩ := k2.obj h2; exact Heap.lt_size e2
      rw [upd_ne (Nat.ne_of_lt hlt)]
      exact (hf q hqm).1
  done := by
    intro X hP hw hK hc i pins s σ H E I hf ⟨hz, hTI, ⟨x0, y0, hTO⟩, h1, h2⟩ ⟨xs, ys, hqx, hqy, hi1, hi2, hend⟩
    subst hP hw hK
    obtain ⟨us, rv, sq1, _⟩ := k1.inv I hqx
    obtain ⟨ws, rv2, sq2, _⟩ := k2.inv I hqy
    have n1 : a ≠ i1 := k1.ne sq1 h1
    have n2 : b ≠ i2 := k2.ne sq2 h2
    have D1 := k1.draws (prog := X.prog) (w := X.w) (A := X.A.in1) (I.ok.hd hc) i1 a n1 us.toArray
    have D2 := k2.draws (prog := X.prog) (w := X.w) (A := X.A.in1) (I.ok.hd hc) i2 b n2 ws.toArray
    have s1 : us.toArray.size = xs.length := by rw [List.size_toArray, ← rv.length]
    have s2 : ws.toArray.size = ys.length := by rw [List.size_toArray, ← rv2.length]
    refine wpAny_pyNext_zipD2_end D D1 D2 hz hTI hTO ⟨h1, sq1⟩ ⟨h2, sq2⟩ (by rw [s1]; exact hi1) (by rw [s2]; exact hi2) (by rw [s1, s2]; exact hend) fun h' tk hk => ⟨rfl, ?_⟩
    exact Inv.turnedL (t' := tk) (ch := [z, TI, TO, i1, i2]) I (fun c o hb q => hk c o (fun q' => hb (by simp [q'])) (fun q' => hb (by simp [q'])) (fun q' => hb (by simp [q'])) (fun q' => hb (by simp [q'])) q) hf
  self := fun A i s Q E st h => wpAny_pyIter_zip st.1 h
end FV
end
section
set_option Elab.async false
set_option linter.all false
set_option maxRecDepth 100000
set_option maxHeartbeats 4000000
/-! What a loop or a comprehension walks, over trees. -/
namespace FV
open PySem PySem.Spec PyProof.Rows L2
abbrev Cf.wF (c : Cf) (F : Addr → Prop) : Cf := { c with F := F }
def addF (F : Addr → Prop) (D : Addr) : Addr → Prop := fun a => F a ∨ a = D
section
variable {c : Cf} {fp : Fp} {σ : Sg} {S : Sl} {H : Hp} {F : Addr → Prop} {p : Addr}
/-- a new list that nothing names: it may not be touched -/
theorem rp_add {v : V} {d : D} {xs : List V} (hp : H p = none) (r : Rp H (Bd (c.wF F) fp) v d) : Rp (upd H p (.lst xs)) (Bd (c.wF (addF F p)) fp) v d :=
  r.mono (fun a ys e n => ⟨by rw [upd_ne (ne_of_none e hp)]; exact e, fun z => by
    rcases z with (z | z) | z
    · exact n (.inl z)
    · rw [z, hp] at e; cases e
    · exact n (.inr z)⟩) (fun a o u e => by rw [upd_ne (ne_of_none e hp)]; exact e) fun a ys e => by rw [upd_ne (ne_of_none e hp)]; exact e
theorem rpAll_add {v : List V} {d : List D} {xs : List V} (hp : H p = none) (r : RpAll H (Bd (c.wF F) fp) v d) : RpAll (upd H p (.lst xs)) (Bd (c.wF (addF F p)) fp) v d :=
  r.mono (fun a ys e n => ⟨by rw [upd_ne (ne_of_none e hp)]; exact e, fun z => by
    rcases z with (z | z) | z
    · exact n (.inl z)
    · rw [z, hp] at e; cases e
    · exact n (.inr z)⟩) (fun a o u e => by rw [upd_ne (ne_of_none e hp)]; exact e) fun a ys e => by rw [upd_ne (ne_of_none e hp)]; exact e
/-- a list that may not be touched is written: what avoids it stands -/
theorem rpAll_updF {B : Addr → Prop} {v : List V} {d : List D} {xs ys : List V} (hB : B p) (hp : H p = some (.lst xs)) (r : RpAll H B v d) : RpAll (upd H p (.lst ys)) B v d :=
  r.mono (fun a zs e n => ⟨by rw [upd_ne (fun z => n (by have z : a = p := z; rw [z]; exact hB))]; exact e, n⟩) (fun a o u e => by rw [upd_ne (ne_of e hp (by intro z; cases z))]; exact e) fun a zs e => by rw [upd_ne (ne_of e hp (by intro z; cases z))]; exact e
theorem rp_updF {B : Addr → Prop} {v : V} {d : D} {xs ys : List V} (hB : B p) (hp : H p = some (.lst xs)) (r : Rp H B v d) : Rp (upd H p (.lst ys)) B v d :=
  r.mono (fun a zs e n => ⟨by rw [upd_ne (fun z => n (by have z : a = p := z; rw [z]; exact hB))]; exact e, n⟩) (fun a o u e => by rw [upd_ne (ne_of e hp (by intro z; cases z))]; exact e) fun a zs e => by rw [upd_ne (ne_of e hp (by intro z; cases z))]; exact e
theorem Rel.live (R : Rel c fp σ S H) {i : Nat} (hi : i ∈ c.own) {a : Addr} (ha : a ∈ fp i) : H a ≠ none := Bd.live R (.inr ⟨i, hi, ha⟩)
theorem Rel.add {xs : List V} (R : Rel (c.wF F) fp σ S H) (hp : H p = none) : Rel (c.wF (addF F p)) fp σ S (upd H p (.lst xs)) where
  len := R.len
  own := fun i hi d e => by
    obtain ⟨v, e1, r⟩ := R.own i hi d e
    exact ⟨v, e1, r.mono (fun a ys e n => ⟨by rw [upd_ne (ne_of_none e hp)]; exact e, fun z => by
      rcases z with (z | z) | z
      · exact n (.inl z)
      · rw [z, hp] at e; cases e
      · exact n (.inr z)⟩) (fun a o u e => by rw [upd_ne (ne_of_none e hp)]; exact e) (fun a ys e => by rw [upd_ne (ne_of_none e hp)]; exact e) fun a _ ys e => by rw [upd_ne (ne_of_none e hp)]; exact e⟩
  frz := fun i hi d e => by
    obtain ⟨v, e1, r⟩ := R.frz i hi d e
    exact ⟨v, e1, rp_add hp r⟩
  nd := R.nd
  dj := R.dj
  nf := fun i hi a ha z => by
    rcases z with z | z
    · exact R.nf i hi a ha z
    · exact R.live hi ha (by rw [z]; exact hp)
  mt := fun a ha => by
    by_cases e : a = p
    · rw [e]; exact .inl ⟨xs, upd_same⟩
    · have h : Bd (c.wF F) fp a := by
        rcases ha with (z | z) | z
        · exact .inl z
        · exact absurd z e
        · exact .inr z
      rcases R.mt a h with ⟨x, q⟩ | ⟨x, q⟩ | ⟨x, q⟩
      · exact .inl ⟨x, by rw [upd_ne e]; exact q⟩
      · exact .inr (.inl ⟨x, by rw [upd_ne e]; exact q⟩)
      · exact .inr (.inr ⟨x, by rw [upd_ne e]; exact q⟩)
  fl := R.fl
  tk := R.tk
theorem Rel.drop (R : Rel (c.wF (addF F p)) fp σ S H) : Rel (c.wF F) fp σ S H where
  len := R.len
  own := fun i hi d e => by
    obtain ⟨v, e1, r⟩ := R.own i hi d e
    exact ⟨v, e1, r.mono (fun a ys e n => ⟨e, fun z => n (by
      rcases z with z | z
      · exact .inl (.inl z)
      · exact .inr z)⟩) (fun a o u e => e) (fun a ys e => e) fun a _ ys e => e⟩
  frz := fun i hi d e => by
    obtain ⟨v, e1, r⟩ := R.frz i hi d e
    exact ⟨v, e1, r.mono (fun a ys e n => ⟨e, fun z => n (by
      rcases z with z | z
      · exact .inl (.inl z)
      · exact .inr z)⟩) (fun a o u e => e) fun a ys e => e⟩
  nd := R.nd
  dj := R.dj
  nf := fun i hi a ha z => R.nf i hi a ha (.inl z)
  mt := fun a ha => R.mt a (by
    rcases ha with z | z
    · exact .inl (.inl z)
    · exact .inr z)
  fl := R.fl
  tk := R.tk
theorem Rel.updF {xs ys : List V} (R : Rel (c.wF F) fp σ S H) (hF : F p) (hp : H p = some (.lst xs)) : Rel (c.wF F) fp σ S (upd H p (.lst ys)) where
  len := R.len
  own := fun i hi d e => by
    obtain ⟨v, e1, r⟩ := R.own i hi d e
    refine ⟨v, e1, r.mono (fun a zs e n => ⟨by rw [upd_ne (fun z => n (.inl (by have z : a = p := z; rw [z]; exact hF)))]; exact e, n⟩) (fun a o u e => by rw [upd_ne (ne_of e hp (by intro z; cases z))]; exact e) (fun a zs e => by rw [upd_ne (ne_of e hp (by intro z; cases z))]; exact e) fun a ha zs e => ?_⟩
    rw [upd_ne (fun z => R.nf i hi a ha (by have z : a = p := z; rw [z]; exact hF))]
    exact e
  frz := fun i hi d e => by
    obtain ⟨v, e1, r⟩ := R.frz i hi d e
    exact ⟨v, e1, rp_updF (.inl hF) hp r⟩
  nd := R.nd
  dj := R.dj
  nf := R.nf
  mt := fun a ha => by
    by_cases e : a = p
    · rw [e]; exact .inl ⟨ys, upd_same⟩
    · rcases R.mt a ha with ⟨x, q⟩ | ⟨x, q⟩ | ⟨x, q⟩
      · exact .inl ⟨x, by rw [upd_ne e]; exact q⟩
      · exact .inr (.inl ⟨x, by rw [upd_ne e]; exact q⟩)
      · exact .inr (.inr ⟨x, by rw [upd_ne e]; exact q⟩)
  fl := R.fl
  tk := R.tk
end
/-- J yields the items, as long as the lists of the slots lk stand -/
structure WkD (c : Cf) (lk : List Nat) (J : It) (ds : List D) (G : (Addr → Prop) → Fp → Hp → Prop) : Prop where
  goes : ∀ i F fp H, i < ds.length → G F fp H → J.go i H
  stops : ∀ F fp H, G F fp H → J.stop ds.length H
  yields : ∀ i F fp σ S H v H', i < ds.length → Rel (c.wF F) fp σ S H → G F fp H → J.yld i H v H' → Same H H' ∧ ∃ d, ds[i]? = some d ∧ Rp H' (Bd (c.wF F) fp) v d
  stays : ∀ F fp σ S H wr fp' H', Rel (c.wF F) fp σ S H → Chg (c.wF F) wr fp H fp' H' → (∀ i ∈ lk, i ∉ wr) → G F fp H → G F fp' H'
  add : ∀ F fp σ S H p xs, Rel (c.wF F) fp σ S H → H p = none → G F fp H → G (addF F p) fp (upd H p (.lst xs))
  upd : ∀ F fp σ S H p xs ys, Rel (c.wF F) fp σ S H → F p → H p = some (.lst xs) → G F fp H → G F fp (upd H p (.lst ys))
abbrev SLs := Sl → Option (List D × Sl)
def tI (c : Cf) (wr lk : List Nat) (f : SLs) : TI := fun σ H R => ∃ fp S, Rel c fp σ S H ∧ ∃ ds S', f S = some (ds, S') ∧ ∀ J H' fp' G, Rel c fp' σ S' H' → Chg c wr fp H fp' H' → WkD c lk J ds G → G c.F fp' H' → R J H'
abbrev SI (c : Cf) (X : Cx) (tg iter : Expr) (wr lk : List Nat) (f : SLs) : Prop := PI X tg iter (tI c wr lk f)
/-- a list or a tuple as it is walked -/
def SeqG (c : Cf) (lk : List Nat) (k : SK) (a : Addr) (xs : List V) (ds : List D) (fp : Fp) (H : Hp) : Prop :=
  RpAll H (Bd c fp) xs ds ∧ match k with
    | .t => H a = some (.tup xs)
    | .l => (∃ o, H a = some (.frz o (.lst xs))) ∨ (H a = some (.lst xs) ∧ (¬ Bd c fp a ∨ ∃ i ∈ lk, i ∈ c.own ∧ a ∈ fp i))
theorem SeqG.hH {c : Cf} {lk : List Nat} {k : SK} {a : Addr} {xs : List V} {ds : List D} {fp : Fp} {H : Hp} (g : SeqG c lk k a xs ds fp H) (K : PySem.W.Frag) : k.H K H a xs := by
  cases k with
  | t => exact .inl (.inl g.2)
  | l =>
    rcases g.2 with ⟨o, e⟩ | ⟨e, _⟩
    · exact .inl (.inr ⟨o, e⟩)
    · exact .inl (.inl e)
theorem SeqG.stays {c : Cf} {lk : List Nat} {k : SK} {a : Addr} {xs : List V} {ds : List D} {fp fp' : Fp} {σ : Sg} {S : Sl} {H H' : Hp} {wr : List Nat} (R : Rel c fp σ S H) (C : Chg c wr fp H fp' H') (hl : ∀ i ∈ lk, i ∉ wr) (g : SeqG c lk k a xs ds fp H) : SeqG c lk k a xs ds fp' H' := by
  refine ⟨RpAll.chg R C g.1, ?_⟩
  cases k with
  | t => exact C.keepN g.2 (Bd.notup R g.2)
  | l =>
    rcases g.2 with ⟨o, e⟩ | ⟨e, h | ⟨i, hi, ho, ha⟩⟩
    · exact .inl ⟨o, C.keepN e (Bd.nofrz R e)⟩
    · exact .inr ⟨C.keepN e h, .inl (C.bd h (by rw [e]; simp))⟩
    · refine .inr ⟨C.keep a _ e fun j hj hw q => ?_, .inr ⟨i, hi, ho, ?_⟩⟩
      · by_cases hij : i = j
        · subst hij
          exact hl i hi hw
        · exact R.dj i ho j hj hij a ha q
      · rw [C.same i (hl i hi)]
        exact ha
theorem SeqG.add {c : Cf} {F : Addr → Prop} {lk : List Nat} {k : SK} {a p : Addr} {xs ys : List V} {ds : List D} {fp : Fp} {H : Hp} (hp : H p = none) (g : SeqG (c.wF F) lk k a xs ds fp H) : SeqG (c.wF (addF F p)) lk k a xs ds fp (upd H p (.lst ys)) := by
  refine ⟨rpAll_add hp g.1, ?_⟩
  cases k with
  | t => exact (same_upd hp) _ _ g.2
  | l =>
    rcases g.2 with ⟨o, e⟩ | ⟨e, h | h⟩
    · exact .inl ⟨o, same_upd hp _ _ e⟩
    · refine .inr ⟨same_upd hp _ _ e, .inl fun z => ?_⟩
      rcases z with (z | z) | z
      · exact h (.inl z)
      · rw [z, hp] at e; cases e
      · exact h (.inr z)
    · exact .inr ⟨same_upd hp _ _ e, .inr h⟩
theorem SeqG.updF {c : Cf} {F : Addr → Prop} {lk : List Nat} {k : SK} {a p : Addr} {xs ys zs : List V} {ds : List D} {fp : Fp} {σ : Sg} {S : Sl} {H : Hp} (R : Rel (c.wF F) fp σ S H) (hF : F p) (hp : H p = some (.lst zs)) (g : SeqG (c.wF F) lk k a xs ds fp H) : SeqG (c.wF F) lk k a xs ds fp (upd H p (.lst ys)) := by
  refine ⟨rpAll_updF (.inl hF) hp g.1, ?_⟩
  cases k with
  | t => exact (upd_ne (ne_of g.2 hp (by intro z; cases z))).trans g.2
  | l =>
    rcases g.2 with ⟨o, e⟩ | ⟨e, h | ⟨i, h1, h2, h3⟩⟩
    · exact .inl ⟨o, (upd_ne (ne_of e hp (by intro z; cases z))).trans e⟩
    · exact .inr ⟨(upd_ne (fun z => h (.inl (by have z : a = p := z; rw [z]; exact hF)))).trans e, .inl h⟩
    · exact .inr ⟨(upd_ne (fun z => R.nf i h2 a h3 (by have z : a = p := z; rw [z]; exact hF))).trans e, .inr ⟨i, h1, h2, h3⟩⟩
def tS (c : Cf) (wr lk : List Nat) (f : SLs) : TE := fun σ H Q => ∃ fp S, Rel c fp σ S H ∧ ∃ ds S', f S = some (ds, S') ∧ ∀ v H' fp', Rel c fp' σ S' H' → Chg c wr fp H fp' H' → (∃ k a xs, v = .ref a ∧ SeqG c lk k a xs ds fp' H') → Q v H'
abbrev SQ (c : Cf) (X : Cx) (e : Expr) (wr lk : List Nat) (f : SLs) : Prop := PE X e (tS c wr lk f)
def mIt (f : SM) : SLs := fun S => (f S).bind fun r => (itemsOf r.1).map fun ds => (ds, r.2)
theorem mIt_inv {f : SM} {S S' : Sl} {ds : List D} (h : mIt f S = some (ds, S')) : ∃ d, f S = some (d, S') ∧ itemsOf d = some ds := by
  unfold mIt at h
  cases hf : f S with
  | none => rw [hf] at h; cases h
  | some r =>
    obtain ⟨x, S1⟩ := r
    rw [hf] at h
    simp only [Option.bind_some] at h
    cases hi : itemsOf x with
    | none => rw [hi] at h; cases h
    | some es =>
      rw [hi] at h
      cases h
      exact ⟨x, rfl, hi⟩
section
variable {c : Cf} {X : Cx} {e a b tg : Expr} {pos p : Pos} {wr w1 w2 lk l1 l2 : List Nat} {f : SM} {fa fb : SLs}
theorem seqG_fz {fp : Fp} {H : Hp} {v : V} {d : D} {ds : List D} (r : Rp H (Bd c fp) v d) (h : itemsOf d = some ds) (lk : List Nat) : ∃ k a xs, v = .ref a ∧ SeqG c lk k a xs ds fp H := by
  cases r with
  | lst e n r => cases h; exact ⟨.l, _, _, rfl, r, .inr ⟨e, .inl n⟩⟩
  | frz e r => cases h; exact ⟨.l, _, _, rfl, r, .inl ⟨_, e⟩⟩
  | tup e r => cases h; exact ⟨.t, _, _, rfl, r, e⟩
  | _ => cases h
theorem sq_of (h : SE c X e wr .fz f) : SQ c X e wr [] (mIt f) := peImp h fun σ H Q ⟨fp, S, R, ds, S', e, q⟩ => by
  obtain ⟨d, e1, e2⟩ := mIt_inv e
  exact ⟨fp, S, R, d, S', e1, fun v H' fp' R' C r => q v H' fp' R' C (seqG_fz r e2 [])⟩
/-- a slot whose list is one's own, its items are not -/
theorem sq_own {i : Nat} {x : Str} (hN : X.N[i]? = some x) (hv : Vis X.env.scope x) (hd : (x == ("__debug__" : Str)) = false) (hcd : (x == ("__classdict__" : Str)) = false) (hf : i ∈ c.flat) (ho : i ∈ c.own) : SQ c X (.Name x pos) [] [i] (mIt (mVarO i)) :=
  peImp (pe_var hN hv hd hcd) fun σ H Q ⟨fp, S, R, ds, S', e, q⟩ => by
    obtain ⟨d, e1, e2⟩ := mIt_inv e
    unfold mVarO at e1
    split at e1
    · cases e1
    · cases e1
    · rename_i d' hnd hnd2 hg
      cases e1
      obtain ⟨v, e3, r⟩ := R.own i ho _ hg
      refine ⟨v, e3, q v H fp R .refl ?_⟩
      have hl := R.fl i hf
      generalize hA : fp i = A at r hl
      cases r with
      | ow r =>
        cases r with
        | frz r => exact seqG_fz r e2 _
        | lst e4 r =>
          cases e2
          refine ⟨.l, _, _, rfl, r.flat (by simpa using hl), .inr ⟨e4, .inr ⟨i, by simp, ho, ?_⟩⟩⟩
          rw [hA]
          simp
      | dT => exact (hnd _ rfl).elim
      | dK => exact (hnd2 _ rfl).elim
    · cases e1
/-! ### a sequence -/
def ItK : SK → PySem.W.Frag → Addr → It
  | .l, K, a => Itl K a
  | .t, K, a => Itt K a
theorem turnK (k : SK) {P : Program} {w : World} {K : PySem.W.Frag} {tg : Expr} (a it : Addr) : Turn P w K tg (ItK k K a) [it] it (fun i h => k.It h it a i) := by
  cases k with
  | l => exact turn_list a it
  | t => exact turn_tuple a it
theorem pyIterK (k : SK) {prog : Program} {w : World} {A : Around} {E : Value → Shared → Prop} {s : Shared} {a : Addr} {items : Array Value} {Q : Value → Shared → Prop} (h : k.Sq s.heap a items) (q : Q (.ref s.heap.objs.size) { s with heap := s.heap.push (k.ob a) }) : wpAny (model prog w) A (pyIter (.ref a)) Q E s := by
  cases k with
  | l => exact wpAny_pyIter_list h q
  | t => exact wpAny_pyIter_tuple h q
def iK (K : PySem.W.Frag) (te : TE) : TI := fun σ H R => te σ H fun x H1 => ∃ k a xs, x = .ref a ∧ SK.H k K H1 a xs ∧ R (ItK k K a) H1
theorem pi_K {te : TE} (he : PE X e te) : PI X tg e (iK X.K te) := ⟨fun pins s σ H R I h => by
  refine thn (he.run pins s σ H _ I h) fun v s1 ⟨x, H1, I1, r1, k, a, xs, ex, hq, q⟩ => ?_
  subst ex
  cases r1
  obtain ⟨its, rv, sq, _⟩ := k.inv I1 hq
  have I2 : Inv X pins σ H1 { s1 with heap := s1.heap.push (k.ob a) } := I1.kept (t' := s1.toks) fun b o z => Heap.get?_push_of_some _ z
  refine pyIterK k sq ⟨s1.heap.objs.size, [s1.heap.objs.size], _, _, H1, rfl, I2, turnK k a s1.heap.objs.size, k.start (Heap.get?_push_size _ (by cases k <;> rfl)), fun b hb => ?_, q⟩
  rw [List.mem_singleton.mp hb]
  exact I1.fpOk (Nat.le_refl _) I1.fresh⟩
theorem wk_seq {k : SK} {a : Addr} {xs : List V} {ds : List D} (K : PySem.W.Frag) (hlen : xs.length = ds.length) : WkD c lk (ItK k K a) ds (fun F => SeqG (c.wF F) lk k a xs ds) where
  goes := fun i F fp H hi g => by
    have hx : xs[i]? = some xs[i] := List.getElem?_eq_getElem (by omega)
    cases k with
    | l => exact ⟨xs, xs[i], g.hH K, hx⟩
    | t => exact ⟨xs, xs[i], g.hH K, hx⟩
  stops := fun F fp H g => by
    cases k with
    | l => exact ⟨xs, g.hH K, by omega⟩
    | t => exact ⟨xs, g.hH K, by omega⟩
  yields := fun i F fp σ S H v H' hi R g hy => by
    have hv : H' = H ∧ xs[i]? = some v := by
      cases k with
      | l => exact ⟨hy.1, hy.2 xs (g.hH K)⟩
      | t => exact ⟨hy.1, hy.2 xs (g.hH K)⟩
    obtain ⟨rfl, hv⟩ := hv
    exact ⟨Same.refl _, g.1.getV hv⟩
  stays := fun F fp σ S H wr fp' H' R C hl g => g.stays R C hl
  add := fun F fp σ S H p xs R hp g => g.add hp
  upd := fun F fp σ S H p xs ys R hF hp g => g.updF R hF hp
theorem si_seq (h : SQ c X e wr lk fa) : SI c X tg e wr lk fa := ⟨fun pins s σ H R I ⟨fp, S, RR, ds, S', e1, q⟩ => by
  refine (pi_K h).run pins s σ H R I ⟨fp, S, RR, ds, S', e1, fun v H' fp' R' C ⟨k, a, xs, ev, g⟩ => ⟨k, a, xs, ev, g.hH X.K, ?_⟩⟩
  exact q _ H' fp' _ R' C (wk_seq X.K g.1.length) g⟩
/-! ### ranges -/
theorem wk_range {lo : Int} {n : Nat} : WkD c lk (Itr lo n) ((List.range n).map fun i => PyData.int (lo + (i : Nat))) (fun _ _ _ => True) where
  goes := fun i F fp H hi _ => by
    show i < n
    simpa using hi
  stops := fun F fp H _ => by
    show n ≤ _
    simp
  yields := fun i F fp σ S H v H' hi R _ hy => by
    obtain ⟨rfl, rfl⟩ := hy
    have hi' : i < n := by simpa using hi
    refine ⟨Same.refl _, .int (lo + (i : Nat)), ?_, .int _⟩
    rw [List.getElem?_map, List.getElem?_range hi']
    rfl
  stays := fun _ _ _ _ _ _ _ _ _ _ _ _ => trivial
  add := fun _ _ _ _ _ _ _ _ _ _ => trivial
  upd := fun _ _ _ _ _ _ _ _ _ _ _ _ => trivial
theorem wk_rangeC {lo k : Int} {n : Nat} : WkD c lk (Itc lo k n) ((List.range n).map fun i => PyData.int (lo + (i : Nat) * k)) (fun _ _ _ => True) where
  goes := fun i F fp H hi _ => by
    show i < n
    simpa using hi
  stops := fun F fp H _ => by
    show n ≤ _
    simp
  yields := fun i F fp σ S H v H' hi R _ hy => by
    obtain ⟨rfl, rfl⟩ := hy
    have hi' : i < n := by simpa using hi
    refine ⟨Same.refl _, .int (lo + (i : Nat) * k), ?_, .int _⟩
    rw [List.getElem?_map, List.getElem?_range hi']
    rfl
  stays := fun _ _ _ _ _ _ _ _ _ _ _ _ => trivial
  add := fun _ _ _ _ _ _ _ _ _ _ => trivial
  upd := fun _ _ _ _ _ _ _ _ _ _ _ _ => trivial
def okB (i : Int) : Bool := decide (-4611686018427387904 ≤ i) && decide (i < 4611686018427387904)
theorem okB_of {i : Int} (h : okB i = true) : -(2 ^ 62) ≤ i ∧ i < 2 ^ 62 := by
  unfold okB at h
  rw [Bool.and_eq_true, decide_eq_true_eq, decide_eq_true_eq] at h
  exact h
def gR1 : List D → Option (List D)
  | [.int j] => if okB j = true then some ((List.range j.toNat).map fun i => PyData.int (0 + (i : Nat))) else none
  | _ => none
def gR2 : List D → Option (List D)
  | [.int i, .int j] => if okB i = true ∧ okB j = true then some ((List.range (j - i).toNat).map fun k => PyData.int (i + (k : Nat))) else none
  | _ => none
/-- range(i, j, -1) -/
def gR3 : List D → Option (List D)
  | [.int i, .int j, .int k] => if okB i = true ∧ okB j = true ∧ k = -1 then some ((List.range (i - j).toNat).map fun n => PyData.int (i + (n : Nat) * (-1))) else none
  | _ => none
def mRg (g : List D → Option (List D)) (f : SL) : SLs := fun S => (f S).bind fun r => (g r.1).map fun ds => (ds, r.2)
theorem mRg_inv {g : List D → Option (List D)} {f : SL} {S S' : Sl} {ds : List D} (h : mRg g f S = some (ds, S')) : ∃ es, f S = some (es, S') ∧ g es = some ds := by
  unfold mRg at h
  cases hf : f S with
  | none => rw [hf] at h; cases h
  | some r =>
    obtain ⟨x, S1⟩ := r
    rw [hf] at h
    simp only [Option.bind_some] at h
    cases hi : g x with
    | none => rw [hi] at h; cases h
    | some es =>
      rw [hi] at h
      cases h
      exact ⟨x, rfl, hi⟩
variable {m ma mb mc : Md} {fl : SL}
theorem si_range1 (hg : Gl X "range") (hm : X.mg "range" = none) (hs : starEach [a] X.env = [(false, eval a X.env)]) (ha : SA c X [a] wr [ma] fl) : SI c X tg (.Call (.Name "range" p) [a] [] pos) wr lk (mRg gR1 fl) :=
  ⟨fun pins s σ H R I ⟨fp, S, RR, ds, S', e1, q⟩ => by
    obtain ⟨es, e2, e3⟩ := mRg_inv e1
    refine (pi_range1 hg hm ha hs).run pins s σ H R I ⟨fp, S, RR, es, S', e2, fun vs H' fp' R' C rv => ?_⟩
    obtain ⟨v, d, rfl, rfl, r⟩ := rv.one
    cases d with
    | int j =>
      simp only [gR1] at e3
      split at e3
      · rename_i h
        cases e3
        exact ⟨j, by rw [r.intV], (okB_of h).1, (okB_of h).2, q _ H' fp' _ R' C wk_range trivial⟩
      · cases e3
    | _ => cases e3⟩
theorem si_range2 (hg : Gl X "range") (hm : X.mg "range" = none) (hs : starEach [a, b] X.env = [(false, eval a X.env), (false, eval b X.env)]) (hs2 : starEach [b] X.env = [(false, eval b X.env)]) (ha : SA c X [a, b] wr [ma, mb] fl) : SI c X tg (.Call (.Name "range" p) [a, b] [] pos) wr lk (mRg gR2 fl) :=
  ⟨fun pins s σ H R I ⟨fp, S, RR, ds, S', e1, q⟩ => by
    obtain ⟨es, e2, e3⟩ := mRg_inv e1
    refine (pi_range2 hg hm ha hs hs2).run pins s σ H R I ⟨fp, S, RR, es, S', e2, fun vs H' fp' R' C rv => ?_⟩
    obtain ⟨v, w, d, d2, rfl, rfl, r, r2⟩ := rv.two
    cases d with
    | int i =>
      cases d2 with
      | int j =>
        simp only [gR2] at e3
        split at e3
        · rename_i h
          cases e3
          exact ⟨i, j, by rw [r.intV, r2.intV], ⟨(okB_of h.1).1, (okB_of h.1).2, (okB_of h.2).1, (okB_of h.2).2⟩, q _ H' fp' _ R' C wk_range trivial⟩
        · cases e3
      | _ => cases e3
    | _ => cases e3⟩
/-! ### enumerate, zip -/
theorem wk_enum {k : SK} {a : Addr} {xs : List V} {ds : List D} (K : PySem.W.Frag) (hlen : xs.length = ds.length) : WkD c lk (ItE k K a) (ds.zipIdx.map fun q => PyData.tuple [.int (q.2 : Nat), q.1]) (fun F => SeqG (c.wF F) lk k a xs ds) where
  goes := fun i F fp H hi g => ⟨xs, xs[i]'(by simp at hi; omega), g.hH K, List.getElem?_eq_getElem _⟩
  stops := fun F fp H g => ⟨xs, g.hH K, by simp [hlen]⟩
  yields := fun i F fp σ S H v H' hi R g ⟨T, x, ev, hT, eH, hx⟩ => by
    subst ev eH
    obtain ⟨d, hd, r⟩ := g.1.getV (hx xs (g.hH K))
    refine ⟨same_upd hT, .tuple [.int (i : Nat), d], ?_, rp_newT hT (.cons (.int _) (.cons r .nil))⟩
    rw [List.getElem?_map, List.getElem?_zipIdx, hd]
    simp
  stays := fun F fp σ S H wr fp' H' R C hl g => g.stays R C hl
  add := fun F fp σ S H p xs R hp g => g.add hp
  upd := fun F fp σ S H p xs ys R hF hp g => g.updF R hF hp
def mEnum (f : SLs) : SLs := fun S => (f S).map fun r => (r.1.zipIdx.map fun q => PyData.tuple [.int (q.2 : Nat), q.1], r.2)
theorem si_enum {elts : List Expr} {kk : Nat} {tpos : Pos} (hg : Gl X "enumerate") (hm : X.mg "enumerate" = none) (hs : starEach [a] X.env = (false, eval a X.env) :: starEach [] X.env) (h : SQ c X a wr lk fa) : SI c X (.Tuple elts kk tpos) (.Call (.Name "enumerate" p) [a] [] pos) wr lk (mEnum fa) :=
  ⟨fun pins s σ H R I ⟨fp, S, RR, ds', S', e1, q⟩ => by
    unfold mEnum at e1
    cases hf : fa S with
    | none => rw [hf] at e1; cases e1
    | some r =>
      obtain ⟨ds, S1⟩ := r
      rw [hf] at e1
      cases e1
      refine Call_ (ld_blt I hg hm boot_enumerate (PyProof.Rows.callWith_type1 (thn ((pa_cons h pa_nil hs).run pos pins s σ H (fun vs H1 => ∃ v, vs = [v] ∧ ∃ fp', Rel c fp' σ S1 H1 ∧ Chg c wr fp H fp' H1 ∧ ∃ k a xs, v = .ref a ∧ SeqG c lk k a xs ds fp' H1) I ?_) fun us s1 ⟨vs, H1, I1, r1, v, ev, fp', R', C, k, a, xs, ex, g⟩ => ?_) hs rfl))
      · exact ⟨fp, S, RR, ds, S1, hf, fun v H' fp' R' C sg => ⟨v, rfl, fp', R', C, sg⟩⟩
      · subst ev ex
        cases r1 with
        | cons r rr =>
          cases rr
          cases r
          obtain ⟨its, rv, sq, hz⟩ := k.inv I1 (g.hH X.K)
          have hlt := k.lt sq
          refine call_enumK k sq fun h' he hit hk => wpAny_pyIter_enum he ?_
          have I2 : Inv X pins σ H1 { s1 with heap := h' } := I1.kept (t' := s1.toks) hk
          refine ⟨s1.heap.objs.size + 1, [s1.heap.objs.size + 1, s1.heap.objs.size], _, _, H1, rfl, I2, turn_enumK k a (s1.heap.objs.size + 1) s1.heap.objs.size (Nat.ne_of_lt hlt) (Nat.ne_of_lt (Nat.lt_succ_of_lt hlt)) (Nat.succ_ne_self _), ⟨⟨.none, he⟩, hit⟩, fun b hb => ?_, q _ H1 fp' _ R' C (wk_enum X.K g.1.length) g⟩
          have hle : s1.heap.objs.size ≤ b := by
            rcases List.mem_cons.mp hb with rfl | hb
            · exact Nat.le_succ _
            · rw [List.mem_singleton.mp hb]
              exact Nat.le_refl _
          exact I1.fpOk hle (I1.hok.fresh hle)⟩
theorem wk_zip {k1 k2 : SK} {a b : Addr} {xs ys : List V} {ds es : List D} (K : PySem.W.Frag) (h1 : xs.length = ds.length) (h2 : ys.length = es.length) :
    WkD c (l1 ++ l2) (ItZ k1 k2 K a b) ((ds.zip es).map fun q => PyData.tuple [q.1, q.2]) (fun F fp H => SeqG (c.wF F) l1 k1 a xs ds fp H ∧ SeqG (c.wF F) l2 k2 b ys es fp H) where
  goes := fun i F fp H hi g => by
    simp only [List.length_map, List.length_zip] at hi
    exact ⟨xs, ys, xs[i]'(by omega), ys[i]'(by omega), g.1.hH K, g.2.hH K, List.getElem?_eq_getElem _, List.getElem?_eq_getElem _⟩
  stops := fun F fp H g => by
    refine ⟨xs, ys, g.1.hH K, g.2.hH K, ?_⟩
    simp only [List.length_map, List.length_zip]
    omega
  yields := fun i F fp σ S H v H' hi R g ⟨T, x, y, ev, hT, eH, hx, hy⟩ => by
    subst ev eH
    obtain ⟨d, hd, r⟩ := g.1.1.getV (hx xs (g.1.hH K))
    obtain ⟨d2, hd2, r2⟩ := g.2.1.getV (hy ys (g.2.hH K))
    refine ⟨same_upd hT, .tuple [d, d2], ?_, rp_newT hT (.cons r (.cons r2 .nil))⟩
    have ez : (ds.zip es)[i]? = some (d, d2) := List.getElem?_zip_eq_some.mpr ⟨hd, hd2⟩
    rw [List.getElem?_map, ez]
    rfl
  stays := fun F fp σ S H wr fp' H' R C hl g => ⟨g.1.stays R C fun i hi => hl i (by simp [hi]), g.2.stays R C fun i hi => hl i (by simp [hi])⟩
  add := fun F fp σ S H p xs R hp g => ⟨g.1.add hp, g.2.add hp⟩
  upd := fun F fp σ S H p xs ys R hF hp g => ⟨g.1.updF R hF hp, g.2.updF R hF hp⟩
def mZip (f g : SLs) : SLs := fun S => (f S).bind fun r => (g r.2).map fun q => ((r.1.zip q.1).map fun z => PyData.tuple [z.1, z.2], q.2)
theorem si_zip {elts : List Expr} {kk : Nat} {tpos : Pos} (hg : Gl X "zip") (hm : X.mg "zip" = none) (hs : starEach [a, b] X.env = (false, eval a X.env) :: starEach [b] X.env) (hs2 : starEach [b] X.env = (false, eval b X.env) :: starEach [] X.env) (hpl : (backTo pos (starEach [b] X.env)).any (·.1) = false)
    (h12 : ∀ i ∈ l1, i ∉ w2) (h : SQ c X a w1 l1 fa) (h' : SQ c X b w2 l2 fb) : SI c X (.Tuple elts kk tpos) (.Call (.Name "zip" p) [a, b] [] pos) (w1 ++ w2) (l1 ++ l2) (mZip fa fb) :=
  ⟨fun pins s σ H R I ⟨fp, S, RR, ds', S', e1, q⟩ => by
    unfold mZip at e1
    cases hf : fa S with
    | none => rw [hf] at e1; cases e1
    | some r =>
      obtain ⟨ds, S1⟩ := r
      rw [hf] at e1
      simp only [Option.bind_some] at e1
      cases hf2 : fb S1 with
      | none => rw [hf2] at e1; cases e1
      | some r2 =>
        obtain ⟨es, S2⟩ := r2
        rw [hf2] at e1
        cases e1
        refine Call_ (ld_blt I hg hm PyProof.Rows.boot_zip (PyProof.Rows.callWith_type1 (thn ((pa_cons h (pa_cons h' pa_nil hs2) hs).run pos pins s σ H (fun vs H2 => ∃ v w, vs = [v, w] ∧ ∃ fp', Rel c fp' σ S2 H2 ∧ Chg c (w1 ++ w2) fp H fp' H2 ∧ ∃ k a xs k' b ys, v = .ref a ∧ w = .ref b ∧ SeqG c l1 k a xs ds fp' H2 ∧ SeqG c l2 k' b ys es fp' H2) I ?_) fun us s1 ⟨vs, H1, I1, r1, v, w, ev, fp', R', C, k, a, xs, k', b, ys, ex, ey, g, g'⟩ => ?_) hs hpl))
        · exact ⟨fp, S, RR, ds, S1, hf, fun v H1 fp1 R1 C1 ⟨k, a, xs, ev, g⟩ => ⟨fp1, S1, R1, es, S2, hf2, fun w H2 fp2 R2 C2 ⟨k', b, ys, ew, g'⟩ => ⟨v, w, rfl, fp2, R2, C1.trans C2, k, a, xs, k', b, ys, ev, ew, g.stays R1 C2 h12, g'⟩⟩⟩
        · subst ev ex ey
          cases r1 with
          | cons r rr =>
            cases rr with
            | cons r' rr =>
              cases rr
              cases r
              cases r'
              obtain ⟨us, rv, sq, _⟩ := k.inv I1 (g.hH X.K)
              obtain ⟨ws, rv2, sq2, _⟩ := k'.inv I1 (g'.hH X.K)
              have lt1 := k.lt sq
              have lt2 := k'.lt sq2
              refine zip_begins2 (k.begins a us.toArray) (k'.begins b ws.toArray) sq sq2 fun h' hz hTI hTO h1 h2 hsz hk => wpAny_pyIter_zip hz ?_
              have I2 : Inv X pins σ H1 { s1 with heap := h' } := I1.kept (t' := s1.toks) hk
              have sep : ZipSep2 (s1.heap.objs.size + 4) (s1.heap.objs.size + 2) (s1.heap.objs.size + 3) s1.heap.objs.size (s1.heap.objs.size + 1) [s1.heap.objs.size, a] [s1.heap.objs.size + 1, b] := zip_sep2 (fun x hx => by rw [List.mem_singleton.mp hx]; exact lt1) (fun x hx => by rw [List.mem_singleton.mp hx]; exact lt2)
              refine ⟨s1.heap.objs.size + 4, [s1.heap.objs.size + 4, s1.heap.objs.size + 2, s1.heap.objs.size + 3, s1.heap.objs.size, s1.heap.objs.size + 1], _, _, H1, rfl, I2, turn_zipK k k' sep, ⟨hz, hTI, ⟨_, _, hTO⟩, k.start h1, k'.start h2⟩, fun x hx => ?_, q _ H1 fp' _ R' C (wk_zip X.K g.1.length g'.1.length) ⟨g, g'⟩⟩
              have hle : s1.heap.objs.size ≤ x := by
                rcases List.mem_cons.mp hx with rfl | hx
                · exact Nat.le_add_right _ _
                · rcases List.mem_cons.mp hx with rfl | hx
                  · exact Nat.le_add_right _ _
                  · rcases List.mem_cons.mp hx with rfl | hx
                    · exact Nat.le_add_right _ _
                    · rcases List.mem_cons.mp hx with rfl | hx
                      · exact Nat.le_refl _
                      · rw [List.mem_singleton.mp hx]
                        exact Nat.le_add_right _ _
              exact I1.fpOk hle (I1.hok.fresh hle)⟩
end
end FV
end
section
set_option Elab.async false
set_option linter.all false
set_option maxRecDepth 100000
set_option maxHeartbeats 4000000
/-! New lists; targets; list comprehensions, over trees. -/
namespace FV
open PySem PySem.Spec PyProof.Rows L2
theorem RpAll.less {H : Hp} {B B' : Addr → Prop} {vs : List V} {ds : List D} (r : RpAll H B vs ds) (h : ∀ a, B' a → B a) : RpAll H B' vs ds := r.mono (fun a xs e n => ⟨e, fun z => n (h a z)⟩) (fun a o u e => e) fun a xs e => e
theorem Rp.less {H : Hp} {B B' : Addr → Prop} {vs : V} {ds : D} (r : Rp H B vs ds) (h : ∀ a, B' a → B a) : Rp H B' vs ds := r.mono (fun a xs e n => ⟨e, fun z => n (h a z)⟩) (fun a o u e => e) fun a xs e => e
theorem Chg.wF {c : Cf} {F : Addr → Prop} {w : List Nat} {f0 f1 : Fp} {H0 H1 : Hp} (a : Chg c w f0 H0 f1 H1) : Chg (c.wF F) w f0 H0 f1 H1 := ⟨a.keep, a.same, a.new, a.live⟩
theorem Chg.unF {c : Cf} {F : Addr → Prop} {w : List Nat} {f0 f1 : Fp} {H0 H1 : Hp} (a : Chg (c.wF F) w f0 H0 f1 H1) : Chg c w f0 H0 f1 H1 := ⟨a.keep, a.same, a.new, a.live⟩
theorem Chg.fresh {c : Cf} {w : List Nat} {f0 f1 : Fp} {H0 H1 : Hp} (a : Chg c w f0 H0 f1 H1) {p : Addr} (h : H1 p = none) : H0 p = none := by
  cases e : H0 p with
  | none => rfl
  | some o => exact absurd h (a.live p (by rw [e]; simp))
theorem Chg.updN {c : Cf} {w : List Nat} {f0 f1 : Fp} {H0 H1 : Hp} (a : Chg c w f0 H0 f1 H1) {p : Addr} {o : HO} (h : H0 p = none) : Chg c w f0 H0 f1 (upd H1 p o) where
  keep := fun x u e n => by
    rw [upd_ne (ne_of_none e h)]
    exact a.keep x u e n
  same := a.same
  new := a.new
  live := fun x hx => by
    by_cases e : x = p
    · rw [e, upd_same]; simp
    · rw [upd_ne e]; exact a.live x hx
/-! ### new lists -/
structure NewL (c : Cf) (fp : Fp) (H0 H : Hp) (p : Addr) (xs : List V) (ds : List D) : Prop where
  here : H p = some (.lst xs)
  out : ¬ Bd c fp p
  fresh : H0 p = none
  items : RpAll H (Bd (c.wF (addF c.F p)) fp) xs ds
/-- the value is a list that nothing else names -/
def tN (c : Cf) (wr : List Nat) (f : SM) : TE := fun σ H Q => ∃ fp S, Rel c fp σ S H ∧ ∃ d S', f S = some (d, S') ∧ ∀ p xs ds H' fp', d = .list ds → Rel (c.wF (addF c.F p)) fp' σ S' H' → Chg c wr fp H fp' H' → NewL c fp' H H' p xs ds → Q (.ref p) H'
abbrev SN (c : Cf) (X : Cx) (e : Expr) (wr : List Nat) (f : SM) : Prop := PE X e (tN c wr f)
section
variable {c : Cf} {X : Cx} {e a b tg : Expr} {pos : Pos} {wr w1 w2 ws vs : List Nat} {m m1' m2' : Md} {f fa fb fc : SM} {fp fp' : Fp} {σ : Sg} {S S' : Sl} {H H' H1 : Hp}
theorem NewL.rp {p : Addr} {xs : List V} {ds : List D} (n : NewL c fp H H' p xs ds) : Rp H' (Bd c fp) (.ref p) (.list ds) :=
  .lst n.here n.out (n.items.less fun a z => by
    rcases z with z | z
    · exact .inl (.inl z)
    · exact .inr z)
theorem se_new (h : SN c X e wr f) : SE c X e wr .fz f := peImp h fun σ H Q ⟨fp, S, R, d, S', e1, q⟩ =>
  ⟨fp, S, R, d, S', e1, fun p xs ds H' fp' ed R' C n => q _ H' fp' R'.drop C (by rw [ed]; exact n.rp)⟩
theorem new_make {p : Addr} {xs : List V} {ds : List D} (R : Rel c fp' σ S' H1) (C : Chg c wr fp H fp' H1) (hp : H1 p = none) (r : RpAll H1 (Bd c fp') xs ds) :
    Rel (c.wF (addF c.F p)) fp' σ S' (upd H1 p (.lst xs)) ∧ Chg c wr fp H fp' (upd H1 p (.lst xs)) ∧ NewL c fp' H (upd H1 p (.lst xs)) p xs ds :=
  ⟨Rel.add (F := c.F) R hp, C.updN (C.fresh hp), ⟨upd_same, fun z => Bd.live R z hp, C.fresh hp, rpAll_add (F := c.F) hp r⟩⟩
theorem sn_wide (h : SN c X e wr f) (hw : ∀ i ∈ wr, i ∈ w1) : SN c X e w1 f := peImp h fun σ H Q ⟨fp, S, R, d, S', e, q⟩ => ⟨fp, S, R, d, S', e, fun p xs ds H' fp' ed R' C n => q p xs ds H' fp' ed R' (C.wide hw) n⟩

/-! ### targets -/
def tG (c : Cf) (ws : List Nat) (b : D → Sl → Option Sl) : TG := fun v σ H Q => ∃ fp S d S', Rel c fp σ S H ∧ Rp H (Bd c fp) v d ∧ b d S = some S' ∧ ∀ σ', Rel c fp σ' S' H → σ'.length = σ.length → (∀ i, i ∉ ws → σ'[i]? = σ[i]?) → Q σ' H
abbrev SG (c : Cf) (X : Cx) (tg : Expr) (ws : List Nat) (b : D → Sl → Option Sl) : Prop := PG X tg (tG c ws b)
def tGs (c : Cf) (ws : List Nat) (b : List D → Sl → Option Sl) : TGs := fun v σ H Q => ∃ fp S d S', Rel c fp σ S H ∧ RpAll H (Bd c fp) v d ∧ b d S = some S' ∧ ∀ σ', Rel c fp σ' S' H → σ'.length = σ.length → (∀ i, i ∉ ws → σ'[i]? = σ[i]?) → Q σ' H
abbrev SGs (c : Cf) (X : Cx) (tg : List Expr) (ws : List Nat) (b : List D → Sl → Option Sl) : Prop := PGs X tg (tGs c ws b)
theorem pgImp {t t' : TG} (h : PG X e t) (i : ∀ v σ H Q, t' v σ H Q → t v σ H Q) : PG X e t' := ⟨fun pins s σ H v u Q I r q => h.run pins s σ H v u Q I r (i v σ H Q q)⟩
theorem pgsImp {es : List Expr} {t t' : TGs} (h : PGs X es t) (i : ∀ v σ H Q, t' v σ H Q → t v σ H Q) : PGs X es t' := ⟨fun pins s σ H v u Q I r q => h.run pins s σ H v u Q I r (i v σ H Q q)⟩
theorem gt_set {S : Sl} {i j : Nat} {o : Option D} : gt (S.set i o) j = if i = j ∧ j < S.length then o else gt S j := by
  unfold gt
  rw [List.getElem?_set]
  by_cases h : i = j
  · subst h
    by_cases hl : i < S.length
    · simp [hl]
    · simp [hl]
  · simp [h]
theorem Rel.put {i : Nat} {v : V} {d : D} (R : Rel c fp σ S H) (hi : i ∉ c.own) (r : Rp H (Bd c fp) v d) : Rel c fp (σ.set i (some v)) (S.set i (some d)) H where
  len := by rw [List.length_set, List.length_set]; exact R.len
  own := fun j hj d' e => by
    have hij : i ≠ j := fun z => hi (by rw [z]; exact hj)
    rw [gt_set, if_neg (fun z => hij z.1)] at e
    rw [List.getElem?_set_ne hij]
    exact R.own j hj d' e
  frz := fun j hj d' e => by
    rw [gt_set] at e
    by_cases h : i = j ∧ j < S.length
    · rw [if_pos h] at e
      cases e
      obtain ⟨rfl, hl⟩ := h
      exact ⟨v, by rw [List.getElem?_set_self (by rw [← R.len]; exact hl)], r⟩
    · rw [if_neg h] at e
      obtain ⟨u, e1, r1⟩ := R.frz j hj d' e
      refine ⟨u, ?_, r1⟩
      have hne : i ≠ j := fun z => by
        subst z
        have : ¬ i < S.length := fun z => h ⟨rfl, z⟩
        rw [List.getElem?_eq_none (by rw [← R.len]; omega)] at e1
        cases e1
      rw [List.getElem?_set_ne hne]
      exact e1
  nd := R.nd
  dj := R.dj
  nf := R.nf
  mt := R.mt
  fl := R.fl
  tk := fun j hj ds e => by
    have hij : i ≠ j := fun z => hi (by rw [z]; exact hj)
    rw [gt_set, if_neg (fun z => hij z.1)] at e
    exact R.tk j hj ds e
theorem Rel.none {i : Nat} (R : Rel c fp σ S H) (hi : i ∉ c.own) : Rel c fp (σ.set i Option.none) (S.set i Option.none) H where
  len := by rw [List.length_set, List.length_set]; exact R.len
  own := fun j hj d' e => by
    have hij : i ≠ j := fun z => hi (by rw [z]; exact hj)
    rw [gt_set, if_neg (fun z => hij z.1)] at e
    rw [List.getElem?_set_ne hij]
    exact R.own j hj d' e
  frz := fun j hj d' e => by
    rw [gt_set] at e
    by_cases h : i = j ∧ j < S.length
    · rw [if_pos h] at e
      cases e
    · rw [if_neg h] at e
      obtain ⟨u, e1, r1⟩ := R.frz j hj d' e
      refine ⟨u, ?_, r1⟩
      have hne : i ≠ j := fun z => by
        subst z
        have : ¬ i < S.length := fun z => h ⟨rfl, z⟩
        rw [List.getElem?_eq_none (by rw [← R.len]; omega)] at e1
        cases e1
      rw [List.getElem?_set_ne hne]
      exact e1
  nd := R.nd
  dj := R.dj
  nf := R.nf
  mt := R.mt
  fl := R.fl
  tk := fun j hj ds e => by
    have hij : i ≠ j := fun z => hi (by rw [z]; exact hj)
    rw [gt_set, if_neg (fun z => hij z.1)] at e
    exact R.tk j hj ds e
def bName (i : Nat) : D → Sl → Option Sl := fun d S => some (S.set i (some d))
theorem sg_name {i : Nat} {x : Str} (hN : X.N.Nodup) (hi : X.N[i]? = some x) (hx : Loc X.env.scope x) (hf : X.fn x = true ∨ X.env.scope.names.lookup x = some .local) (ho : i ∉ c.own) : SG c X (.Name x pos) [i] (bName i) :=
  pgImp (pg_name hN hi hx hf) fun v σ H Q ⟨fp, S, d, S', R, r, e, q⟩ => by
    cases e
    refine q _ (R.put ho r) (by simp) fun j hj => ?_
    rw [List.getElem?_set_ne (fun z => hj (by simp [z]))]
def bNil : List D → Sl → Option Sl
  | [], S => some S
  | _, _ => none
def bCons (b : D → Sl → Option Sl) (bs : List D → Sl → Option Sl) : List D → Sl → Option Sl
  | d :: ds, S => (b d S).bind (bs ds)
  | _, _ => none
def bTup (n : Nat) (bs : List D → Sl → Option Sl) : D → Sl → Option Sl
  | .tuple ds, S => if ds.length = n then bs ds S else none
  | _, _ => none
theorem sgs_nil : SGs c X [] [] bNil := pgsImp pgs_nil fun v σ H Q ⟨fp, S, d, S', R, r, e, q⟩ => by
  cases d with
  | nil =>
    cases e
    cases r
    exact ⟨rfl, q σ R rfl fun _ _ => rfl⟩
  | cons => cases e
theorem sgs_cons {es : List Expr} {b : D → Sl → Option Sl} {bs : List D → Sl → Option Sl} (h1 : SG c X e w1 b) (h2 : SGs c X es w2 bs)
    (hs : (assignEach (e :: es) X.env).map (·.2) = assign e X.env :: (assignEach es X.env).map (·.2)) : SGs c X (e :: es) (w1 ++ w2) (bCons b bs) := pgsImp (pgs_cons h1 h2 hs) fun v σ H Q ⟨fp, S, d, S', R, r, e, q⟩ => by
  cases r with
  | nil => cases e
  | @cons v vs d ds r rr =>
    unfold bCons at e
    dsimp only at e
    cases hb : b d S with
    | none => rw [hb] at e; cases e
    | some S1 =>
      rw [hb] at e
      refine ⟨v, vs, rfl, fp, S, d, S1, R, r, hb, fun σ1 R1 l1 k1 => ⟨fp, S1, ds, S', R1, rr, e, fun σ2 R2 l2 k2 => ?_⟩⟩
      exact q σ2 R2 (l2.trans l1) fun i hi => (k2 i fun z => hi (by simp [z])).trans (k1 i fun z => hi (by simp [z]))
theorem sg_tup {es : List Expr} {k n : Nat} {bs : List D → Sl → Option Sl} (hc : X.calm = true) (h : SGs c X es ws bs)
    (hn : (assignEach es X.env).length = n) (hst : (assignEach es X.env).findIdx? (·.1) = none) : SG c X (.Tuple es k pos) ws (bTup n bs) := pgImp (pg_tup hc h hn hst) fun v σ H Q ⟨fp, S, d, S', R, r, e, q⟩ => by
  cases d with
  | tuple ds =>
    unfold bTup at e
    dsimp only at e
    by_cases hl : ds.length = n
    · rw [if_pos hl] at e
      obtain ⟨a, xs, rfl, ha, ra⟩ := r.tuple
      exact ⟨a, xs, rfl, .inl (.inl ha), by rw [ra.length, hl], fp, S, ds, S', R, ra, e, q⟩
    · rw [if_neg hl] at e; cases e
  | _ => cases e
/-! ### a block's own names forgotten -/
def wipeS (S : Sl) : List Nat → Sl
  | [] => S
  | v :: vs => (wipeS S vs).set v none
theorem Rel.wipe (R : Rel c fp σ S H) : ∀ {vs : List Nat}, (∀ i ∈ vs, i ∉ c.own) → Rel c fp (L2.wipe σ vs) (wipeS S vs) H
  | [], _ => R
  | v :: vs, h => (Rel.wipe R (vs := vs) fun i hi => h i (List.mem_cons_of_mem _ hi)).none (h v (by simp))
theorem wipe_in {i : Nat} : ∀ {vs : List Nat}, i ∈ vs → (L2.wipe σ vs)[i]? = if i < σ.length then some none else none
  | v :: vs, h => by
    show ((L2.wipe σ vs).set v none)[i]? = _
    by_cases e : v = i
    · subst e
      rw [List.getElem?_set_self']
      by_cases hl : v < σ.length
      · have : v < (L2.wipe σ vs).length := by rw [L2.wipe_length]; exact hl
        rw [List.getElem?_eq_getElem this]
        simp [hl]
      · have : (L2.wipe σ vs).length ≤ v := by rw [L2.wipe_length]; omega
        rw [List.getElem?_eq_none this]
        simp [hl]
    · rw [List.getElem?_set_ne e]
      exact wipe_in (by rcases List.mem_cons.mp h with z | z; · exact absurd z.symm e
                        · exact z)
theorem wipe_eq {σ2 : Sg} (hl : σ2.length = (L2.wipe σ vs).length) (h : ∀ i, i ∉ vs → σ2[i]? = (L2.wipe σ vs)[i]?) : L2.wipe σ2 vs = L2.wipe σ vs := by
  refine List.ext_getElem? fun i => ?_
  by_cases hi : i ∈ vs
  · rw [wipe_in hi, wipe_in hi, hl, L2.wipe_length]
  · rw [L2.wipe_out hi, h i hi]
/-- the slots w as in T, the others as in S -/
def mrg (w : List Nat) (S T : Sl) : Sl := w.foldl (fun A i => A.set i (gt T i)) S
theorem mrg_length {T : Sl} : ∀ {w : List Nat} {S : Sl}, (mrg w S T).length = S.length
  | [], _ => rfl
  | i :: w, S => by
    show (mrg w (S.set i (gt T i)) T).length = _
    rw [mrg_length, List.length_set]
theorem mrg_gt {T : Sl} {j : Nat} : ∀ {w : List Nat} {S : Sl}, T.length = S.length → gt (mrg w S T) j = if j ∈ w then gt T j else gt S j
  | [], S, _ => by simp [mrg]
  | i :: w, S, h => by
    show gt (mrg w (S.set i (gt T i)) T) j = _
    rw [mrg_gt (by rw [List.length_set]; exact h), gt_set]
    by_cases hj : j ∈ w
    · simp [hj]
    · rw [if_neg hj]
      by_cases hij : i = j
      · subst hij
        by_cases hl : i < S.length
        · simp [hl]
        · have e1 : gt T i = Option.none := by unfold gt; rw [List.getElem?_eq_none (by omega)]; rfl
          have e2 : gt S i = Option.none := by unfold gt; rw [List.getElem?_eq_none (by omega)]; rfl
          simp [hl, e1, e2]
      · have : j ∉ i :: w := by
          intro z
          rcases List.mem_cons.mp z with z | z
          · exact hij z.symm
          · exact hj z
        simp [hij, hj, Ne.symm hij]
/-- the frame as it was, with what was written -/
theorem Rel.back {σ' : Sg} (R : Rel c fp σ S H) (C : Chg c wr fp H fp' H') (R' : Rel c fp' σ' S' H') (hl : σ'.length = σ.length) (hw : ∀ i ∈ wr, i ∈ c.own) (hs : ∀ i ∈ wr, σ'[i]? = σ[i]?) : Rel c fp' σ (mrg wr S S') H' where
  len := by rw [mrg_length]; exact R.len
  own := fun i hi d e => by
    rw [mrg_gt (by rw [R'.len, R.len, hl])] at e
    by_cases h : i ∈ wr
    · rw [if_pos h] at e
      obtain ⟨v, e1, r⟩ := R'.own i hi d e
      exact ⟨v, by rw [← hs i h]; exact e1, r⟩
    · rw [if_neg h] at e
      obtain ⟨v, e1, r⟩ := R.own i hi d e
      refine ⟨v, e1, ?_⟩
      rw [C.same i h]
      exact r.mono (fun a xs e n => ⟨C.keepN e n, C.bd n (by rw [e]; simp)⟩) (fun a o u e => C.keepN e (Bd.nofrz R e)) (fun a xs e => C.keepN e (Bd.notup R e)) fun a ha xs e => C.keep a _ e fun j hj hw q => R.dj i hi j hj (fun z => h (by rw [z]; exact hw)) a ha q
  frz := fun i hi d e => by
    rw [mrg_gt (by rw [R'.len, R.len, hl]), if_neg (fun z => hi (hw i z))] at e
    obtain ⟨v, e1, r⟩ := R.frz i hi d e
    exact ⟨v, e1, Rp.chg R C r⟩
  nd := R'.nd
  dj := R'.dj
  nf := R'.nf
  mt := R'.mt
  fl := R'.fl
  tk := fun i hi ds e => by
    rw [mrg_gt (by rw [R'.len, R.len, hl])] at e
    by_cases h : i ∈ wr
    · rw [if_pos h] at e
      exact R'.tk i hi ds e
    · rw [if_neg h] at e
      rw [C.same i h]
      exact R.tk i hi ds e
/-! ### tests -/
abbrev STs (c : Cf) (X : Cx) (ifs : List Expr) (wr : List Nat) (f : SM) : Prop := PTs X ifs (tT c wr f)
theorem ptsImp {es : List Expr} {t t' : TT} (h : PTs X es t) (i : ∀ σ H Q, t' σ H Q → t σ H Q) : PTs X es t' := ⟨fun pins s σ H Q I q => h.run pins s σ H Q I (i σ H Q q)⟩
theorem sts_nil : STs c X [] [] (mC (.bool true)) := ptsImp pts_nil fun σ H Q ⟨fp, S, R, b, S', e, q⟩ => by
  cases e
  exact q H fp R .refl
theorem sts_one (h : ST c X e wr f) : STs c X [e] wr f := pts_one h
/-! ### list comprehensions -/
def goLc (vs wb : List Nat) (b : D → Sl → Option Sl) (ft fe : SM) : List D → Sl → Option (List D × Sl)
  | [], S => some ([], S)
  | d :: ds, S => (b d (wipeS S vs)).bind fun S2 => (ft S2).bind fun r => match r.1 with
    | .bool true => (fe r.2).bind fun y => (goLc vs wb b ft fe ds (mrg wb S y.2)).map fun q => (y.1 :: q.1, q.2)
    | .bool false => goLc vs wb b ft fe ds (mrg wb S r.2)
    | _ => none
def mLc (vs wb : List Nat) (b : D → Sl → Option Sl) (ft fe : SM) (fi : SLs) : SM := fun S => (fi S).bind fun r => (goLc vs wb b ft fe r.1 r.2).bind fun q => if q.1.length ≤ sizeLine then some (.list q.1, q.2) else none
theorem lc_tr {wi wb lk : List Nat} {b : D → Sl → Option Sl} {ft fe : SM} {fi : SLs} {Q : VK} (hv : ∀ i ∈ vs, i ∉ c.own) (hws : ∀ i ∈ ws, i ∈ vs) (hb : ∀ i ∈ wb, i ∈ c.own) (hlk : ∀ i ∈ lk, i ∉ wb) (h : tN c (wi ++ wb) (mLc vs wb b ft fe fi) σ H Q) :
    tLc (tI c wi lk fi) (fun v σ H Q => ∃ F, tG (c.wF F) ws b v σ H Q) (fun σ H Q => ∃ F, tT (c.wF F) wb ft σ H Q) (fun σ H Q => ∃ F, tE (c.wF F) wb .fz fe σ H Q) vs σ H Q := by
  obtain ⟨fp, S, R, d, S', e, q⟩ := h
  unfold mLc at e
  cases hfi : fi S with
  | none => rw [hfi] at e; cases e
  | some r =>
    obtain ⟨ds, S1⟩ := r
    rw [hfi] at e
    simp only [Option.bind_some] at e
    cases hgo : goLc vs wb b ft fe ds S1 with
    | none => rw [hgo] at e; cases e
    | some r =>
      obtain ⟨es, Sf⟩ := r
      rw [hgo] at e
      simp only [Option.bind_some] at e
      have hsz : es.length ≤ sizeLine := by
        by_cases hsz : es.length ≤ sizeLine
        · exact hsz
        · rw [if_neg hsz] at e; cases e
      rw [if_pos hsz] at e
      cases e
      refine ⟨fp, S, R, ds, S1, hfi, fun J H1 fp1 G R1 C1 wk g D hD => ?_⟩
      refine ⟨fun i m H => m + i = ds.length ∧ ∃ fp' Sx acc accd es', Rel (c.wF (addF c.F D)) fp' σ Sx H ∧ Chg c wb fp1 H1 fp' H ∧ H D = some (.lst acc) ∧ RpAll H (Bd (c.wF (addF c.F D)) fp') acc accd ∧ G (addF c.F D) fp' H ∧ goLc vs wb b ft fe (ds.drop i) Sx = some (es', S') ∧ accd ++ es' = es,
        ⟨ds.length, by omega, fp1, S1, [], [], es, Rel.add (F := c.F) R1 hD, (Chg.ext (same_upd hD)).wide (by simp), upd_same, .nil, wk.add c.F fp1 σ S1 H1 D [] R1 hD g, hgo, rfl⟩, ?_⟩
      rintro i m H2 ⟨hm, fp', Sx, acc, accd, es', Rx, Cx, hD', ra, g', eg, ee⟩
      have hF : addF c.F D D := .inr rfl
      by_cases hi : i < ds.length
      · refine .inr ⟨wk.goes i _ _ H2 hi g', fun H => ∃ fp' Sx acc accd es', Rel (c.wF (addF c.F D)) fp' σ Sx H ∧ Chg c wb fp1 H1 fp' H ∧ H D = some (.lst acc) ∧ RpAll H (Bd (c.wF (addF c.F D)) fp') acc accd ∧ G (addF c.F D) fp' H ∧ goLc vs wb b ft fe (ds.drop (i + 1)) Sx = some (es', S') ∧ accd ++ es' = es, fun H' h => ⟨m - 1, by omega, by omega, h⟩, fun x H3 hy => ?_⟩
        obtain ⟨sm, d', hd', rx⟩ := wk.yields i _ fp' σ Sx H2 x H3 hi Rx g' hy
        rw [List.getElem?_eq_getElem hi] at hd'
        cases hd'
        have R2 := (Rx.ext sm).wipe hv
        rw [List.drop_eq_getElem_cons hi] at eg
        unfold goLc at eg
        cases hbt : b ds[i] (wipeS Sx vs) with
        | none => rw [hbt] at eg; cases eg
        | some S2 =>
          rw [hbt] at eg
          simp only [Option.bind_some] at eg
          refine ⟨addF c.F D, fp', wipeS Sx vs, ds[i], S2, R2, rx, hbt, fun σ2 R3 hl3 fr => ⟨wipe_eq hl3 fun j hj => fr j fun z => hj (hws j z), ?_⟩⟩
          have fr' : ∀ j ∈ wb, σ2[j]? = σ[j]? := fun j hj => by
            have hjv : j ∉ vs := fun z => hv j z (hb j hj)
            rw [fr j fun z => hjv (hws j z), L2.wipe_out hjv]
          have hl' : σ2.length = σ.length := by rw [hl3, L2.wipe_length]
          cases hft : ft S2 with
          | none => rw [hft] at eg; cases eg
          | some r =>
            obtain ⟨bv, S3⟩ := r
            rw [hft] at eg
            simp only [Option.bind_some] at eg
            cases bv with
            | bool bv =>
              refine ⟨addF c.F D, fp', S2, R3, bv, S3, hft, fun H4 fp3 R4 C4 => ?_⟩
              have C4' : Chg (c.wF (addF c.F D)) wb fp' H2 fp3 H4 := ((Chg.ext sm).trans C4).wide (by simp)
              cases bv with
              | true =>
                dsimp only at eg
                dsimp only
                rw [if_pos rfl]
                cases hfe : fe S3 with
                | none => rw [hfe] at eg; cases eg
                | some r =>
                  obtain ⟨y, S4⟩ := r
                  rw [hfe] at eg
                  simp only [Option.bind_some] at eg
                  cases hr : goLc vs wb b ft fe (ds.drop (i + 1)) (mrg wb Sx S4) with
                  | none => rw [hr] at eg; cases eg
                  | some r =>
                    obtain ⟨es2, Sf2⟩ := r
                    rw [hr] at eg
                    simp only [Option.map_some, Option.some.injEq, Prod.mk.injEq] at eg
                    obtain ⟨rfl, rfl⟩ := eg
                    refine ⟨addF c.F D, fp3, S3, R4, y, S4, hfe, fun v H5 fp4 R5 C5 rv => ?_⟩
                    have Ct : Chg (c.wF (addF c.F D)) wb fp' H2 fp4 H5 := (C4'.trans C5).wide (by simp)
                    have hD5 : H5 D = some (.lst acc) := Ct.keep D _ hD' fun j hj _ z => Rx.nf j hj D z hF
                    have Rb := Rel.back Rx Ct R5 hl' hb fr'
                    refine ⟨acc, hD5, ?_, fp4, mrg wb Sx S4, acc ++ [v], accd ++ [y], es2, Rb.updF hF hD5, ((Cx.trans Ct.unF).wide (by simp)).updN hD, upd_same, ?_, ?_, hr, by rw [← ee]; simp⟩
                    · rw [ra.length]
                      rw [← ee] at hsz
                      simp only [List.length_append, List.length_cons] at hsz
                      omega
                    · exact (rpAll_updF (.inl hF) hD5 (RpAll.chg Rx Ct ra)).append (.one (rp_updF (.inl hF) hD5 rv))
                    · exact wk.upd _ fp4 σ _ H5 D acc _ Rb hF hD5 (wk.stays _ fp' σ Sx H2 wb fp4 H5 Rx Ct hlk g')
              | false =>
                dsimp only at eg
                dsimp only
                rw [if_neg Bool.false_ne_true]
                have hD5 : H4 D = some (.lst acc) := C4'.keep D _ hD' fun j hj _ z => Rx.nf j hj D z hF
                have Rb := Rel.back Rx C4' R4 hl' hb fr'
                exact ⟨fp3, mrg wb Sx S3, acc, accd, es', Rb, (Cx.trans C4'.unF).wide (by simp), hD5, RpAll.chg Rx C4' ra, wk.stays _ fp' σ Sx H2 wb fp3 H4 Rx C4' hlk g', eg, ee⟩
            | _ => cases eg
      · have hil : i = ds.length := by omega
        subst hil
        rw [List.drop_length] at eg
        unfold goLc at eg
        cases eg
        rw [List.append_nil] at ee
        subst ee
        refine .inl ⟨wk.stops _ fp' H2 g', q D acc accd H2 fp' rfl Rx (C1.trans Cx) ⟨hD', fun z => ?_, C1.fresh hD, ra⟩⟩
        rcases z with z | ⟨j, hj, z⟩
        · exact Bd.live R1 (.inl z) hD
        · exact Rx.nf j hj D z hF
section
variable {elt iter : Expr} {ifs : List Expr} {scope : Scope} {own : List (Str × Nat)} {wi wb lk : List Nat} {b : D → Sl → Option Sl} {ft fe : SM} {fi : SLs}
theorem sn_lc (hc : X.calm = true) (hN : X.N.Nodup) (hi : SI c X tg iter wi lk fi) (ok : BlkOk X.N X.env.scope scope own)
    (hg : ∀ (F : Addr → Prop) (s : Shared) (H : Hp) (C : Addr) (cl : List (Str × Addr)) (fp : List Addr), SG (c.wF F) (X.blk s H scope (compEnvC scope cl C X.env) fp) tg ws b)
    (ht : ∀ (F : Addr → Prop) (s : Shared) (H : Hp) (C : Addr) (cl : List (Str × Addr)) (fp : List Addr), STs (c.wF F) (X.blk s H scope (compEnvC scope cl C X.env) fp) ifs wb ft)
    (he : ∀ (F : Addr → Prop) (s : Shared) (H : Hp) (C : Addr) (cl : List (Str × Addr)) (fp : List Addr), SE (c.wF F) (X.blk s H scope (compEnvC scope cl C X.env) fp) elt wb .fz fe)
    (hv : ∀ i ∈ own.map (·.2), i ∉ c.own) (hws : ∀ i ∈ ws, i ∈ own.map (·.2)) (hb : ∀ i ∈ wb, i ∈ c.own) (hlk : ∀ i ∈ lk, i ∉ wb)
    (hs : ∀ x, foldedSetIterable iter X.env x = pure x) :
    SN c X (.ListComp elt [⟨tg, iter, ifs, 0⟩] scope pos) (wi ++ wb) (mLc (own.map (·.2)) wb b ft fe fi) :=
  peImp (pe_lc hc hN hi ok (fun s H C cl fp => ⟨fun pins s1 σ H v u Q I r ⟨F, q⟩ => (hg F s _ C cl fp).run pins s1 σ H v u Q I r q⟩)
    (fun s H C cl fp => ⟨fun pins s1 σ H Q I ⟨F, q⟩ => (ht F s _ C cl fp).run pins s1 σ H Q I q⟩)
    (fun s H C cl fp => ⟨fun pins s1 σ H Q I ⟨F, q⟩ => (he F s _ C cl fp).run pins s1 σ H Q I q⟩) hs) fun σ H Q h => lc_tr hv hws hb hlk h
end
end
end FV
end
section
set_option Elab.async false
set_option linter.all false
set_option maxRecDepth 100000
set_option maxHeartbeats 4000000
/-! Statements, over trees. -/
namespace FV
open PySem PySem.Spec PyProof.Rows L2
/-! ### own lists -/
section
variable {c : Cf} {X : Cx} {e a b tg : Expr} {pos : Pos} {wr w1 w2 ws vs : List Nat} {m m1' m2' : Md} {f fa fb fc : SM} {fp fp' : Fp} {σ : Sg} {S S' : Sl} {H H' H1 : Hp} {i : Nat} {p : Addr}
theorem Rel.ownL {ds : List D} (R : Rel c fp σ S H) (ho : i ∈ c.own) (hf : i ∈ c.flat) (e : gt S i = some (.list ds)) : ∃ a xs, σ[i]? = some (some (.ref a)) ∧ fp i = [a] ∧ H a = some (.lst xs) ∧ RpAll H (Bd c fp) xs ds := by
  obtain ⟨v, e1, r⟩ := R.own i ho _ e
  have hl := R.fl i hf
  have hn := R.tk i ho ds e
  generalize hA : fp i = A at r hl hn
  cases r with
  | ow r =>
    cases r with
    | frz r => exact absurd rfl hn
    | @lst a xs _ A' e2 r =>
      have hA' : A' = [] := by simpa using hl
      subst hA'
      exact ⟨a, xs, e1, rfl, e2, r.flat rfl⟩
theorem Rel.setOwn {a : Addr} {xs ys : List V} {es : List D} (R : Rel c fp σ S H) (ho : i ∈ c.own) (hf : i ∈ c.flat) (e1 : σ[i]? = some (some (.ref a))) (e2 : fp i = [a]) (e3 : H a = some (.lst xs)) (r : RpAll H (Bd c fp) ys es) :
    Rel c fp σ (S.set i (some (.list es))) (upd H a (.lst ys)) ∧ Chg c [i] fp H fp (upd H a (.lst ys)) := by
  have ha : a ∈ fp i := by rw [e2]; simp
  have hB : Bd c fp a := .inr ⟨i, ho, ha⟩
  refine ⟨⟨by rw [List.length_set]; exact R.len, fun j hj d e => ?_, fun j hj d e => ?_, R.nd, R.dj, R.nf, fun b hb => ?_, R.fl, fun j hj ds e => ?_⟩, ⟨fun x o e n => ?_, fun _ _ => rfl, fun _ _ _ h => .inl h, fun x hx => ?_⟩⟩
  · rw [gt_set] at e
    by_cases h : i = j ∧ j < S.length
    · rw [if_pos h] at e
      cases e
      obtain ⟨rfl, hl⟩ := h
      refine ⟨.ref a, e1, ?_⟩
      rw [e2]
      exact .ow (.lst upd_same (rpAll_updF hB e3 r).ow)
    · rw [if_neg h] at e
      have hij : i ≠ j := fun z => by
        subst z
        have : ¬ i < S.length := fun z => h ⟨rfl, z⟩
        rw [R.len] at this
        rw [List.getElem?_eq_none (by omega)] at e1
        cases e1
      obtain ⟨v, e4, r4⟩ := R.own j hj d e
      refine ⟨v, e4, r4.mono (fun x zs e n => ⟨by rw [upd_ne (fun z : x = a => n (by rw [z]; exact hB))]; exact e, n⟩) (fun x o u e => by rw [upd_ne (ne_of e e3 (by intro z; cases z))]; exact e) (fun x zs e => by rw [upd_ne (ne_of e e3 (by intro z; cases z))]; exact e) fun x hx zs e => ?_⟩
      rw [upd_ne (fun z : x = a => R.dj i ho j hj hij a ha (by rw [← z]; exact hx))]
      exact e
  · rw [gt_set] at e
    have hij : i ≠ j := fun z => hj (by rw [← z]; exact ho)
    rw [if_neg (fun z => hij z.1)] at e
    obtain ⟨v, e4, r4⟩ := R.frz j hj d e
    exact ⟨v, e4, rp_updF hB e3 r4⟩
  · by_cases e : b = a
    · rw [e]; exact .inl ⟨ys, upd_same⟩
    · rcases R.mt b hb with ⟨x, q⟩ | ⟨x, q⟩ | ⟨x, q⟩
      · exact .inl ⟨x, by rw [upd_ne e]; exact q⟩
      · exact .inr (.inl ⟨x, by rw [upd_ne e]; exact q⟩)
      · exact .inr (.inr ⟨x, by rw [upd_ne e]; exact q⟩)
  · by_cases h : i = j
    · rw [← h, e2]; simp
    · rw [gt_set, if_neg (fun z => h z.1)] at e
      exact R.tk j hj ds e
  · rw [upd_ne (fun z : x = a => n i ho (by simp) (by rw [z]; exact ha))]
    exact e
  · by_cases z : x = a
    · rw [z, upd_same]; simp
    · rw [upd_ne z]; exact hx
/-- a new list into a slot -/
def fpS (fp : Fp) (i : Nat) (A : List Addr) : Fp := fun j => if j = i then A else fp j
theorem Rel.ownPut {xs : List V} {ds : List D} (R : Rel (c.wF (addF c.F p)) fp σ S H) (ho : i ∈ c.own) (e3 : H p = some (.lst xs)) (hout : ¬ Bd c fp p) (r : RpAll H (Bd (c.wF (addF c.F p)) fp) xs ds) :
    Rel c (fpS fp i [p]) (σ.set i (some (.ref p))) (S.set i (some (.list ds))) H := by
  have less : ∀ a, Bd c (fpS fp i [p]) a → Bd (c.wF (addF c.F p)) fp a := fun a z => by
    rcases z with z | ⟨k, hk, z⟩
    · exact .inl (.inl z)
    · unfold fpS at z
      by_cases e : k = i
      · rw [if_pos e] at z
        exact .inl (.inr (by simpa using z))
      · rw [if_neg e] at z
        exact .inr ⟨k, hk, z⟩
  have pn : ∀ j ∈ c.own, p ∉ fp j := fun j hj z => hout (.inr ⟨j, hj, z⟩)
  refine ⟨by rw [List.length_set, List.length_set]; exact R.len, fun j hj d e => ?_, fun j hj d e => ?_, fun j hj => ?_, fun j hj k hk hjk a ha => ?_, fun j hj a ha => ?_, fun b hb => R.mt b (less b hb), fun j hj => ?_, fun j hj es e => ?_⟩
  · rw [gt_set] at e
    by_cases h : i = j ∧ j < S.length
    · rw [if_pos h] at e
      cases e
      obtain ⟨rfl, hl⟩ := h
      refine ⟨.ref p, by rw [List.getElem?_set_self (by rw [← R.len]; exact hl)], ?_⟩
      unfold fpS
      rw [if_pos rfl]
      exact .ow (.lst e3 (r.less less).ow)
    · rw [if_neg h] at e
      obtain ⟨v, e1, r1⟩ := R.own j hj d e
      have hij : i ≠ j := fun z => by
        subst z
        have : ¬ i < S.length := fun z => h ⟨rfl, z⟩
        rw [R.len] at this
        rw [List.getElem?_eq_none (by omega)] at e1
        cases e1
      refine ⟨v, by rw [List.getElem?_set_ne hij]; exact e1, ?_⟩
      unfold fpS
      rw [if_neg (Ne.symm hij)]
      exact r1.mono (fun a xs e n => ⟨e, fun z => n (less a z)⟩) (fun a o u e => e) (fun a xs e => e) fun a _ xs e => e
  · have hij : i ≠ j := fun z => hj (by rw [← z]; exact ho)
    rw [gt_set, if_neg (fun z => hij z.1)] at e
    obtain ⟨v, e1, r1⟩ := R.frz j hj d e
    exact ⟨v, by rw [List.getElem?_set_ne hij]; exact e1, r1.less less⟩
  · unfold fpS
    by_cases e : j = i
    · rw [if_pos e]; simp
    · rw [if_neg e]; exact R.nd j hj
  · unfold fpS at ha ⊢
    by_cases e : j = i
    · rw [if_pos e] at ha
      have ha' : a = p := by simpa using ha
      rw [if_neg (fun z => hjk (e.trans z.symm)), ha']
      exact pn k hk
    · rw [if_neg e] at ha
      by_cases e2 : k = i
      · rw [if_pos e2]
        intro z
        have z' : a = p := by simpa using z
        exact pn j hj (by rw [← z']; exact ha)
      · rw [if_neg e2]
        exact R.dj j hj k hk hjk a ha
  · unfold fpS at ha
    by_cases e : j = i
    · rw [if_pos e] at ha
      have ha' : a = p := by simpa using ha
      rw [ha']
      exact fun z => hout (.inl z)
    · rw [if_neg e] at ha
      exact fun z => R.nf j hj a ha (.inl z)
  · unfold fpS
    by_cases e : j = i
    · rw [if_pos e]; simp
    · rw [if_neg e]; exact R.fl j hj
  · unfold fpS
    by_cases e2 : j = i
    · rw [if_pos e2]; simp
    · rw [if_neg e2]
      rw [gt_set, if_neg (fun z => e2 z.1.symm)] at e
      exact R.tk j hj es e
theorem Chg.ownPut (C : Chg c wr fp H fp' H') (h : H p = none) : Chg c (wr ++ [i]) fp H (fpS fp' i [p]) H' where
  keep := fun x o e n => C.keep x o e fun j hj hw => n j hj (by simp [hw])
  same := fun j hj => by
    unfold fpS
    rw [if_neg (fun z => hj (by simp [z]))]
    exact C.same j fun z => hj (by simp [z])
  new := fun j hj a ha => by
    unfold fpS at ha
    by_cases e : j = i
    · rw [if_pos e] at ha
      have ha' : a = p := by simpa using ha
      rw [ha']
      exact .inr (.inr h)
    · rw [if_neg e] at ha
      rcases C.new j hj a ha with z | ⟨h1, k, hk, hkl, hkw, z⟩ | z
      · exact .inl z
      · exact .inr (.inl ⟨h1, k, hk, hkl, by simp [hkw], z⟩)
      · exact .inr (.inr z)
  live := C.live
end
/-! ### what a statement does -/
inductive Ctl where
  | nx | bk | ct
  | rt (d : D)
abbrev CM := Sl → Option (Ctl × Sl)
/-- what is returned; nw: a list that the frame alone names. lo: the slots that are not handed in -/
def RetV (c : Cf) (lo : List Nat) (nw : Bool) (fp : Fp) (H : Hp) (fp' : Fp) (H' : Hp) (σ' : Sg) (S' : Sl) (v : V) (d : D) : Prop :=
  if nw = true then ∃ p xs ds, v = .ref p ∧ d = .list ds ∧ H' p = some (.lst xs) ∧ (H p = none ∨ ∃ i ∈ c.own, i ∈ c.lo ∧ p ∈ fp i) ∧ ¬ c.F p ∧ (∀ j ∈ c.own, j ∉ c.lo → p ∉ fp' j) ∧ RpAll H' (fun a => Bd c fp' a ∨ a = p) xs ds ∧
    ∀ j ∈ c.own, j ∉ c.lo → ∀ d, gt S' j = some d → ∃ v, σ'[j]? = some (some v) ∧ OwT H' (fun a => Bd c fp' a ∨ a = p) v d (fp' j)
  else Rp H' (Bd c fp') v d
def tSt (c : Cf) (wr as lo : List Nat) (nw : Bool) (f : CM) : TS := fun D σ H => ∃ fp S, Rel c fp σ S H ∧ ∃ r S', f S = some (r, S') ∧ ∀ σ' H' fp', Rel c fp' σ' S' H' → Chg c wr fp H fp' H' → σ'.length = σ.length → (∀ i, i ∉ as → σ'[i]? = σ[i]?) → match r with
  | .nx => D.nx σ' H'
  | .bk => D.bk σ' H'
  | .ct => D.ct σ' H'
  | .rt d => ∀ v, RetV c lo nw fp H fp' H' σ' S' v d → D.rt v H'
abbrev SS (c : Cf) (X : Cx) (st : Stmt) (wr as lo : List Nat) (nw : Bool) (f : CM) : Prop := PS X st (tSt c wr as lo nw f)
abbrev SSs (c : Cf) (X : Cx) (st : List Stmt) (wr as lo : List Nat) (nw : Bool) (f : CM) : Prop := PSs X st (tSt c wr as lo nw f)
theorem psImp {X : Cx} {e : Stmt} {t t' : TS} (h : PS X e t) (i : ∀ D σ H, t' D σ H → t D σ H) : PS X e t' := ⟨fun pins s σ H D I q => h.run pins s σ H D I (i D σ H q)⟩
theorem pssImp {X : Cx} {e : List Stmt} {t t' : TS} (h : PSs X e t) (i : ∀ D σ H, t' D σ H → t D σ H) : PSs X e t' := ⟨fun pins s σ H D I q => h.run pins s σ H D I (i D σ H q)⟩
def cNx : CM := fun S => some (.nx, S)
def cBk : CM := fun S => some (.bk, S)
def cCt : CM := fun S => some (.ct, S)
def cSeq (f g : CM) : CM := fun S => (f S).bind fun r => match r.1 with
  | .nx => g r.2
  | _ => some r
def cIf (t : SM) (a b : CM) : CM := fun S => (t S).bind fun r => match r.1 with
  | .bool true => a r.2
  | .bool false => b r.2
  | _ => none
def cDrop (f : SM) : CM := fun S => (f S).map fun r => (.nx, r.2)
def cRet (f : SM) : CM := fun S => (f S).map fun r => (.rt r.1, r.2)
def cRetN : CM := fun S => some (.rt .none, S)
def cSet (i : Nat) (f : SM) : CM := fun S => (f S).map fun r => (.nx, r.2.set i (some r.1))
def cAsg (b : D → Sl → Option Sl) (f : SM) : CM := fun S => (f S).bind fun r => (b r.1 r.2).map fun S' => (.nx, S')
def cNo : CM := fun _ => none
section
variable {c : Cf} {X : Cx} {st : Stmt} {sts : List Stmt} {e a b tg : Expr} {pos : Pos} {wr w1 w2 w3 as a1 a2 a3 ws lo : List Nat} {nw : Bool} {m : Md} {f fa fb : SM} {g g1 g2 : CM} {fp fp' fp1 : Fp} {σ : Sg} {S S' : Sl} {H H' H1 : Hp} {i : Nat} {p : Addr}
theorem RetV.back {v : V} {d : D} (C : Chg c w1 fp H fp1 H1) (r : RetV c lo nw fp1 H1 fp' H' σ S' v d) : RetV c lo nw fp H fp' H' σ S' v d := by
  unfold RetV at r ⊢
  cases nw with
  | false => exact r
  | true =>
    rw [if_pos rfl] at r ⊢
    obtain ⟨p, xs, ds, e1, e2, e3, e4, e5⟩ := r
    refine ⟨p, xs, ds, e1, e2, e3, ?_, e5⟩
    rcases e4 with e4 | ⟨i, h1, h2, h3⟩
    · exact .inl (C.fresh e4)
    · rcases C.new i h1 p h3 with z | ⟨_, j, hj, hjl, _, z⟩ | z
      · exact .inr ⟨i, h1, h2, z⟩
      · exact .inr ⟨j, hj, hjl, z⟩
      · exact .inl z
theorem ss_wide (h : SS c X st w1 a1 lo nw g) (hw : ∀ i ∈ w1, i ∈ w2) (ha : ∀ i ∈ a1, i ∈ a2) : SS c X st w2 a2 lo nw g := psImp h fun D σ H ⟨fp, S, R, r, S', e, q⟩ =>
  ⟨fp, S, R, r, S', e, fun σ' H' fp' R' C l k => q σ' H' fp' R' (C.wide hw) l fun i hi => k i fun z => hi (ha i z)⟩
theorem sss_wide (h : SSs c X sts w1 a1 lo nw g) (hw : ∀ i ∈ w1, i ∈ w2) (ha : ∀ i ∈ a1, i ∈ a2) : SSs c X sts w2 a2 lo nw g := pssImp h fun D σ H ⟨fp, S, R, r, S', e, q⟩ =>
  ⟨fp, S, R, r, S', e, fun σ' H' fp' R' C l k => q σ' H' fp' R' (C.wide hw) l fun i hi => k i fun z => hi (ha i z)⟩
theorem ss_nil : SSs c X [] [] [] lo nw cNx := pssImp pss_nil fun D σ H ⟨fp, S, R, r, S', e, q⟩ => by
  cases e
  exact q σ H fp R .refl rfl fun _ _ => rfl
theorem ss_cons (h1 : SS c X st w1 a1 lo nw g1) (h2 : SSs c X sts w2 a2 lo nw g2) : SSs c X (st :: sts) (w1 ++ w2) (a1 ++ a2) lo nw (cSeq g1 g2) := pssImp (pss_cons h1 h2) fun D σ H ⟨fp, S, R, r, S', e, q⟩ => by
  unfold cSeq at e
  cases h : g1 S with
  | none => rw [h] at e; cases e
  | some x =>
    obtain ⟨r1, S1⟩ := x
    rw [h] at e
    simp only [Option.bind_some] at e
    refine ⟨fp, S, R, r1, S1, h, fun σ1 H1 fp1 R1 C1 l1 k1 => ?_⟩
    have fin : ∀ {r' S2}, (some (r', S2) : Option (Ctl × Sl)) = some (r, S') → r' = r ∧ S2 = S' := fun z => by cases z; exact ⟨rfl, rfl⟩
    cases r1 with
    | nx =>
      refine ⟨fp1, S1, R1, r, S', e, fun σ' H' fp' R' C l k => ?_⟩
      have q' := q σ' H' fp' R' (C1.trans C) (l.trans l1) fun i hi => (k i fun z => hi (by simp [z])).trans (k1 i fun z => hi (by simp [z]))
      cases r with
      | rt d => exact fun v rv => q' v (rv.back C1)
      | _ => exact q'
    | bk => cases e; exact q σ1 H1 fp1 R1 (C1.wide (by simp; intro i hi; exact .inl hi)) l1 fun i hi => k1 i fun z => hi (by simp [z])
    | ct => cases e; exact q σ1 H1 fp1 R1 (C1.wide (by simp; intro i hi; exact .inl hi)) l1 fun i hi => k1 i fun z => hi (by simp [z])
    | rt d => cases e; exact q σ1 H1 fp1 R1 (C1.wide (by simp; intro i hi; exact .inl hi)) l1 fun i hi => k1 i fun z => hi (by simp [z])
theorem ss_pass : SS c X (.Pass pos) [] [] lo nw cNx := psImp ps_pass fun D σ H ⟨fp, S, R, r, S', e, q⟩ => by
  cases e
  exact q σ H fp R .refl rfl fun _ _ => rfl
theorem ss_break : SS c X (.Break pos) [] [] lo nw cBk := psImp ps_break fun D σ H ⟨fp, S, R, r, S', e, q⟩ => by
  cases e
  exact q σ H fp R .refl rfl fun _ _ => rfl
theorem ss_cont : SS c X (.Continue pos) [] [] lo nw cCt := psImp ps_continue fun D σ H ⟨fp, S, R, r, S', e, q⟩ => by
  cases e
  exact q σ H fp R .refl rfl fun _ _ => rfl
theorem ss_doc {x j pos'} : SS c X (.Expr (.Constant (.str x) j pos) pos') [] [] lo nw cNx := psImp ps_doc fun D σ H ⟨fp, S, R, r, S', e, q⟩ => by
  cases e
  exact q σ H fp R .refl rfl fun _ _ => rfl
/-- code that the proof never comes to -/
theorem ss_no : SS c X st [] [] lo nw cNo := psImp ps_never fun D σ H ⟨fp, S, R, r, S', e, q⟩ => by cases e
theorem ss_expr (h : SE c X e wr m f) (hs : swapsWith e none pos.line X.env = pure false) : SS c X (.Expr e pos) wr [] lo nw (cDrop f) := psImp (ps_expr h hs) fun D σ H ⟨fp, S, R, r, S', e, q⟩ => by
  unfold cDrop at e
  cases hf : f S with
  | none => rw [hf] at e; cases e
  | some x =>
    obtain ⟨d, S1⟩ := x
    rw [hf] at e
    cases e
    exact ⟨fp, S, R, d, S1, hf, fun v H' fp' R' C _ => q σ H' fp' R' C rfl fun _ _ => rfl⟩
theorem ss_ret (h : SE c X e wr .fz f) : SS c X (.Return (some e) pos) wr [] lo false (cRet f) := psImp (ps_ret h) fun D σ H ⟨fp, S, R, r, S', e, q⟩ => by
  unfold cRet at e
  cases hf : f S with
  | none => rw [hf] at e; cases e
  | some x =>
    obtain ⟨d, S1⟩ := x
    rw [hf] at e
    cases e
    exact ⟨fp, S, R, d, S1, hf, fun v H' fp' R' C r => q σ H' fp' R' C rfl (fun _ _ => rfl) v (by unfold RetV; rw [if_neg Bool.false_ne_true]; exact r)⟩
theorem ss_retN : SS c X (.Return none pos) [] [] lo false cRetN := psImp ps_retN fun D σ H ⟨fp, S, R, r, S', e, q⟩ => by
  cases e
  exact q σ H fp R .refl rfl (fun _ _ => rfl) _ (by unfold RetV; rw [if_neg Bool.false_ne_true]; exact .non)
/-- a new list -/
theorem ss_retNew (h : SN c X e wr f) : SS c X (.Return (some e) pos) wr [] lo true (cRet f) := psImp (ps_ret h) fun D σ H ⟨fp, S, R, r, S', e, q⟩ => by
  unfold cRet at e
  cases hf : f S with
  | none => rw [hf] at e; cases e
  | some x =>
    obtain ⟨d, S1⟩ := x
    rw [hf] at e
    cases e
    refine ⟨fp, S, R, d, S1, hf, fun p xs ds H' fp' ed R' C n => q σ H' fp' R'.drop C rfl (fun _ _ => rfl) _ ?_⟩
    unfold RetV
    rw [if_pos rfl]
    refine ⟨p, xs, ds, rfl, ed, n.here, .inl n.fresh, fun z => n.out (.inl z), fun j hj _ z => n.out (.inr ⟨j, hj, z⟩), n.items.less fun a z => ?_, fun j hj _ d e => ?_⟩
    · rcases z with (z | z) | z
      · exact .inl (.inl z)
      · exact .inr z
      · exact .inl (.inr z)
    · obtain ⟨v, e1, r⟩ := R'.own j hj d e
      refine ⟨v, e1, r.mono (fun a xs e n => ⟨e, fun z => n ?_⟩) (fun a o u e => e) (fun a xs e => e) fun a _ xs e => e⟩
      rcases z with (z | z) | z
      · exact .inl (.inl z)
      · exact .inr z
      · exact .inl (.inr z)
/-- one's own list -/
def cRetO (i : Nat) : CM := fun S => match gt S i with
  | some (.list ds) => some (.rt (.list ds), S)
  | _ => none
theorem ss_retOwn {x : Str} {pos' : Pos} (hN : X.N[i]? = some x) (hv : Vis X.env.scope x) (hd : (x == ("__debug__" : Str)) = false) (hcd : (x == ("__classdict__" : Str)) = false) (ho : i ∈ c.own) (hf : i ∈ c.flat) (hl : i ∈ c.lo) :
    SS c X (.Return (some (.Name x pos')) pos) [] [] lo true (cRetO i) := psImp (ps_ret (pe_var hN hv hd hcd)) fun D σ H ⟨fp, S, R, r, S', e, q⟩ => by
  unfold cRetO at e
  split at e
  · rename_i ds hg
    cases e
    obtain ⟨a, xs, e1, e2, e3, r⟩ := R.ownL ho hf hg
    have ha : a ∈ fp i := by rw [e2]; simp
    refine ⟨.ref a, e1, q σ H fp R .refl rfl (fun _ _ => rfl) _ ?_⟩
    unfold RetV
    rw [if_pos rfl]
    refine ⟨a, xs, ds, rfl, rfl, e3, .inr ⟨i, ho, hl, ha⟩, R.nf i ho a ha, fun j hj hjl z => R.dj i ho j hj (fun z => hjl (by rw [← z]; exact hl)) a ha z, r.less fun b z => ?_, fun j hj _ d e => ?_⟩
    · rcases z with z | z
      · exact z
      · rw [z]; exact .inr ⟨i, ho, ha⟩
    · obtain ⟨v, e1, r⟩ := R.own j hj d e
      refine ⟨v, e1, r.mono (fun a xs e n => ⟨e, fun z => n ?_⟩) (fun a o u e => e) (fun a xs e => e) fun a _ xs e => e⟩
      rcases z with z | z
      · exact z
      · rw [z]; exact .inr ⟨i, ho, ha⟩
  · cases e
theorem ss_if (h : ST c X e w1 f) (ha : SSs c X sts w2 a2 lo nw g1) {els : List Stmt} (hb : SSs c X els w3 a3 lo nw g2) : SS c X (.If e sts els pos) (w1 ++ (w2 ++ w3)) (a2 ++ a3) lo nw (cIf f g1 g2) := psImp (ps_if h ha hb) fun D σ H ⟨fp, S, R, r, S', e, q⟩ => by
  unfold cIf at e
  cases hf : f S with
  | none => rw [hf] at e; cases e
  | some x =>
    obtain ⟨d, S1⟩ := x
    rw [hf] at e
    simp only [Option.bind_some] at e
    cases d with
    | bool bv =>
      refine ⟨fp, S, R, bv, S1, hf, fun H1 fp1 R1 C1 => ?_⟩
      cases bv with
      | true =>
        rw [if_pos rfl]
        refine ⟨fp1, S1, R1, r, S', e, fun σ' H' fp' R' C l k => ?_⟩
        have q' := q σ' H' fp' R' ((C1.trans C).wide (by intro i hi; rcases List.mem_append.mp hi with z | z <;> simp [z])) l fun i hi => k i fun z => hi (by simp [z])
        cases r with
        | rt d => exact fun v rv => q' v (rv.back C1)
        | _ => exact q'
      | false =>
        rw [if_neg Bool.false_ne_true]
        refine ⟨fp1, S1, R1, r, S', e, fun σ' H' fp' R' C l k => ?_⟩
        have q' := q σ' H' fp' R' ((C1.trans C).wide (by intro i hi; rcases List.mem_append.mp hi with z | z <;> simp [z])) l fun i hi => k i fun z => hi (by simp [z])
        cases r with
        | rt d => exact fun v rv => q' v (rv.back C1)
        | _ => exact q'
    | _ => cases e
/-! ### stores -/
theorem set_tr {te : TE} (hte : ∀ {σ H Q}, tE c wr .fz f σ H Q → te σ H Q) (ho : i ∉ c.own) {D : Ends} (h : tSt c wr [i] lo nw (cSet i f) D σ H) : tAsg te (gName i) D σ H := by
  obtain ⟨fp, S, R, r, S', e, q⟩ := h
  unfold cSet at e
  cases hf : f S with
  | none => rw [hf] at e; cases e
  | some x =>
    obtain ⟨d, S1⟩ := x
    rw [hf] at e
    cases e
    refine hte ⟨fp, S, R, d, S1, hf, fun v H' fp' R' C r => q _ H' fp' (R'.put ho r) C (by simp) fun j hj => ?_⟩
    rw [List.getElem?_set_ne (fun z => hj (by simp [z]))]
theorem setN_tr {te : TE} (hte : ∀ {σ H Q}, tN c wr f σ H Q → te σ H Q) (ho : i ∈ c.own) {D : Ends} (h : tSt c (wr ++ [i]) [i] lo nw (cSet i f) D σ H) : tAsg te (gName i) D σ H := by
  obtain ⟨fp, S, R, r, S', e, q⟩ := h
  unfold cSet at e
  cases hf : f S with
  | none => rw [hf] at e; cases e
  | some x =>
    obtain ⟨d, S1⟩ := x
    rw [hf] at e
    cases e
    refine hte ⟨fp, S, R, d, S1, hf, fun p xs ds H' fp' ed R' C n => ?_⟩
    subst ed
    refine q _ H' (fpS fp' i [p]) (R'.ownPut ho n.here n.out n.items) (C.ownPut n.fresh) (by simp) fun j hj => ?_
    rw [List.getElem?_set_ne (fun z => hj (by simp [z]))]
section
variable {x : Str} {pos' : Pos}
theorem ss_set (hN : X.N.Nodup) (hi : X.N[i]? = some x) (hx : Loc X.env.scope x) (hf : X.fn x = true ∨ X.env.scope.names.lookup x = some .local) (ho : i ∉ c.own) (h : SE c X e wr .fz f) (hs : swapsWith e (some (.Name x pos')) pos.line X.env = pure false) :
    SS c X (.Assign [.Name x pos'] e pos) wr [i] lo nw (cSet i f) := psImp (ps_set hN hi hx h hs hf) fun _ _ _ h => set_tr (fun z => z) ho h
theorem ss_setN (hN : X.N.Nodup) (hi : X.N[i]? = some x) (hx : Loc X.env.scope x) (hf : X.fn x = true ∨ X.env.scope.names.lookup x = some .local) (ho : i ∈ c.own) (h : SN c X e wr f) (hs : swapsWith e (some (.Name x pos')) pos.line X.env = pure false) :
    SS c X (.Assign [.Name x pos'] e pos) (wr ++ [i]) [i] lo nw (cSet i f) := psImp (ps_set hN hi hx h hs hf) fun _ _ _ h => setN_tr (fun z => z) ho h
theorem ss_asg {bd : D → Sl → Option Sl} (h : SE c X e wr .fz f) (hg : SG c X tg ws bd) (hs : swapsWithSole [tg] e pos.line X.env = pure false) (hw : swappedStores [tg] e X.env = pure none)
    (h1 : (assignEach [tg] X.env).map (·.2) = [assign tg X.env]) : SS c X (.Assign [tg] e pos) wr ws lo nw (cAsg bd f) := psImp (ps_asg h hg hs hw h1) fun D σ H ⟨fp, S, R, r, S', e, q⟩ => by
  unfold cAsg at e
  cases hf : f S with
  | none => rw [hf] at e; cases e
  | some x =>
    obtain ⟨d, S1⟩ := x
    rw [hf] at e
    simp only [Option.bind_some] at e
    cases hb : bd d S1 with
    | none => rw [hb] at e; cases e
    | some S2 =>
      rw [hb] at e
      cases e
      exact ⟨fp, S, R, d, S1, hf, fun v H' fp' R' C r => ⟨fp', S1, d, _, R', r, hb, fun σ' R2 l k => q σ' H' fp' R2 C l k⟩⟩
section
variable {elt iter : Expr} {ifs : List Expr} {scope : Scope} {own : List (Str × Nat)} {wi wb lk : List Nat} {b : D → Sl → Option Sl} {ft fe : SM} {fi : SLs} {lpos : Pos}
theorem new_weak {Q : VK} (h : tE c wr .fz f σ H Q) : tN c wr f σ H Q := by
  obtain ⟨fp, S, R, d, S', e1, q⟩ := h
  exact ⟨fp, S, R, d, S', e1, fun p xs ds H' fp' ed R' C n => q _ H' fp' R'.drop C (by rw [ed]; exact n.rp)⟩
/-- name = [..] on one line: one rule for a new list that is one's own, one for any -/
theorem ps_lcN (hc : X.calm = true) (hN : X.N.Nodup) (hy : X.N[i]? = some x) (hyl : X.env.scope.names.lookup x = some .local) (hsw : swapsWith (.ListComp elt [⟨tg, iter, ifs, 0⟩] scope lpos) (some (.Name x pos')) pos.line X.env = pure true)
    (hi : SI c X tg iter wi lk fi) (ok : BlkOk X.N X.env.scope scope own)
    (hg : ∀ (F : Addr → Prop) (s : Shared) (H : Hp) (C : Addr) (cl : List (Str × Addr)) (fp : List Addr), SG (c.wF F) (X.blk s H scope (compEnvC scope cl C X.env) fp) tg ws b)
    (ht : ∀ (F : Addr → Prop) (s : Shared) (H : Hp) (C : Addr) (cl : List (Str × Addr)) (fp : List Addr), STs (c.wF F) (X.blk s H scope (compEnvC scope cl C X.env) fp) ifs wb ft)
    (he : ∀ (F : Addr → Prop) (s : Shared) (H : Hp) (C : Addr) (cl : List (Str × Addr)) (fp : List Addr), SE (c.wF F) (X.blk s H scope (compEnvC scope cl C X.env) fp) elt wb .fz fe)
    (hv : ∀ i ∈ own.map (·.2), i ∉ c.own) (hws : ∀ i ∈ ws, i ∈ own.map (·.2)) (hb : ∀ i ∈ wb, i ∈ c.own) (hlk : ∀ i ∈ lk, i ∉ wb)
    (hs : ∀ x, foldedSetIterable iter X.env x = pure x) :
    PS X (.Assign [.Name x pos'] (.ListComp elt [⟨tg, iter, ifs, 0⟩] scope lpos) pos) (tAsg (tN c (wi ++ wb) (mLc (own.map (·.2)) wb b ft fe fi)) (gName i)) :=
  psImp (ps_setLc hc hN hy hyl hsw hi ok (fun s H C cl fp => ⟨fun pins s1 σ H v u Q I r ⟨F, q⟩ => (hg F s _ C cl fp).run pins s1 σ H v u Q I r q⟩)
    (fun s H C cl fp => ⟨fun pins s1 σ H Q I ⟨F, q⟩ => (ht F s _ C cl fp).run pins s1 σ H Q I q⟩)
    (fun s H C cl fp => ⟨fun pins s1 σ H Q I ⟨F, q⟩ => (he F s _ C cl fp).run pins s1 σ H Q I q⟩) hs) fun D σ H h => lc_tr hv hws hb hlk h
theorem ss_lc (ho : i ∉ c.own) (h : PS X st (tAsg (tN c wr f) (gName i))) : SS c X st wr [i] lo nw (cSet i f) := psImp h fun _ _ _ h => set_tr (fun z => new_weak z) ho h
theorem ss_lcN (ho : i ∈ c.own) (h : PS X st (tAsg (tN c wr f) (gName i))) : SS c X st (wr ++ [i]) [i] lo nw (cSet i f) := psImp h fun _ _ _ h => setN_tr (fun z => z) ho h
end
/-! ### one's own list changed -/
def isLst : Option D → Bool
  | some (.list _) => true
  | _ => false
/-- x.append(e) -/
def mApp (i : Nat) (f : SM) : SM := fun S => if isLst (gt S i) = true then (f S).bind fun r => match gt r.2 i with
  | some (.list ds) => if ds.length < sizeLine then some (.none, r.2.set i (some (.list (ds ++ [r.1])))) else none
  | _ => none
  else none
theorem isLst_of {o : Option D} (h : isLst o = true) : ∃ ds, o = some (.list ds) := by
  cases o with
  | none => cases h
  | some d =>
    cases d with
    | list ds => exact ⟨ds, rfl⟩
    | _ => cases h
variable {apos cpos : Pos}
theorem se_append (hi : X.N[i]? = some x) (hv : Vis X.env.scope x) (hd : (x == ("__debug__" : Str)) = false) (hcd : (x == ("__classdict__" : Str)) = false) (ho : i ∈ c.own) (hfl : i ∈ c.flat) (h : SE c X e wr .fz f)
    (hbase : attributeBase (.Name x pos') "append" X.env (eval (.Name x pos') X.env) = eval (.Name x pos') X.env)
    (hfew : ((backTo cpos (starEach [e] X.env)).all (fun x => !x.1) && (backToKw cpos (keywordEach [] X.env)).all (fun x => x.1.isSome) && decide ([e].length + ([] : List Keyword).length + (if ([] : List Keyword).isEmpty then 0 else 1) < 30)) = true)
    (hline : (apos.endLine == cpos.line) = true) (hs : starEach [e] X.env = (false, eval e X.env) :: starEach [] X.env) (hplain : (backTo cpos (starEach [] X.env)).any (·.1) = false) :
    SE c X (.Call (.Attribute (.Name x pos') "append" apos) [e] [] cpos) (wr ++ [i]) .fz (mApp i f) :=
  peImp (pe_bm PySem.F.plainAttrs_list PySem.F.slot_list_append PySem.F.type_list_append mt_append (pe_var hi hv hd hcd) (pa_cons h pa_nil hs) hbase hfew hline hs hplain) fun σ H Q ⟨fp, S, R, d, S', e1, q⟩ => by
    unfold mApp at e1
    split at e1
    · rename_i hl
      obtain ⟨es, hg⟩ := isLst_of hl
      obtain ⟨a, xs, e2, e3, e4, r0⟩ := R.ownL ho hfl hg
      refine ⟨.ref a, e2, .inl ⟨rfl, xs, .inl (.inl e4)⟩, ?_⟩
      cases hf : f S with
      | none => rw [hf] at e1; cases e1
      | some y =>
        obtain ⟨d2, S1⟩ := y
        rw [hf] at e1
        simp only [Option.bind_some] at e1
        split at e1
        · rename_i ds hg1
          split at e1
          · rename_i hz
            cases e1
            refine ⟨fp, S, R, d2, S1, hf, fun v H1 fp1 R1 C1 r1 => ?_⟩
            obtain ⟨a', xs', e2', e3', e4', r0'⟩ := R1.ownL ho hfl hg1
            have ea : a' = a := by rw [e2] at e2'; cases e2'; rfl
            subst ea
            obtain ⟨R2, C2⟩ := R1.setOwn ho hfl e2' e3' e4' (r0'.append (.one r1))
            exact ⟨a', xs', v, rfl, rfl, e4', by rw [r0'.length]; exact hz, q .non _ fp1 R2 (C1.trans C2) .non⟩
          · cases e1
        · cases e1
    · cases e1
/-- x.extend(a new list) -/
def mExt (i : Nat) (f : SM) : SM := fun S => if isLst (gt S i) = true then (f S).bind fun r => match gt r.2 i with
  | some (.list ds) => match r.1 with
    | .list es => if ds.length + es.length ≤ sizeLine then some (.none, r.2.set i (some (.list (ds ++ es)))) else none
    | _ => none
  | _ => none
  else none
theorem se_extend (hi : X.N[i]? = some x) (hv : Vis X.env.scope x) (hd : (x == ("__debug__" : Str)) = false) (hcd : (x == ("__classdict__" : Str)) = false) (ho : i ∈ c.own) (hfl : i ∈ c.flat) (h : SN c X e wr f)
    (hbase : attributeBase (.Name x pos') "extend" X.env (eval (.Name x pos') X.env) = eval (.Name x pos') X.env)
    (hfew : ((backTo cpos (starEach [e] X.env)).all (fun x => !x.1) && (backToKw cpos (keywordEach [] X.env)).all (fun x => x.1.isSome) && decide ([e].length + ([] : List Keyword).length + (if ([] : List Keyword).isEmpty then 0 else 1) < 30)) = true)
    (hline : (apos.endLine == cpos.line) = true) (hs : starEach [e] X.env = (false, eval e X.env) :: starEach [] X.env) (hplain : (backTo cpos (starEach [] X.env)).any (·.1) = false) :
    SE c X (.Call (.Attribute (.Name x pos') "extend" apos) [e] [] cpos) (wr ++ [i]) .fz (mExt i f) :=
  peImp (pe_bm PySem.F.plainAttrs_list PySem.F.slot_list_extend PySem.F.type_list_extend mt_extend (pe_var hi hv hd hcd) (pa_cons h pa_nil hs) hbase hfew hline hs hplain) fun σ H Q ⟨fp, S, R, d, S', e1, q⟩ => by
    unfold mExt at e1
    split at e1
    · rename_i hl
      obtain ⟨es, hg⟩ := isLst_of hl
      obtain ⟨a, xs, e2, e3, e4, r0⟩ := R.ownL ho hfl hg
      refine ⟨.ref a, e2, .inl ⟨rfl, xs, .inl (.inl e4)⟩, ?_⟩
      cases hf : f S with
      | none => rw [hf] at e1; cases e1
      | some y =>
        obtain ⟨d2, S1⟩ := y
        rw [hf] at e1
        simp only [Option.bind_some] at e1
        split at e1
        · rename_i ds hg1
          split at e1
          · rename_i es2 
            split at e1
            · rename_i hz
              cases e1
              refine ⟨fp, S, R, .list es2, S1, hf, fun p ys ds2 H1 fp1 ed R1 C1 n => ?_⟩
              cases ed
              have R1' : Rel c fp1 σ S1 H1 := R1.drop
              obtain ⟨a', xs', e2', e3', e4', r0'⟩ := R1'.ownL ho hfl hg1
              have ea : a' = a := by rw [e2] at e2'; cases e2'; rfl
              subst ea
              have ri : RpAll H1 (Bd c fp1) ys es2 := n.items.less fun a z => by
                rcases z with z | z
                · exact .inl (.inl z)
                · exact .inr z
              obtain ⟨R2, C2⟩ := R1'.setOwn ho hfl e2' e3' e4' (r0'.append ri)
              exact ⟨a', p, xs', ys, rfl, rfl, e4', n.here, by rw [r0'.length, ri.length]; exact hz, q .non _ fp1 R2 (C1.trans C2) .non⟩
            · cases e1
          · cases e1
        · cases e1
    · cases e1
/-- x.pop() -/
def mPop (i : Nat) : SM := fun S => match gt S i with
  | some (.list ds) => (ds[ds.length - 1]?).map fun d => (d, S.set i (some (.list ds.dropLast)))
  | _ => none
theorem RpAll.dropLast {H : Hp} {B : Addr → Prop} {vs : List V} {ds : List D} (r : RpAll H B vs ds) : RpAll H B vs.dropLast ds.dropLast := by
  rw [List.dropLast_eq_take, List.dropLast_eq_take, r.length]
  exact r.take _
theorem se_pop (hi : X.N[i]? = some x) (hv : Vis X.env.scope x) (hd : (x == ("__debug__" : Str)) = false) (hcd : (x == ("__classdict__" : Str)) = false) (ho : i ∈ c.own) (hfl : i ∈ c.flat)
    (hbase : attributeBase (.Name x pos') "pop" X.env (eval (.Name x pos') X.env) = eval (.Name x pos') X.env) (hline : (apos.endLine == cpos.line) = true) :
    SE c X (.Call (.Attribute (.Name x pos') "pop" apos) [] [] cpos) [i] .fz (mPop i) :=
  peImp (pe_bm0 PySem.F.plainAttrs_list PySem.F.slot_list_pop PySem.F.type_list_pop mt_pop (pe_var hi hv hd hcd) hbase hline) fun σ H Q ⟨fp, S, R, d, S', e1, q⟩ => by
    unfold mPop at e1
    split at e1
    · rename_i ds hg
      obtain ⟨a, xs, e2, e3, e4, r0⟩ := R.ownL ho hfl hg
      cases hl : ds[ds.length - 1]? with
      | none => rw [hl] at e1; cases e1
      | some z =>
        rw [hl] at e1
        cases e1
        obtain ⟨v, hv', rv⟩ := r0.get hl
        obtain ⟨R2, C2⟩ := R.setOwn ho hfl e2 e3 e4 r0.dropLast
        exact ⟨.ref a, e2, .inl ⟨rfl, xs, .inl (.inl e4)⟩, a, xs, v, rfl, rfl, e4, by rw [r0.length]; exact hv', q v _ fp R2 C2 (rp_updF (.inr ⟨i, ho, by rw [e3]; simp⟩) e4 rv)⟩
    · cases e1
/-- x.pop(k) -/
def mPopAt (i : Nat) (f : SM) : SM := fun S => if isLst (gt S i) = true then (f S).bind fun r => match r.1 with
  | .int k => match gt r.2 i with
    | some (.list ds) => if -(2 ^ 63) ≤ k ∧ k < 2 ^ 63 then (seqIndex? k ds.length).bind fun j => (ds[j]?).map fun d => (d, r.2.set i (some (.list (ds.eraseIdx j)))) else none
    | _ => none
  | _ => none
  else none
theorem se_popAt (hi : X.N[i]? = some x) (hv : Vis X.env.scope x) (hd : (x == ("__debug__" : Str)) = false) (hcd : (x == ("__classdict__" : Str)) = false) (ho : i ∈ c.own) (hfl : i ∈ c.flat) (h : SE c X e wr m f)
    (hbase : attributeBase (.Name x pos') "pop" X.env (eval (.Name x pos') X.env) = eval (.Name x pos') X.env)
    (hfew : ((backTo cpos (starEach [e] X.env)).all (fun x => !x.1) && (backToKw cpos (keywordEach [] X.env)).all (fun x => x.1.isSome) && decide ([e].length + ([] : List Keyword).length + (if ([] : List Keyword).isEmpty then 0 else 1) < 30)) = true)
    (hline : (apos.endLine == cpos.line) = true) (hs : starEach [e] X.env = (false, eval e X.env) :: starEach [] X.env) (hplain : (backTo cpos (starEach [] X.env)).any (·.1) = false) :
    SE c X (.Call (.Attribute (.Name x pos') "pop" apos) [e] [] cpos) (wr ++ [i]) .fz (mPopAt i f) :=
  peImp (pe_bm PySem.F.plainAttrs_list PySem.F.slot_list_pop PySem.F.type_list_pop mt_popAt (pe_var hi hv hd hcd) (pa_cons h pa_nil hs) hbase hfew hline hs hplain) fun σ H Q ⟨fp, S, R, d, S', e1, q⟩ => by
    unfold mPopAt at e1
    split at e1
    · rename_i hl
      obtain ⟨es, hg⟩ := isLst_of hl
      obtain ⟨a, xs, e2, e3, e4, r0⟩ := R.ownL ho hfl hg
      refine ⟨.ref a, e2, .inl ⟨rfl, xs, .inl (.inl e4)⟩, ?_⟩
      cases hf : f S with
      | none => rw [hf] at e1; cases e1
      | some y =>
        obtain ⟨d2, S1⟩ := y
        rw [hf] at e1
        simp only [Option.bind_some] at e1
        split at e1
        · rename_i k
          split at e1
          · rename_i ds hg1
            split at e1
            · rename_i hz
              cases hj : seqIndex? k ds.length with
              | none => rw [hj] at e1; cases e1
              | some j =>
                rw [hj] at e1
                simp only [Option.bind_some] at e1
                cases hd2 : ds[j]? with
                | none => rw [hd2] at e1; cases e1
                | some z =>
                  rw [hd2] at e1
                  cases e1
                  refine ⟨fp, S, R, .int k, S1, hf, fun v H1 fp1 R1 C1 r1 => ?_⟩
                  obtain ⟨a', xs', e2', e3', e4', r0'⟩ := R1.ownL ho hfl hg1
                  have ea : a' = a := by rw [e2] at e2'; cases e2'; rfl
                  subst ea
                  obtain ⟨w, hw, rw'⟩ := r0'.get hd2
                  obtain ⟨R2, C2⟩ := R1.setOwn ho hfl e2' e3' e4' (r0'.eraseIdx j)
                  exact ⟨a', xs', k, j, w, rfl, by rw [r1.intV], e4', hz.1, hz.2, by rw [r0'.length]; exact hj, hw, q w _ fp1 R2 (C1.trans C2) (rp_updF (.inr ⟨i, ho, by rw [e3']; simp⟩) e4' rw')⟩
            · cases e1
          · cases e1
        · cases e1
    · cases e1
/-- x[k] = e -/
def cSetIx (i : Nat) (fv fk : SM) : CM := fun S => (fv S).bind fun r => if isLst (gt r.2 i) = true then (fk r.2).bind fun k => match k.1 with
  | .int k' => match gt k.2 i with
    | some (.list ds) => (ixN ds.length k').map fun j => (.nx, k.2.set i (some (.list (ds.set j r.1))))
    | _ => none
  | _ => none
  else none
theorem ss_setIx {k : Expr} {fk : SM} {spos : Pos} (hi : X.N[i]? = some x) (hv : Vis X.env.scope x) (hd : (x == ("__debug__" : Str)) = false) (hcd : (x == ("__classdict__" : Str)) = false) (ho : i ∈ c.own) (hfl : i ∈ c.flat) (h : SE c X e w1 .fz f) (hk : SE c X k w2 m fk)
    (ha : ∀ v, assign (.Subscript (.Name x pos') k spos) X.env v = (do
      let ov ← holding [v] (eval (.Name x pos') X.env)
      let iv ← holding [v, ov] (eval k X.env)
      standAt spos
      holding [v, ov, iv] (setItem ov iv v)
      release [v, ov, iv] []))
    (hs : swapsWithSole [.Subscript (.Name x pos') k spos] e pos.line X.env = pure false) (hw : swappedStores [.Subscript (.Name x pos') k spos] e X.env = pure none)
    (h1 : (assignEach [.Subscript (.Name x pos') k spos] X.env).map (·.2) = [assign (.Subscript (.Name x pos') k spos) X.env]) :
    SS c X (.Assign [.Subscript (.Name x pos') k spos] e pos) (w1 ++ (w2 ++ [i])) [] lo nw (cSetIx i f fk) :=
  psImp (ps_asg h (pg_sub (pe_var hi hv hd hcd) hk set_list ha) hs hw h1) fun D σ H ⟨fp, S, R, r, S', e1, q⟩ => by
    unfold cSetIx at e1
    cases hf : f S with
    | none => rw [hf] at e1; cases e1
    | some y =>
      obtain ⟨d2, S1⟩ := y
      rw [hf] at e1
      simp only [Option.bind_some] at e1
      split at e1
      · rename_i hl
        cases hf2 : fk S1 with
        | none => rw [hf2] at e1; cases e1
        | some y =>
          obtain ⟨dk, S2⟩ := y
          rw [hf2] at e1
          simp only [Option.bind_some] at e1
          split at e1
          · rename_i k'
            split at e1
            · rename_i ds hg1
              cases hj : ixN ds.length k' with
              | none => rw [hj] at e1; cases e1
              | some j =>
                rw [hj] at e1
                cases e1
                refine ⟨fp, S, R, d2, S1, hf, fun v H1 fp1 R1 C1 r1 => ?_⟩
                obtain ⟨es, hg⟩ := isLst_of hl
                obtain ⟨a, xs, e2, e3, e4, r0⟩ := R1.ownL ho hfl hg
                refine ⟨.ref a, e2, fp1, S1, R1, .int k', _, hf2, fun u H2 fp2 R2 C2 r2 => ?_⟩
                obtain ⟨a', xs', e2', e3', e4', r0'⟩ := R2.ownL ho hfl hg1
                have ea : a' = a := by rw [e2] at e2'; cases e2'; rfl
                subst ea
                have r1' := Rp.chg R1 C2 r1
                obtain ⟨R3, C3⟩ := R2.setOwn ho hfl e2' e3' e4' (r0'.set r1' j)
                exact ⟨a', xs', k', j, rfl, r2.intV, e4', by rw [r0'.length]; exact hj, q σ _ fp2 R3 (C1.trans (C2.trans C3)) rfl fun _ _ => rfl⟩
            · cases e1
          · cases e1
      · cases e1
end
end
end FV
end
section
set_option Elab.async false
set_option linter.all false
set_option maxRecDepth 100000
set_option maxHeartbeats 4000000
/-! Loops; several stores at once; new lists by operations. -/
namespace FV
open PySem PySem.Spec PyProof.Rows L2
def cFor (b : D → Sl → Option Sl) (fb : CM) : List D → CM
  | [], S => some (.nx, S)
  | d :: ds, S => (b d S).bind fun S1 => (fb S1).bind fun r => match r.1 with
    | .nx => cFor b fb ds r.2
    | .ct => cFor b fb ds r.2
    | .bk => some (.nx, r.2)
    | .rt d => some (.rt d, r.2)
def cForS (fi : SLs) (b : D → Sl → Option Sl) (fb : CM) : CM := fun S => (fi S).bind fun r => cFor b fb r.1 r.2
def cWh (t : SM) (fb : CM) : Nat → CM
  | 0, _ => none
  | n + 1, S => (t S).bind fun r => match r.1 with
    | .bool true => (fb r.2).bind fun r => match r.1 with
      | .nx => cWh t fb n r.2
      | .ct => cWh t fb n r.2
      | .bk => some (.nx, r.2)
      | .rt d => some (.rt d, r.2)
    | .bool false => some (.nx, r.2)
    | _ => none
section
variable {c : Cf} {X : Cx} {st : Stmt} {sts : List Stmt} {e a b tg iter : Expr} {pos : Pos} {wr w1 w2 w3 as a1 a2 a3 ws lo lk wi wb : List Nat} {nw : Bool} {m m' : Md} {f fa fb : SM} {fi : SLs} {g g1 g2 : CM} {fp fp' fp1 : Fp} {σ : Sg} {S S' : Sl} {H H' H1 : Hp} {i : Nat} {p : Addr} {bd : D → Sl → Option Sl}
theorem ss_for (hp : PassesOwn (model X.prog X.w) X.A X.env X.xe) (hc : X.calm = true) (hi : SI c X tg iter wi lk fi) (hg : SG c X tg ws bd) (hb : SSs c X sts wb as lo nw g) (hlk : ∀ i ∈ lk, i ∉ wb)
    (hs : ∀ x, foldedSetIterable iter X.env x = pure x) : SS c X (.For tg iter sts [] pos) (wi ++ wb) (ws ++ as) lo nw (cForS fi bd g) := psImp (ps_for hp hc hi hg hb hs) fun D σ H ⟨fp, S, R, r, S', e, q⟩ => by
  unfold cForS at e
  cases hfi : fi S with
  | none => rw [hfi] at e; cases e
  | some y =>
    obtain ⟨ds, S1⟩ := y
    rw [hfi] at e
    simp only [Option.bind_some] at e
    refine ⟨fp, S, R, ds, S1, hfi, fun J H1 fp1 G R1 C1 wk gg => ?_⟩
    refine ⟨fun i m σ' H' => m + i = ds.length ∧ ∃ fp' Sx, Rel c fp' σ' Sx H' ∧ Chg c wb fp1 H1 fp' H' ∧ σ'.length = σ.length ∧ (∀ i, i ∉ ws ++ as → σ'[i]? = σ[i]?) ∧ G c.F fp' H' ∧ cFor bd g (ds.drop i) Sx = some (r, S'),
      ⟨ds.length, by omega, fp1, S1, R1, Chg.refl.wide (by simp), rfl, fun _ _ => rfl, gg, e⟩, ?_⟩
    rintro i m σ2 H2 ⟨hm, fp2, Sx, Rx, Cx, lx, kx, gx, ex⟩
    by_cases hi : i < ds.length
    · refine .inr ⟨wk.goes i _ _ H2 hi gx, fun σ' H' => ∃ fp' Sx, Rel c fp' σ' Sx H' ∧ Chg c wb fp1 H1 fp' H' ∧ σ'.length = σ.length ∧ (∀ i, i ∉ ws ++ as → σ'[i]? = σ[i]?) ∧ G c.F fp' H' ∧ cFor bd g (ds.drop (i + 1)) Sx = some (r, S'), fun σ' H' h => ⟨m - 1, by omega, by omega, h⟩, fun x H3 hy => ?_⟩
      obtain ⟨sm, d', hd', rx⟩ := wk.yields i c.F fp2 σ2 Sx H2 x H3 hi Rx gx hy
      rw [List.getElem?_eq_getElem hi] at hd'
      cases hd'
      rw [List.drop_eq_getElem_cons hi] at ex
      unfold cFor at ex
      cases hbt : bd ds[i] Sx with
      | none => rw [hbt] at ex; cases ex
      | some S2 =>
        rw [hbt] at ex
        simp only [Option.bind_some] at ex
        have g3 : G c.F fp2 H3 := wk.stays c.F fp2 σ2 Sx H2 [] fp2 H3 Rx (Chg.ext sm) (by simp) gx
        refine ⟨fp2, Sx, ds[i], S2, Rx.ext sm, rx, hbt, fun σ3 R3 l3 k3 => ?_⟩
        cases hfb : g S2 with
        | none => rw [hfb] at ex; cases ex
        | some y =>
          obtain ⟨r1, S3⟩ := y
          rw [hfb] at ex
          simp only [Option.bind_some] at ex
          refine ⟨fp2, S2, R3, r1, S3, hfb, fun σ4 H4 fp4 R4 C4 l4 k4 => ?_⟩
          have Ct : Chg c wb fp1 H1 fp4 H4 := (Cx.trans ((Chg.ext sm).trans C4)).wide (by simp)
          have lt : σ4.length = σ.length := l4.trans (l3.trans lx)
          have kt : ∀ i, i ∉ ws ++ as → σ4[i]? = σ[i]? := fun i hi => (k4 i fun z => hi (by simp [z])).trans ((k3 i fun z => hi (by simp [z])).trans (kx i hi))
          have g4 : G c.F fp4 H4 := wk.stays c.F fp2 σ3 S2 H3 wb fp4 H4 R3 C4 hlk g3
          have Cq : Chg c (wi ++ wb) fp H fp4 H4 := C1.trans Ct
          cases r1 with
          | nx => exact ⟨fp4, S3, R4, Ct, lt, kt, g4, ex⟩
          | ct => exact ⟨fp4, S3, R4, Ct, lt, kt, g4, ex⟩
          | bk => cases ex; exact q σ4 H4 fp4 R4 Cq lt kt
          | rt d => cases ex; exact fun v rv => q σ4 H4 fp4 R4 Cq lt kt v ((rv.back (Cx.trans (Chg.ext sm))).back C1)
    · have hil : i = ds.length := by omega
      subst hil
      rw [List.drop_length] at ex
      cases ex
      exact .inl ⟨wk.stops _ _ H2 gx, q σ2 H2 fp2 Rx (C1.trans Cx) lx kx⟩
theorem memL1 {w1 w2 : List Nat} : ∀ i ∈ (w1 ++ w2) ++ w1, i ∈ w1 ++ w2 := fun i hi => by
  rcases List.mem_append.mp hi with z | z
  · exact z
  · exact List.mem_append_left _ z
theorem memL2 {w1 w2 : List Nat} : ∀ i ∈ (w1 ++ w2) ++ w2, i ∈ w1 ++ w2 := fun i hi => by
  rcases List.mem_append.mp hi with z | z
  · exact z
  · exact List.mem_append_right _ z
theorem ss_while {n : Nat} (hp : PassesOwn (model X.prog X.w) X.A X.env X.xe) (ht : ST c X e w1 f) (hb : SSs c X sts w2 as lo nw g) : SS c X (.While e sts [] pos) (w1 ++ w2) as lo nw (cWh f g n) := psImp (ps_while hp ht hb) fun D σ H ⟨fp, S, R, r, S', e, q⟩ => by
  refine ⟨fun m σ' H' => ∃ fp' Sx, Rel c fp' σ' Sx H' ∧ Chg c (w1 ++ w2) fp H fp' H' ∧ σ'.length = σ.length ∧ (∀ i, i ∉ as → σ'[i]? = σ[i]?) ∧ cWh f g m Sx = some (r, S'), ⟨n, fp, S, R, Chg.refl.wide (by simp), rfl, fun _ _ => rfl, e⟩, ?_⟩
  rintro m σ2 H2 ⟨fp2, Sx, Rx, Cx, lx, kx, ex⟩
  cases m with
  | zero => cases ex
  | succ m =>
    unfold cWh at ex
    cases hf : f Sx with
    | none => rw [hf] at ex; cases ex
    | some y =>
      obtain ⟨d, S1⟩ := y
      rw [hf] at ex
      simp only [Option.bind_some] at ex
      cases d with
      | bool bv =>
        refine ⟨fp2, Sx, Rx, bv, S1, hf, fun H3 fp3 R3 C3 => ?_⟩
        have C3' : Chg c (w1 ++ w2) fp H fp3 H3 := (Cx.trans C3).wide memL1
        cases bv with
        | true =>
          dsimp only
          rw [if_pos rfl]
          dsimp only at ex
          cases hfb : g S1 with
          | none => rw [hfb] at ex; cases ex
          | some y =>
            obtain ⟨r1, S3⟩ := y
            rw [hfb] at ex
            simp only [Option.bind_some] at ex
            refine ⟨fun σ' H' => ∃ fp' Sx, Rel c fp' σ' Sx H' ∧ Chg c (w1 ++ w2) fp H fp' H' ∧ σ'.length = σ.length ∧ (∀ i, i ∉ as → σ'[i]? = σ[i]?) ∧ cWh f g m Sx = some (r, S'), fun σ' H' h => ⟨m, by omega, h⟩, fp3, S1, R3, r1, S3, hfb, fun σ4 H4 fp4 R4 C4 l4 k4 => ?_⟩
            have Ct : Chg c (w1 ++ w2) fp H fp4 H4 := (C3'.trans C4).wide memL2
            have lt : σ4.length = σ.length := l4.trans lx
            have kt : ∀ i, i ∉ as → σ4[i]? = σ[i]? := fun i hi => (k4 i hi).trans (kx i hi)
            cases r1 with
            | nx => exact ⟨fp4, S3, R4, Ct, lt, kt, ex⟩
            | ct => exact ⟨fp4, S3, R4, Ct, lt, kt, ex⟩
            | bk => cases ex; exact q σ4 H4 fp4 R4 Ct lt kt
            | rt d => cases ex; exact fun v rv => q σ4 H4 fp4 R4 Ct lt kt v (rv.back C3')
        | false =>
          dsimp only
          rw [if_neg Bool.false_ne_true]
          cases ex
          exact q σ2 H3 fp3 R3 C3' lx kx
      | _ => cases ex
/-! ### new lists by operations -/
def OpNw (r : List V → Hp → VK → Prop) (c : Cf) (ms : List Md) (g : List D → Option D) : Prop :=
  ∀ (fp : Fp) (σ : Sg) (S : Sl) (H : Hp) (vs : List V) (ds : List D) (z : D) (Q : VK), Rel c fp σ S H → RpMs c fp ms H vs ds → g ds = some z → (∀ p xs es, z = .list es → H p = none → RpAll H (Bd c fp) xs es → Q (.ref p) (upd H p (.lst xs))) → r vs H Q
variable {es : List Expr} {ms : List Md} {fl : SL} {x : Str} {T id : String}
theorem t_argsN {r : List V → Hp → VK → Prop} {gg : List D → Option D} (ho : OpNw r c ms gg) {Q : VK} (h : tN c wr (mL gg fl) σ H Q) : tA c wr ms fl σ H fun vs H1 => r vs H1 Q := by
  obtain ⟨fp, S, R, z, S', e, q⟩ := h
  obtain ⟨ds, e1, e2⟩ := mL_inv e
  refine ⟨fp, S, R, ds, S', e1, fun vs H' fp' R' C rv => ho fp' σ S' H' vs ds z Q R' rv e2 fun p xs es ez hp r2 => ?_⟩
  obtain ⟨R2, C2, n⟩ := new_make (H := H) R' C hp r2
  exact q p xs es _ fp' ez R2 C2 n
theorem sn_callB {r : List V → Hp → VK → Prop} {gg : List D → Option D} (hc : CallR X (.builtin id) r) (ho : OpNw r c ms gg) (hg : Gl X x) (hm : X.mg x = none) (hv : bootBuiltins x = some (.builtin id)) (hn : x ≠ "__name__") (hd : (x == ("__debug__" : Str)) = false)
    (hs : starEach (e :: es) X.env = (false, eval e X.env) :: starEach es X.env) (hpl : (backTo pos (starEach es X.env)).any (·.1) = false) {p : Pos} (ha : SA c X (e :: es) wr ms fl) : SN c X (.Call (.Name x p) (e :: es) [] pos) wr (mL gg fl) :=
  peImp (pe_callB hc hg hm hv ha hn hd hs hpl) fun _ _ _ h => t_argsN ho h
theorem sn_callTy {r : List V → Hp → VK → Prop} {gg : List D → Option D} (hc : CallR X (.type T) r) (ho : OpNw r c ms gg) (hg : Gl X x) (hm : X.mg x = none) (hv : bootBuiltins x = some (.type T)) (hn : x ≠ "__name__") (hd : (x == ("__debug__" : Str)) = false)
    (hs : starEach (e :: es) X.env = (false, eval e X.env) :: starEach es X.env) (hpl : (backTo pos (starEach es X.env)).any (·.1) = false) {p : Pos} (ha : SA c X (e :: es) wr ms fl) : SN c X (.Call (.Name x p) (e :: es) [] pos) wr (mL gg fl) :=
  peImp (pe_callTy hc hg hm hv ha hn hd hs hpl) fun _ _ _ h => t_argsN ho h
theorem sn_lst (ha : SA c X es wr ms fl) (hz : ms.all (· == .fz) = true) : SN c X (.List es pos) wr (mL gLst fl) := peImp (pe_lst ha) fun σ H Q h => by
  refine t_argsN (r := fun xs H1 Q => xs.length ≤ sizeLine ∧ ∀ p, H1 p = none → Q (.ref p) (upd H1 p (.lst xs))) ?_ h
  intro fp σ S H vs ds z Q R rv e q
  unfold gLst at e
  split at e
  · rename_i hl
    cases e
    exact ⟨by rw [rv.length.1]; exact hl, fun p hp => q p vs ds rfl hp (rv.fz (all_fz hz))⟩
  · cases e
theorem itB_all {H : Hp} {m : Md} (h : m ≠ .bo) {xs : List V} {ds : List D} (r : RpAll H (ItB c fp m) xs ds) : RpAll H (Bd c fp) xs ds := by
  cases m with
  | bo => exact absurd rfl h
  | _ => exact r
theorem onw_list (hm : m ≠ .bo) : OpNw (fun xs H Q => ∃ p ys, xs = [.ref p] ∧ (SqL X.K H p ys ∨ SqT X.K H p ys) ∧ ∀ l, H l = none → Q (.ref l) (upd H l (.lst ys))) c [m] (FV.g1 gList) := fun fp σ S H vs ds z Q R rv e q => by
  obtain ⟨v, d, rfl, rfl, r⟩ := rv.one
  simp only [FV.g1, gList] at e
  cases hi : itemsOf d with
  | none => rw [hi] at e; cases e
  | some ds =>
    rw [hi] at e
    cases e
    obtain ⟨a, xs, rfl, h, r2⟩ := r.items (K := X.K) hi
    exact ⟨a, xs, rfl, h, fun l hl => q l xs ds rfl hl (itB_all hm r2)⟩
theorem onw_sorted (hm : m ≠ .bo) : OpNw (rSortA X.K X.A) c [m] (FV.g1 gSorted) := fun fp σ S H vs ds z Q R rv e q => by
  obtain ⟨v, d, rfl, rfl, r⟩ := rv.one
  cases d with
  | list ds =>
    simp only [FV.g1, gSorted] at e
    obtain ⟨a, xs, rfl, h, r2⟩ := r.list (K := X.K)
    refine ⟨a, xs, ds, rfl, h, r2.fal, ?_⟩
    split at e
    · rename_i hl
      cases e
      exact .inl ⟨hl, fun p hp => q p _ _ rfl hp (itB_all hm r2)⟩
    · split at e
      · rename_i hk
        cases e
        refine .inr ⟨hk, fun zs p hz hp => q p _ _ rfl hp (itB_all hm ?_)⟩
        have hs : zs.map (·.2) = sortD ds := by
          rw [hz]
          unfold sortD
          have := PySem.W.sort_maps (r := PySem.W.dataLe false (fun p : V × D => p.2)) (s := PySem.W.dataLe false (id : D → D)) (fun p : V × D => p.2) (l := xs.zip ds) (fun a _ b _ => rfl)
          rw [this, zip_snd xs ds r2.length]
        rw [← hs]
        refine rpAll_of_pairs fun p hp => ?_
        rw [hz] at hp
        exact pairs_of_rpAll r2 p ((List.mergeSort_perm _ _).mem_iff.mp hp)
      · cases e
  | _ => cases e
/-- a new list times an int -/
def gRep : D → D → Option D
  | .list ds, .int k => if -(2 ^ 63) ≤ k ∧ k < 2 ^ 63 ∧ ds.length * k.toNat ≤ sizeLine then some (.list (List.replicate k.toNat ds).flatten) else none
  | _, _ => none
theorem sn_rep (ha : SN c X a w1 fa) (hb : ∀ F, SE (c.wF F) X b w2 m fb) : SN c X (.BinOp a .Mult b pos) (w1 ++ w2) (m2 gRep fa fb) :=
  peImp (pe_op op_rep ha (tb := fun σ H Q => ∃ F, tE (c.wF F) w2 m fb σ H Q) ⟨fun pins s σ H Q I ⟨F, q⟩ => (hb F).run pins s σ H Q I q⟩) fun σ H Q ⟨fp, S, R, z, S', e, q⟩ => by
    obtain ⟨x, S1, y, e1, e2, e3⟩ := m2_inv e
    refine ⟨fp, S, R, x, S1, e1, fun p xs ds H1 fp1 ed R1 C1 n => ⟨addF c.F p, fp1, S1, R1, y, S', e2, fun w H2 fp2 R2 C2 rw' => ?_⟩⟩
    subst ed
    cases y with
    | int k =>
      simp only [gRep] at e3
      split at e3
      · rename_i h
        cases e3
        have C2' := C2.unF
        have hp : H2 p = some (.lst xs) := C2.keep p _ n.here fun j hj _ z => R1.nf j hj p z (.inr rfl)
        have r2 := RpAll.chg R1 C2 n.items
        refine ⟨p, k, xs, rfl, rw'.intV, hp, h.1, h.2.1, by rw [n.items.length]; exact h.2.2, fun l hl => ?_⟩
        have R3 : Rel c fp2 σ S' H2 := R2.drop
        obtain ⟨R4, C4, n4⟩ := new_make (H := H) R3 (C1.trans C2') hl (RpAll.less (r2.rep k.toNat) fun a z => by
          rcases z with z | z
          · exact .inl (.inl z)
          · exact .inr z)
        exact q l _ _ _ fp2 rfl R4 C4 n4
      · cases e3
    | _ => cases e3
/-- lists put together -/
def gAddL : D → D → Option D
  | .list x, .list y => if x.length + y.length ≤ sizeLine then some (.list (x ++ y)) else none
  | _, _ => none
theorem sn_add {ma mb : Md} (hma : ma ≠ .bo) (hmb : mb ≠ .bo) (hm : ma = .fz ∨ w2 = []) (ha : SE c X a w1 ma fa) (hb : SE c X b w2 mb fb) : SN c X (.BinOp a .Add b pos) (w1 ++ w2) (m2 gAddL fa fb) :=
  peImp (pe_op (op_addA (X := X)) ha hb) fun σ H Q ⟨fp, S, R, z, S', e, q⟩ => by
    obtain ⟨x, S1, y, e1, e2, e3⟩ := m2_inv e
    refine ⟨fp, S, R, x, S1, e1, fun v H1 fp1 R1 C1 rv => ⟨fp1, S1, R1, y, S', e2, fun w H2 fp2 R2 C2 rw' => ?_⟩⟩
    have rv' := rv.chg R1 C2 hm
    cases x with
    | list ds =>
      cases y with
      | list es =>
        simp only [gAddL] at e3
        split at e3
        · rename_i h
          cases e3
          obtain ⟨a, xs, rfl, ha, r1⟩ := rv'.listR
          obtain ⟨b, ys, rfl, hb, r2⟩ := rw'.listR
          have l1 := r1.length
          have l2 := r2.length
          refine .inr (.inr ⟨a, b, xs, ys, rfl, rfl, ha, hb, by omega, fun p hp => ?_⟩)
          obtain ⟨R4, C4, n4⟩ := new_make (H := H) R2 (C1.trans C2) hp ((itB_all hma r1).append (itB_all hmb r2))
          exact q p _ _ _ fp2 rfl R4 C4 n4
        · cases e3
      | _ => cases e3
    | _ => cases e3
/-- one or the other -/
theorem sn_if {w3 : List Nat} {fc : SM} {t : Expr} (ht : ST c X t w1 f) (ha : SN c X a w2 fa) (hb : SN c X b w3 fb) : SN c X (.IfExp t a b pos) (w1 ++ (w2 ++ w3)) (mIf f fa fb) :=
  peImp (pe_ifExp ht ha hb) fun σ H Q ⟨fp, S, R, z, S', e, q⟩ => by
    rcases mIf_inv e with ⟨S1, e1, e2⟩ | ⟨S1, e1, e2⟩
    · exact ⟨fp, S, R, true, S1, e1, fun H1 fp1 R1 C1 => by
        try dsimp only
        rw [if_pos rfl]
        exact ⟨fp1, S1, R1, z, S', e2, fun p xs ds H' fp' ed R' C n => q p xs ds H' fp' ed R' ((C1.trans C).wide (by intro i hi; rcases List.mem_append.mp hi with z | z <;> simp [z])) { n with fresh := C1.fresh n.fresh }⟩⟩
    · exact ⟨fp, S, R, false, S1, e1, fun H1 fp1 R1 C1 => by
        try dsimp only
        rw [if_neg Bool.false_ne_true]
        exact ⟨fp1, S1, R1, z, S', e2, fun p xs ds H' fp' ed R' C n => q p xs ds H' fp' ed R' ((C1.trans C).wide (by intro i hi; rcases List.mem_append.mp hi with z | z <;> simp [z])) { n with fresh := C1.fresh n.fresh }⟩⟩
end
/-! ### several names at once -/
def addFs (F : Addr → Prop) (ps : List Addr) : Addr → Prop := fun a => F a ∨ a ∈ ps
theorem addFs_nil {F : Addr → Prop} : addFs F [] = F := funext fun a => propext (Iff.intro (fun z => Or.elim z id (fun z => nomatch z)) Or.inl)
theorem addFs_cons {F : Addr → Prop} {p : Addr} {ps : List Addr} : addFs F (p :: ps) = addF (addFs F ps) p := funext fun a => propext ⟨fun z => by
  rcases z with z | z
  · exact .inl (.inl z)
  · rcases List.mem_cons.mp z with z | z
    · exact .inr z
    · exact .inl (.inr z), fun z => by
  rcases z with (z | z) | z
  · exact .inl z
  · exact .inr (List.mem_cons_of_mem _ z)
  · exact .inr (by rw [z]; simp)⟩
theorem addFs_cons' {F : Addr → Prop} {p : Addr} {ps : List Addr} : addFs F (p :: ps) = addFs (addF F p) ps := funext fun a => propext ⟨fun z => by
  rcases z with z | z
  · exact .inl (.inl z)
  · rcases List.mem_cons.mp z with z | z
    · exact .inl (.inr z)
    · exact .inr z, fun z => by
  rcases z with (z | z) | z
  · exact .inl z
  · exact .inr (by rw [z]; simp)
  · exact .inr (List.mem_cons_of_mem _ z)⟩
/-- the values, the new lists among them at ps; F' all that may not be touched -/
inductive ANs (c : Cf) (F' : Addr → Prop) (fp : Fp) (H0 H : Hp) : List Bool → List V → List D → List Addr → Prop
  | nil : ANs c F' fp H0 H [] [] [] []
  | fz {ks : List Bool} {vs : List V} {ds : List D} {ps : List Addr} {v : V} {d : D} : Rp H (Bd (c.wF F') fp) v d → ANs c F' fp H0 H ks vs ds ps → ANs c F' fp H0 H (false :: ks) (v :: vs) (d :: ds) ps
  | nw {ks : List Bool} {vs : List V} {ds es : List D} {ps : List Addr} {p : Addr} {xs : List V} : H p = some (.lst xs) → H0 p = none → RpAll H (Bd (c.wF F') fp) xs es → ANs c F' fp H0 H ks vs ds ps → ANs c F' fp H0 H (true :: ks) (.ref p :: vs) (.list es :: ds) (p :: ps)
theorem ANs.less {c c' : Cf} {F1 F2 : Addr → Prop} {fp1 fp2 : Fp} {H0 H0' H : Hp} (h : ∀ a, Bd (c'.wF F2) fp2 a → Bd (c.wF F1) fp1 a) (h0 : ∀ a, H0 a = none → H0' a = none) : ∀ {ks vs ds ps}, ANs c F1 fp1 H0 H ks vs ds ps → ANs c' F2 fp2 H0' H ks vs ds ps
  | _, _, _, _, .nil => .nil
  | _, _, _, _, .fz r t => .fz (r.less h) (ANs.less h h0 t)
  | _, _, _, _, .nw e1 e2 r t => .nw e1 (h0 _ e2) (r.less h) (ANs.less h h0 t)
theorem ANs.fresh {c : Cf} {F1 : Addr → Prop} {fp1 : Fp} {H0 H : Hp} : ∀ {ks vs ds ps}, ANs c F1 fp1 H0 H ks vs ds ps → ∀ p ∈ ps, H0 p = none
  | _, _, _, _, .nil => fun _ hq => nomatch hq
  | _, _, _, _, .fz r t => ANs.fresh t
  | _, _, _, _, .nw e1 e2 r t => fun q hq => by
    rcases List.mem_cons.mp hq with z | z
    · rw [z]; exact e2
    · exact ANs.fresh t q z
def tAN (c : Cf) (wr : List Nat) (ks : List Bool) (f : SL) : TA := fun σ H Q => ∃ fp S, Rel c fp σ S H ∧ ∃ ds S', f S = some (ds, S') ∧ ∀ vs ps H' fp', Rel (c.wF (addFs c.F ps)) fp' σ S' H' → Chg c wr fp H fp' H' → (∀ p ∈ ps, ¬ Bd c fp' p) → ps.Nodup → ANs c (addFs c.F ps) fp' H H' ks vs ds ps → Q vs H'
abbrev SAN (c : Cf) (X : Cx) (es : List Expr) (wr : List Nat) (ks : List Bool) (f : SL) : Prop := PA X es (tAN c wr ks f)
section
variable {c : Cf} {X : Cx} {e : Expr} {es : List Expr} {pos : Pos} {wr w1 w2 lo : List Nat} {nw : Bool} {ks : List Bool} {f : SM} {fs : SL} {fp fp' : Fp} {σ : Sg} {S S' : Sl} {H H0 H' : Hp}
theorem san_nil : SAN c X [] [] [] mNil := paImp pa_nil fun σ H Q ⟨fp, S, R, ds, S', e, q⟩ => by
  cases e
  refine q [] [] H fp ?_ .refl (fun p hp => nomatch hp) .nil .nil
  rw [addFs_nil]
  exact R
theorem san_fz (h : SE c X e w1 .fz f) (ht : SAN c X es w2 ks fs) (hs : starEach (e :: es) X.env = (false, eval e X.env) :: starEach es X.env) : SAN c X (e :: es) (w1 ++ w2) (false :: ks) (mCons f fs) := paImp (pa_cons h ht hs) fun σ H Q ⟨fp, S, R, ds, S', e, q⟩ => by
  obtain ⟨x, S1, y, e1, e2, rfl⟩ := mCons_inv e
  refine ⟨fp, S, R, x, S1, e1, fun v H1 fp1 R1 C1 r1 => ⟨fp1, S1, R1, y, S', e2, fun vs ps H2 fp2 R2 C2 hp hn an => ?_⟩⟩
  refine q (v :: vs) ps H2 fp2 R2 (C1.trans C2) hp hn (.fz ?_ (an.less (fun a z => z) fun a z => C1.fresh z))
  have fr := an.fresh
  exact r1.mono (fun a xs e n => ⟨C2.keepN e n, fun z => by
    have nb : ¬ Bd c fp2 a := C2.bd n (by rw [e]; simp)
    rcases z with (z | z) | z
    · exact nb (.inl z)
    · rw [fr a z] at e; cases e
    · exact nb (.inr z)⟩) (fun a o u e => C2.keepN e (Bd.nofrz R1 e)) fun a xs e => C2.keepN e (Bd.notup R1 e)
theorem san_nw (h : SN c X e w1 f) (ht : ∀ F, SAN (c.wF F) X es w2 ks fs) (hs : starEach (e :: es) X.env = (false, eval e X.env) :: starEach es X.env) : SAN c X (e :: es) (w1 ++ w2) (true :: ks) (mCons f fs) :=
  paImp (pa_cons h (t := fun σ H Q => ∃ F, tAN (c.wF F) w2 ks fs σ H Q) ⟨fun p pins s σ H Q I ⟨F, q⟩ => (ht F).run p pins s σ H Q I q⟩ hs) fun σ H Q ⟨fp, S, R, ds, S', e, q⟩ => by
    obtain ⟨x, S1, y, e1, e2, rfl⟩ := mCons_inv e
    refine ⟨fp, S, R, x, S1, e1, fun p xs es H1 fp1 ed R1 C1 n => ⟨addF c.F p, fp1, S1, R1, y, S', e2, fun vs ps H2 fp2 R2 C2 hp hn an => ?_⟩⟩
    subst ed
    have fr := an.fresh
    have hpp : H2 p = some (.lst xs) := C2.keep p _ n.here fun j hj _ z => R1.nf j hj p z (.inr rfl)
    have hpn : p ∉ ps := fun z => by have := fr p z; rw [n.here] at this; cases this
    have C2' : Chg c w2 fp1 H1 fp2 H2 := C2.unF
    have R2' : Rel (c.wF (addFs c.F (p :: ps))) fp2 σ S' H2 := by rw [addFs_cons']; exact R2
    refine q (.ref p :: vs) (p :: ps) H2 fp2 R2' (C1.trans C2') (fun b hb => ?_) (List.nodup_cons.mpr ⟨hpn, hn⟩) (.nw hpp n.fresh ?_ ?_)
    · rcases List.mem_cons.mp hb with z | z
      · rw [z]; exact C2'.bd n.out (by rw [n.here]; simp)
      · exact fun w => hp b z (by
          rcases w with w | w
          · exact .inl (.inl w)
          · exact .inr w)
    · rw [addFs_cons']
      exact n.items.mono (fun a xs e n => ⟨C2.keepN e n, fun z => by
        have nb := C2.bd n (by rw [e]; simp)
        rcases z with (z | z) | z
        · exact nb (.inl z)
        · rw [fr a z] at e; cases e
        · exact nb (.inr z)⟩) (fun a o u e => C2.keepN e (Bd.nofrz R1 e)) fun a xs e => C2.keepN e (Bd.notup R1 e)
    · rw [addFs_cons']
      exact ANs.less (c := c.wF (addF c.F p)) (c' := c) (fun a z => z) (fun a z => C1.fresh z) an
def setV : Sg → List Nat → List V → Sg
  | σ, i :: is, v :: vs => setV (σ.set i (some v)) is vs
  | σ, _, _ => σ
def setD : Sl → List Nat → List D → Sl
  | S, i :: is, d :: ds => setD (S.set i (some d)) is ds
  | S, _, _ => S
def kOk (c : Cf) : List Bool → List Nat → Prop
  | k :: ks, i :: is => (if k = true then i ∈ c.own else i ∉ c.own) ∧ kOk c ks is
  | [], [] => True
  | _, _ => False
theorem setV_out {j : Nat} : ∀ {is : List Nat} {vs : List V} {σ : Sg}, j ∉ is → (setV σ is vs)[j]? = σ[j]?
  | [], [], _, _ => rfl
  | [], _ :: _, _, _ => rfl
  | _ :: _, [], _, _ => rfl
  | i :: is, v :: vs, σ, h => by
    show (setV (σ.set i (some v)) is vs)[j]? = _
    rw [setV_out (fun z => h (List.mem_cons_of_mem _ z)), List.getElem?_set_ne (fun z => h (by simp [z]))]
theorem setV_len : ∀ {is : List Nat} {vs : List V} {σ : Sg}, (setV σ is vs).length = σ.length
  | [], [], _ => rfl
  | [], _ :: _, _ => rfl
  | _ :: _, [], _ => rfl
  | i :: is, v :: vs, σ => by
    show (setV (σ.set i (some v)) is vs).length = _
    rw [setV_len, List.length_set]
theorem par_put : ∀ {ks : List Bool} {is : List Nat} {vs : List V} {ds : List D} {ps : List Addr} {fp : Fp} {σ : Sg} {S : Sl} {wr : List Nat}, kOk c ks is → Rel (c.wF (addFs c.F ps)) fp σ S H → (∀ p ∈ ps, ¬ Bd c fp p) → ps.Nodup → ANs c (addFs c.F ps) fp H0 H ks vs ds ps → Chg c wr fp' H0 fp H →
    ∃ fp2, Rel c fp2 (setV σ is vs) (setD S is ds) H ∧ Chg c (wr ++ is) fp' H0 fp2 H
  | [], [], _, _, _, fp, σ, S, wr, _, R, hp, hn, an, C => by
    cases an
    exact ⟨fp, by rw [addFs_nil] at R; exact R, C.wide (by simp)⟩
  | false :: ks, i :: is, _, _, _, fp, σ, S, wr, k, R, hp, hn, an, C => by
    cases an
    rename_i r t
    have ho : i ∉ c.own := by
      have := k.1
      rw [if_neg Bool.false_ne_true] at this
      exact this
    obtain ⟨fp2, R2, C2⟩ := par_put k.2 (R.put ho r) hp hn t C
    exact ⟨fp2, R2, C2.wide (by intro j hj; rcases List.mem_append.mp hj with z | z <;> simp [z])⟩
  | true :: ks, i :: is, vs0, ds0, ps0, fp, σ, S, wr, k, R, hp, hn, an, C => by
    obtain ⟨vs, ds, es, ps, p, xs, rfl, rfl, rfl, e1, e2, r, t⟩ : ∃ vs ds es ps p xs, vs0 = V.ref p :: vs ∧ ds0 = PyData.list es :: ds ∧ ps0 = p :: ps ∧ H p = some (.lst xs) ∧ H0 p = none ∧ RpAll H (Bd (c.wF (addFs c.F ps0)) fp) xs es ∧ ANs c (addFs c.F ps0) fp H0 H ks vs ds ps := by
      cases an with
      | nw e1 e2 r t => exact ⟨_, _, _, _, _, _, rfl, rfl, rfl, e1, e2, r, t⟩
    have ho : i ∈ c.own := by
      have := k.1
      rw [if_pos rfl] at this
      exact this
    obtain ⟨n1, n2⟩ := List.nodup_cons.mp hn
    have hout : ¬ Bd (c.wF (addFs c.F ps)) fp p := fun z => by
      rcases z with (z | z) | z
      · exact hp p (by simp) (.inl z)
      · exact n1 z
      · exact hp p (by simp) (.inr z)
    rw [addFs_cons] at R r t
    have R1 := Rel.ownPut (c := c.wF (addFs c.F ps)) R ho e1 hout r
    have less : ∀ a, Bd (c.wF (addFs c.F ps)) (fpS fp i [p]) a → Bd (c.wF (addF (addFs c.F ps) p)) fp a := fun a z => by
      rcases z with z | ⟨k, hk, z⟩
      · exact .inl (.inl z)
      · unfold fpS at z
        by_cases e : k = i
        · rw [if_pos e] at z
          exact .inl (.inr (by simpa using z))
        · rw [if_neg e] at z
          exact .inr ⟨k, hk, z⟩
    obtain ⟨fp2, R2, C2⟩ := par_put k.2 R1 (fun b hb z => by
      rcases z with z | ⟨j, hj, z⟩
      · exact hp b (by simp [hb]) (.inl z)
      · unfold fpS at z
        by_cases e : j = i
        · rw [if_pos e] at z
          have z' : b = p := by simpa using z
          exact n1 (by rw [← z']; exact hb)
        · rw [if_neg e] at z
          exact hp b (by simp [hb]) (.inr ⟨j, hj, z⟩)) n2 (t.less less fun a z => z) (C.ownPut (i := i) e2)
    exact ⟨fp2, R2, C2.wide (by intro j hj; simp at hj ⊢; rcases hj with z | z | z <;> simp [z])⟩
def cPar (is : List Nat) (f : SL) : CM := fun S => (f S).map fun r => (.nx, setD r.2 is r.1)
theorem par_tr {is : List Nat} {D : Ends} (k : kOk c ks is) (h : tSt c (wr ++ is) is lo nw (cPar is fs) D σ H) : tAN c wr ks fs σ H fun vs H1 => D.nx (setV σ is vs) H1 := by
  obtain ⟨fp, S, R, r, S', e, q⟩ := h
  unfold cPar at e
  cases hf : fs S with
  | none => rw [hf] at e; cases e
  | some x =>
    obtain ⟨ds, S1⟩ := x
    rw [hf] at e
    cases e
    refine ⟨fp, S, R, ds, S1, hf, fun vs ps H' fp' R' C hp hn an => ?_⟩
    obtain ⟨fp2, R2, C2⟩ := par_put k R' hp hn an C
    exact q _ H' fp2 R2 C2 setV_len fun j hj => setV_out hj
theorem ANs.len {F1 : Addr → Prop} {fp1 : Fp} : ∀ {ks vs ds ps}, ANs c F1 fp1 H0 H ks vs ds ps → vs.length = ks.length
  | _, _, _, _, .nil => rfl
  | _, _, _, _, .fz r t => congrArg Nat.succ (ANs.len t)
  | _, _, _, _, .nw e1 e2 r t => congrArg Nat.succ (ANs.len t)
theorem an_len {Q : List V → Hp → Prop} (h : tAN c wr ks fs σ H Q) : tAN c wr ks fs σ H fun vs H1 => vs.length = ks.length ∧ Q vs H1 := by
  obtain ⟨fp, S, R, ds, S', e, q⟩ := h
  exact ⟨fp, S, R, ds, S', e, fun vs ps H' fp' R' C hp hn an => ⟨an.len, q vs ps H' fp' R' C hp hn an⟩⟩
theorem an_imp {Q Q' : List V → Hp → Prop} (h : tAN c wr ks fs σ H Q) (i : ∀ vs H, Q vs H → Q' vs H) : tAN c wr ks fs σ H Q' := by
  obtain ⟨fp, S, R, ds, S', e, q⟩ := h
  exact ⟨fp, S, R, ds, S', e, fun vs ps H' fp' R' C hp hn an => i _ _ (q vs ps H' fp' R' C hp hn an)⟩
theorem ss_par2 {i j : Nat} {x y : Str} {a b : Expr} {px py pt : Pos} {kt k2 pt2} {k1 k3 : Bool} (hc : X.calm = true) (hN : X.N.Nodup) (hi : X.N[i]? = some x) (hj : X.N[j]? = some y) (hij : i ≠ j)
    (hx : X.env.scope.names.lookup x = some .local) (hy : X.env.scope.names.lookup y = some .local) (ha : SAN c X [a, b] wr [k1, k3] fs) (k : kOk c [k1, k3] [i, j])
    (hw : swappedStores [.Tuple [.Name x px, .Name y py] kt pt] (.Tuple [a, b] k2 pt2) X.env = pure (some [x, y]))
    (hs : swapsWithSole [.Tuple [.Name x px, .Name y py] kt pt] (.Tuple [a, b] k2 pt2) pos.line X.env = pure false) :
    SS c X (.Assign [.Tuple [.Name x px, .Name y py] kt pt] (.Tuple [a, b] k2 pt2) pos) (wr ++ [i, j]) [i, j] lo nw (cPar [i, j] fs) :=
  psImp (ps_par hc hN hi hj hij hx hy ha hw hs) fun D σ H h => an_imp (an_len (par_tr k h)) fun vs H1 ⟨l, q⟩ => by
    match vs, l with
    | [v, w], _ => exact ⟨v, w, rfl, q⟩
theorem ss_par3 {i j l : Nat} {x y z : Str} {a b d : Expr} {px py pz pt : Pos} {kt k2 pt2} {k1 k3 k4 : Bool} (hc : X.calm = true) (hN : X.N.Nodup) (hi : X.N[i]? = some x) (hj : X.N[j]? = some y) (hl : X.N[l]? = some z) (hij : i ≠ j) (hil : i ≠ l) (hjl : j ≠ l)
    (hx : X.env.scope.names.lookup x = some .local) (hy : X.env.scope.names.lookup y = some .local) (hz : X.env.scope.names.lookup z = some .local) (ha : SAN c X [a, b, d] wr [k1, k3, k4] fs) (k : kOk c [k1, k3, k4] [i, j, l])
    (hw : swappedStores [.Tuple [.Name x px, .Name y py, .Name z pz] kt pt] (.Tuple [a, b, d] k2 pt2) X.env = pure (some [x, y, z]))
    (hs : swapsWithSole [.Tuple [.Name x px, .Name y py, .Name z pz] kt pt] (.Tuple [a, b, d] k2 pt2) pos.line X.env = pure false) :
    SS c X (.Assign [.Tuple [.Name x px, .Name y py, .Name z pz] kt pt] (.Tuple [a, b, d] k2 pt2) pos) (wr ++ [i, j, l]) [i, j, l] lo nw (cPar [i, j, l] fs) :=
  psImp (ps_par3 hc hN hi hj hl hij hil hjl hx hy hz ha hw hs) fun D σ H h => an_imp (an_len (par_tr k h)) fun vs H1 ⟨l, q⟩ => by
    match vs, l with
    | [v, w, u], _ => exact ⟨v, w, u, rfl, q⟩
end
end FV
end
section
set_option Elab.async false
set_option linter.all false
set_option maxRecDepth 100000
set_option maxHeartbeats 4000000
/-! Defs and calls, over trees. A def's promise also knows that no guard stands (repr asks it). -/
namespace FV
open PySem PySem.Spec PyProof.Rows L2
abbrev SpG := List V → Hp → VK → Prop
abbrev cx0 : CXT := fun _ _ _ _ _ _ => False
abbrev xk0 : XK := fun _ _ _ => False
structure FnG (P : Program) (w : World) (K : PySem.W.Frag) (mg : Str → Option Value) (base : Heap) (k : Nat) (f : Addr) (fd : FuncData) (ps : List Str) (sp : SpG) : Prop where
  len : ∀ vs H Q, sp vs H Q → vs.length = ps.length
  run : ∀ (A : Around) (outer : List Env) (s : Shared) (H : Hp) (args : Args) (us : List Value) (vs : List V) (Q : VK), Room k A → A.guards = some [] → Env0 P w K mg base A outer s H → BindsTo s fd args (ps.zip us) → Vals vs us → sp vs H Q →
    codeAny (model P w) A (.call (.ref f) args) (CR cx0 outer P w H s Q xk0) s
theorem FnG.mono {P : Program} {w : World} {K : PySem.W.Frag} {mg : Str → Option Value} {base : Heap} {j k : Nat} {f : Addr} {fd : FuncData} {ps : List Str} {sp : SpG} (G : FnG P w K mg base j f fd ps sp) (h : j ≤ k) : FnG P w K mg base k f fd ps sp :=
  ⟨G.len, fun A outer s H args us vs Q hr hg => G.run A outer s H args us vs Q (hr.mono h) hg⟩
theorem FnG.imp {P : Program} {w : World} {K : PySem.W.Frag} {mg : Str → Option Value} {base : Heap} {k : Nat} {f : Addr} {fd : FuncData} {ps : List Str} {sp sp' : SpG} (G : FnG P w K mg base k f fd ps sp) (h : ∀ vs H Q, sp' vs H Q → sp vs H Q) : FnG P w K mg base k f fd ps sp' :=
  ⟨fun vs H Q q => G.len vs H Q (h _ _ _ q), fun A outer s H args us vs Q hr hg he hb hv hs => G.run A outer s H args us vs Q hr hg he hb hv (h _ _ _ hs)⟩
/-- the context of a body that lets nothing out -/
abbrev cxG (P : Program) (w : World) (K : PySem.W.Frag) (mg : Str → Option Value) (base : Heap) (N : List Str) (qual : Str) (scope : Scope) (f : Addr) (cd : Value) (A : Around) (outer : List Env) (s : Shared) (H : Hp) : Cx := (cxOf cx0 P w K mg base N qual scope f cd A outer s H xk0).nox
theorem fnG_of {P : Program} {w : World} {K : PySem.W.Frag} {mg : Str → Option Value} {base : Heap} {k : Nat} {f : Addr} {name qual : Str} {params : Arguments} {body : List Stmt} {scope : Scope} {dvs : List V} {kws : List (Str × V)} {fd : FuncData} {N ps : List Str} {sp : SpG}
    (F : FunD K name qual params body scope dvs kws f fd) (S : FnScope N ps scope) (len : ∀ vs H Q, sp vs H Q → vs.length = ps.length)
    (hbody : ∀ (cd : Value) (A : Around) (outer : List Env) (s : Shared) (H : Hp) (vs : List V) (Q : VK), Room k (A.deeper (envOfC qual scope s.heap.objs.size f cd)) → A.guards = some [] → sp vs H Q →
      ∃ t, PSs (cxG P w K mg base N qual scope f cd A outer s H) body t ∧ t { nx := fun _ H' => Q .non H', rt := Q } (start N vs) H) : FnG P w K mg base (k + 1) f fd ps sp := by
  obtain ⟨oc, od, dV, kV, doc, pm, an, cd, ct, osl, rfl, lk, hcd, _, _⟩ := F.ex
  refine ⟨len, fun A outer s H args us vs Q hr hgd e0 hb rv hsp => ?_⟩
  have ll := len _ _ _ hsp
  have KX : K.In s.heap := e0.mod.kin.keeps fun b o z => (e0.bs b o z).1
  have nl : s.heap.NoLimit := e0.mod.nolimit.keeps fun b o z => (e0.bs b o z).1
  have kinds : ∀ y ∈ ps.zip us, scope.names.lookup y.1 = some .local ∨ (scope.names.lookup y.1 = some .cell ∧ ((cellsFrom (s.heap.objs.size + 1) scope.names []).lookup y.1).isSome = true) := by
    rintro ⟨n, v⟩ hy
    rcases S.par n (List.of_mem_zip hy).1 with z | z
    · exact .inl z
    · exact .inr ⟨z, PySem.W.cellsFrom_some _ _ _ (.inl z)⟩
  refine codeAny_call_function hr.depth (KX _ _ lk) rfl S.co S.gen rfl (PySem.W.codeRec_of KX hcd) (hb _ _ _ _ ?_)
  refine wpAny_newFunctionEnv_cells S.kind kinds fun env he s1 inx => ?_
  subst he
  refine ⟨nl.keeps inx.toInCall.keep, codeAny_func ?_⟩
  obtain ⟨t, ht, hq⟩ := hbody cd A outer s H vs Q (hr.deeper _) hgd hsp
  have I := inv_start (CX := cx0) (E := xk0) S hr.hd e0 ll rv inx
  refine wpAny_mono (ht.nox.run [] s1 (start N vs) H _ I hq) (fun fl s' hs => ?_) fun e s' hs => hs
  cases fl with
  | ret u =>
    obtain ⟨v, σ', H', J, r2, q⟩ := hs
    exact ⟨v, H', J.os, J.bare, J.base, J.hok, r2, q⟩
  | next =>
    obtain ⟨σ', H', J, q⟩ := hs
    exact ⟨V.non, H', J.os, J.bare, J.base, J.hok, rfl, q⟩
  | brk => exact (hs.choose_spec.choose_spec.2 : False).elim
  | cont => exact (hs.choose_spec.choose_spec.2 : False).elim
section
variable {X : Cx} {k : Nat} {f : Addr} {fd : FuncData} {ps ks : List Str} {sp : SpG} {x : Str} {p pos : Pos} {e : Expr} {es : List Expr} {t tk : TA} {kws : List Keyword}
theorem runG {pins : List (Addr × Obj)} {σ : Sg} {H : Hp} {s : Shared} {Q : VK} {args : Args} {us : List Value} {vs : List V} (G : FnG X.prog X.w X.K X.mg X.base k f fd ps sp) (hr : Room k X.A) (hgd : X.A.guards = some []) (hb : BindsTo s fd args (ps.zip us))
    (I : Inv X pins σ H s) (r : Vals vs us) (h : sp vs H Q) : wpAny (model X.prog X.w) X.A (call (.ref f) args.pos args.kw) (EP X pins σ Q) X.xe s := by
  refine wpAny_call (codeAny_mono (G.run X.A X.stack s H args us vs Q hr hgd I.env0 hb r h) fun rs s' hq => ?_)
  cases rs with
  | error e => exact (hq : False).elim
  | ok fl =>
    cases fl with
    | ret u => exact I.after hq
    | next => exact (hq : False).elim
    | brk => exact (hq : False).elim
    | cont => exact (hq : False).elim
def tCG (sp : SpG) (t : TA) : TE := fun σ H Q => t σ H fun vs H1 => sp vs H1 Q
theorem pe_callG (G : FnG X.prog X.w X.K X.mg X.base k f fd ps sp) (hr : Room k X.A) (hgd : X.A.guards = some []) (hg : Gl X x) (hm : X.mg x = some (.ref f)) (hk : PySem.W.keepIn X.K (.ref f) = true) (hb : Binds X.K fd ps [])
    (ha : PA X (e :: es) t) (hdb : (x == ("__debug__" : Str)) = false) (he : starEach (e :: es) X.env = (false, eval e X.env) :: starEach es X.env) (hpl : (backTo pos (starEach es X.env)).any (·.1) = false) :
    PE X (.Call (.Name x p) (e :: es) [] pos) (tCG sp t) := ⟨fun pins s σ H Q I h => by
  refine wpAny_Call_Name_kw (ld_glob I hg hm ?_ hdb)
  refine PySem.W.callWith_K (h₀ := X.base) I.ok.mod.kin hk (thn (ha.run pos pins s σ H _ I h) fun us s1 ⟨vs, H1, I1, r, q⟩ => ⟨I1.kIn, ?_⟩) he hpl
  have hl : us.length = ps.length := by rw [← r.length]; exact G.len _ _ _ q
  have hb' := hb s1 us I1.kIn (by rw [List.append_nil]; exact hl)
  rw [List.append_nil] at hb'
  exact runG (args := ⟨us, []⟩) G hr hgd hb' I1 r q⟩
theorem pe_callG0 (G : FnG X.prog X.w X.K X.mg X.base k f fd ps sp) (hr : Room k X.A) (hgd : X.A.guards = some []) (hg : Gl X x) (hm : X.mg x = some (.ref f)) (hk : PySem.W.keepIn X.K (.ref f) = true) (hb : Binds X.K fd ps [])
    (hdb : (x == ("__debug__" : Str)) = false) : PE X (.Call (.Name x p) [] [] pos) (tCG sp tNil) := ⟨fun pins s σ H Q I h => by
  refine wpAny_Call_Name_kw (ld_glob I hg hm ?_ hdb)
  refine PySem.W.callWith_K0 I.kIn hk ?_
  have hl : 0 = ps.length := G.len _ _ _ h
  exact runG (args := ⟨[], []⟩) G hr hgd (hb s [] I.kIn (by rw [List.append_nil]; exact hl)) I .nil h⟩
/-- with keywords: g puts the values in the parameters' order -/
structure KwB (K : PySem.W.Frag) (fd : FuncData) (ps ks : List Str) (n : Nat) (g : {α : Type} → List α → List α → List α) : Prop where
  to : ∀ (s : Shared) (us ws : List Value), K.In s.heap → us.length = n → ws.length = ks.length → BindsTo s fd ⟨us, ks.zip ws⟩ (ps.zip (g us ws))
  rel : ∀ {vs zs : List V} {us ws : List Value}, vs.length = n → zs.length = ks.length → Vals vs us → Vals zs ws → Vals (g vs zs) (g us ws)
theorem pe_callGK {n : Nat} {g : {α : Type} → List α → List α → List α} (G : FnG X.prog X.w X.K X.mg X.base k f fd ps sp) (hr : Room k X.A) (hgd : X.A.guards = some []) (hg : Gl X x) (hm : X.mg x = some (.ref f)) (hk : PySem.W.keepIn X.K (.ref f) = true) (hb : KwB X.K fd ps ks n @g)
    (ha : PA X (e :: es) t) (hkw : PK X kws tk) (hall : (backToKw pos (keywordEach kws X.env)).all (·.1.isSome) = true) (hks : (backToKw pos (keywordEach kws X.env)).filterMap (·.1) = ks)
    (hdb : (x == ("__debug__" : Str)) = false) (he : starEach (e :: es) X.env = (false, eval e X.env) :: starEach es X.env) (hpl : ((backTo pos (starEach (e :: es) X.env)).any (·.1) || (backToKw pos (keywordEach kws X.env)).any (·.1.isNone)) = false) :
    PE X (.Call (.Name x p) (e :: es) kws pos) (fun σ H Q => t σ H fun vs H1 => tk σ H1 fun zs H2 => vs.length = n ∧ zs.length = ks.length ∧ sp (g vs zs) H2 Q) := ⟨fun pins s σ H Q I h => by
  refine wpAny_Call_Name_kw (ld_glob I hg hm ?_ hdb)
  refine PySem.W.callWith_KW (h₀ := X.base) I.ok.mod.kin hk hall (thn (ha.run pos pins s σ H _ I h) fun us s1 ⟨vs, H1, I1, r, q⟩ => ?_) hpl he
  refine thn (hkw.run pos pins s1 σ H1 _ I1 q) fun ws s2 ⟨zs, H2, I2, rz, l1, l2, q2⟩ => ⟨I2.kIn, ?_⟩
  rw [hks]
  exact runG (args := ⟨us, ks.zip ws⟩) G hr hgd (hb.to s2 us ws I2.kIn (r.length.symm.trans l1) (rz.length.symm.trans l2)) I2 (hb.rel l1 l2 r rz) q2⟩
theorem pe_callGK0 {g : {α : Type} → List α → List α → List α} (G : FnG X.prog X.w X.K X.mg X.base k f fd ps sp) (hr : Room k X.A) (hgd : X.A.guards = some []) (hg : Gl X x) (hm : X.mg x = some (.ref f)) (hk : PySem.W.keepIn X.K (.ref f) = true) (hb : KwB X.K fd ps ks 0 @g)
    (hkw : PK X kws tk) (hall : (backToKw pos (keywordEach kws X.env)).all (·.1.isSome) = true) (hks : (backToKw pos (keywordEach kws X.env)).filterMap (·.1) = ks)
    (hdb : (x == ("__debug__" : Str)) = false) (hpl : ((backTo pos (starEach [] X.env)).any (·.1) || (backToKw pos (keywordEach kws X.env)).any (·.1.isNone)) = false) :
    PE X (.Call (.Name x p) [] kws pos) (fun σ H Q => tk σ H fun zs H2 => zs.length = ks.length ∧ sp (g [] zs) H2 Q) := ⟨fun pins s σ H Q I h => by
  refine wpAny_Call_Name_kw (ld_glob I hg hm ?_ hdb)
  refine PySem.W.callWith_KW0 (h₀ := X.base) I.ok.mod.kin hk hall (thn (hkw.run pos pins s σ H _ I h) fun ws s2 ⟨zs, H2, I2, rz, l2, q2⟩ => ⟨I2.kIn, ?_⟩) hpl
  rw [hks]
  exact runG (args := ⟨[], ks.zip ws⟩) G hr hgd (hb.to s2 [] ws I2.kIn rfl (rz.length.symm.trans l2)) I2 (hb.rel rfl l2 .nil rz) q2⟩
end
/-! ### a def's promise over trees -/
def RetC (c : Cf) (nw : Bool) (fp' : Fp) (H H' : Hp) (σ : Sg) (S' : Sl) (v : V) (d : D) : Prop :=
  if nw = true then ∃ p xs ds, v = .ref p ∧ d = .list ds ∧ NewL c fp' H H' p xs ds ∧ Rel (c.wF (addF c.F p)) fp' σ S' H'
  else Rp H' (Bd c fp') v d ∧ Rel c fp' σ S' H'
def spF (n : Nat) (io : List Nat) (nw : Bool) (g : SM) : SpG := fun vs H Q => vs.length = n ∧ ∃ F fp S, Rel ⟨io, io, F, []⟩ fp (vs.map some) S H ∧ ∃ d S', g S = some (d, S') ∧
  ∀ v H' fp', Chg ⟨io, io, F, []⟩ io fp H fp' H' → RetC ⟨io, io, F, []⟩ nw fp' H H' (vs.map some) S' v d → Q v H'
def gFn (nw : Bool) (io : List Nat) (m : Nat) (body : CM) : SM := fun S => (body (S ++ List.replicate m none)).bind fun r => match r.1 with
  | .rt d => some (d, mrg io S r.2)
  | .nx => if nw = true then none else some (.none, mrg io S r.2)
  | _ => none
theorem gt_app {S : Sl} {m j : Nat} : gt (S ++ List.replicate m none) j = gt S j := by
  unfold gt
  by_cases h : j < S.length
  · rw [List.getElem?_append_left h]
  · rw [List.getElem?_append_right (by omega), List.getElem?_eq_none (l := S) (by omega), List.getElem?_replicate]
    split <;> rfl
theorem gt_lt {S : Sl} {j : Nat} {d : D} (h : gt S j = some d) : j < S.length := by
  unfold gt at h
  by_cases hl : j < S.length
  · exact hl
  · rw [List.getElem?_eq_none (by omega)] at h
    cases h
theorem mrg_gt' {T : Sl} {j : Nat} : ∀ {w : List Nat} {S : Sl}, gt (mrg w S T) j = if j ∈ w ∧ j < S.length then gt T j else gt S j
  | [], S => by simp [mrg]
  | i :: w, S => by
    show gt (mrg w (S.set i (gt T i)) T) j = _
    rw [mrg_gt', gt_set, List.length_set]
    by_cases hl : j < S.length
    · by_cases hj : j ∈ w
      · simp [hj, hl]
      · by_cases hij : i = j
        · subst hij; simp [hl]
        · simp [hj, hl, hij, Ne.symm hij]
    · simp [hl]
section
variable {io lo : List Nat} {Fa : Addr → Prop} {fp fp' : Fp} {vs : List V} {S0 S1 : Sl} {H H' : Hp} {m : Nat}
def fpB (io : List Nat) (fp : Fp) : Fp := fun j => if j ∈ io then fp j else []
def fpE (io : List Nat) (fp fp' : Fp) : Fp := fun j => if j ∈ io then fp' j else fp j
theorem bd_start {a : Addr} : Bd ⟨io ++ lo, io ++ lo, Fa, lo⟩ (fpB io fp) a ↔ Bd ⟨io, io, Fa, []⟩ fp a := by
  constructor
  · rintro (z | ⟨i, hi, z⟩)
    · exact .inl z
    · unfold fpB at z
      by_cases h : i ∈ io
      · rw [if_pos h] at z; exact .inr ⟨i, h, z⟩
      · rw [if_neg h] at z; cases z
  · rintro (z | ⟨i, hi, z⟩)
    · exact .inl z
    · refine .inr ⟨i, List.mem_append_left _ hi, ?_⟩
      unfold fpB
      rw [if_pos (show i ∈ io from hi)]
      exact z
theorem rel_start (R : Rel ⟨io, io, Fa, []⟩ fp (vs.map some) S0 H) (h2 : ∀ i ∈ lo, vs.length ≤ i) : Rel ⟨io ++ lo, io ++ lo, Fa, lo⟩ (fpB io fp) (vs.map some ++ List.replicate m none) (S0 ++ List.replicate m none) H := by
  have hl : S0.length = vs.length := by rw [R.len, List.length_map]
  have dis : ∀ i ∈ lo, i ∈ io ++ lo := fun i hi => List.mem_append_right _ hi
  refine ⟨by simp [R.len], fun i hi d e => ?_, fun i hi d e => ?_, fun i hi => ?_, fun i hi j hj hij a ha => ?_, fun i hi a ha => ?_, fun a ha => R.mt a (bd_start.mp ha), fun i hi => ?_, fun i hi ds e => ?_⟩
  · rw [gt_app] at e
    have lt := gt_lt e
    have hio : i ∈ io := by
      rcases List.mem_append.mp hi with z | z
      · exact z
      · have := h2 i z; omega
    obtain ⟨v, e1, r⟩ := R.own i hio d e
    refine ⟨v, by rw [List.getElem?_append_left (by rw [List.length_map]; omega)]; exact e1, ?_⟩
    unfold fpB
    rw [if_pos hio]
    exact r.mono (fun a xs e n => ⟨e, fun z => n (bd_start.mp z)⟩) (fun a o u e => e) (fun a xs e => e) fun a _ xs e => e
  · rw [gt_app] at e
    have lt := gt_lt e
    obtain ⟨v, e1, r⟩ := R.frz i (fun z => hi (List.mem_append_left _ z)) d e
    exact ⟨v, by rw [List.getElem?_append_left (by rw [List.length_map]; omega)]; exact e1, r.less fun a z => bd_start.mp z⟩
  · unfold fpB
    by_cases h : i ∈ io
    · rw [if_pos h]; exact R.nd i h
    · rw [if_neg h]; exact .nil
  · unfold fpB at ha ⊢
    by_cases h : i ∈ io
    · rw [if_pos h] at ha
      by_cases h' : j ∈ io
      · rw [if_pos h']; exact R.dj i h j h' hij a ha
      · rw [if_neg h']; simp
    · rw [if_neg h] at ha; cases ha
  · unfold fpB at ha
    by_cases h : i ∈ io
    · rw [if_pos h] at ha; exact R.nf i h a ha
    · rw [if_neg h] at ha; cases ha
  · unfold fpB
    by_cases h : i ∈ io
    · rw [if_pos h]; exact R.fl i h
    · rw [if_neg h]; simp
  · rw [gt_app] at e
    have lt := gt_lt e
    have hio : i ∈ io := by
      rcases List.mem_append.mp hi with z | z
      · exact z
      · have := h2 i z; omega
    unfold fpB
    rw [if_pos hio]
    exact R.tk i hio ds e
theorem bd_end {a : Addr} (h : Bd ⟨io, io, Fa, []⟩ (fpE io fp fp') a) : Bd ⟨io ++ lo, io ++ lo, Fa, lo⟩ fp' a := by
  rcases h with z | ⟨i, hi, z⟩
  · exact .inl z
  · unfold fpE at z
    rw [if_pos (show i ∈ io from hi)] at z
    exact .inr ⟨i, List.mem_append_left _ hi, z⟩
theorem chg_end {wr : List Nat} (h3 : ∀ i ∈ io, i ∉ lo) (C : Chg ⟨io ++ lo, io ++ lo, Fa, lo⟩ wr (fpB io fp) H fp' H') : Chg ⟨io, io, Fa, []⟩ io fp H (fpE io fp fp') H' where
  keep := fun a o e n => C.keep a o e fun i hi _ z => by
    unfold fpB at z
    by_cases h : i ∈ io
    · rw [if_pos h] at z; exact n i h h z
    · rw [if_neg h] at z; cases z
  same := fun i hi => by unfold fpE; rw [if_neg hi]
  new := fun i hi a ha => by
    unfold fpE at ha
    rw [if_pos (show i ∈ io from hi)] at ha
    have := C.new i (List.mem_append_left _ hi) a ha
    unfold fpB at this
    rw [if_pos (show i ∈ io from hi)] at this
    rcases this with z | ⟨z, _⟩ | z
    · exact .inl z
    · exact absurd z (h3 i hi)
    · exact .inr (.inr z)
  live := C.live
/-- behind a body: what the caller sees; G may say that one more list is not named -/
theorem rel_end {σ' : Sg} {G : Addr → Prop} {wr : List Nat} (h3 : ∀ i ∈ io, i ∉ lo) (R : Rel ⟨io, io, Fa, []⟩ fp (vs.map some) S0 H) (C : Chg ⟨io ++ lo, io ++ lo, Fa, lo⟩ wr (fpB io fp) H fp' H') (R' : Rel ⟨io ++ lo, io ++ lo, Fa, lo⟩ fp' σ' S1 H')
    (hs : ∀ i ∈ io, σ'[i]? = (vs.map some ++ List.replicate m none)[i]?) (hG : ∀ a, G a → Mutb H' a ∧ H a = none ∧ ∀ i ∈ io, a ∉ fp' i)
    (hO : ∀ i ∈ io, ∀ d, gt S1 i = some d → ∃ v, σ'[i]? = some (some v) ∧ OwT H' (fun a => Bd ⟨io ++ lo, io ++ lo, Fa, lo⟩ fp' a ∨ G a) v d (fp' i)) :
    Rel ⟨io, io, (fun a => Fa a ∨ G a), []⟩ (fpE io fp fp') (vs.map some) (mrg io S0 S1) H' := by
  have C' := chg_end h3 C
  have less : ∀ a, Bd ⟨io, io, (fun a => Fa a ∨ G a), []⟩ (fpE io fp fp') a → Bd ⟨io ++ lo, io ++ lo, Fa, lo⟩ fp' a ∨ G a := fun a z => by
    rcases z with (z | z) | z
    · exact .inl (.inl z)
    · exact .inr z
    · exact .inl (bd_end (.inr z))
  refine ⟨by rw [mrg_length]; exact R.len, fun i hi d e => ?_, fun i hi d e => ?_, fun i hi => ?_, fun i hi j hj hij a ha => ?_, fun i hi a ha => ?_, fun a ha => ?_, fun i hi => ?_, fun i hi ds e => ?_⟩
  · have hi' : i ∈ io := hi
    have lt : i < S0.length := by have := gt_lt e; rw [mrg_length] at this; exact this
    rw [mrg_gt', if_pos ⟨hi', lt⟩] at e
    obtain ⟨v, e1, r⟩ := hO i hi' d e
    rw [hs i hi', List.getElem?_append_left (by rw [← R.len]; exact lt)] at e1
    refine ⟨v, e1, ?_⟩
    unfold fpE
    rw [if_pos hi']
    exact r.mono (fun a xs e n => ⟨e, fun z => n (less a z)⟩) (fun a o u e => e) (fun a xs e => e) fun a _ xs e => e
  · have hi' : i ∉ io := hi
    rw [mrg_gt', if_neg (fun z => hi' z.1)] at e
    obtain ⟨v, e1, r⟩ := R.frz i hi d e
    refine ⟨v, e1, r.mono (fun a xs e n => ⟨C'.keepN e n, fun z => ?_⟩) (fun a o u e => C'.keepN e (Bd.nofrz R e)) (fun a xs e => C'.keepN e (Bd.notup R e))⟩
    have nb := C'.bd n (by rw [e]; simp)
    rcases z with (z | z) | z
    · exact nb (.inl z)
    · rw [(hG a z).2.1] at e; cases e
    · exact nb (.inr z)
  · unfold fpE; rw [if_pos (show i ∈ io from hi)]; exact R'.nd i (List.mem_append_left _ hi)
  · unfold fpE at ha ⊢
    rw [if_pos (show i ∈ io from hi)] at ha
    rw [if_pos (show j ∈ io from hj)]
    exact R'.dj i (List.mem_append_left _ hi) j (List.mem_append_left _ hj) hij a ha
  · unfold fpE at ha
    rw [if_pos (show i ∈ io from hi)] at ha
    rintro (z | z)
    · exact R'.nf i (List.mem_append_left _ hi) a ha z
    · exact (hG a z).2.2 i hi ha
  · rcases less a ha with z | z
    · exact R'.mt a z
    · exact (hG a z).1
  · unfold fpE; rw [if_pos (show i ∈ io from hi)]; exact R'.fl i (List.mem_append_left _ hi)
  · have hi' : i ∈ io := hi
    have lt : i < S0.length := by have := gt_lt e; rw [mrg_length] at this; exact this
    rw [mrg_gt', if_pos ⟨hi', lt⟩] at e
    unfold fpE
    rw [if_pos hi']
    exact R'.tk i (List.mem_append_left _ hi) ds e
end
section
variable {P : Program} {w : World} {K : PySem.W.Frag} {mg : Str → Option Value} {base : Heap} {k : Nat} {f : Addr} {name qual : Str} {params : Arguments} {body : List Stmt} {scope : Scope} {dvs : List V} {kws : List (Str × V)} {fd : FuncData} {N ps : List Str}
theorem fn_rule {io lo as wr : List Nat} {nw : Bool} {g : CM} (F : FunD K name qual params body scope dvs kws f fd) (S : FnScope N ps scope)
    (hbody : ∀ (Fa : Addr → Prop) (cd : Value) (A : Around) (outer : List Env) (s : Shared) (H : Hp), Room k (A.deeper (envOfC qual scope s.heap.objs.size f cd)) → A.guards = some [] →
      SSs ⟨io ++ lo, io ++ lo, Fa, lo⟩ (cxG P w K mg base N qual scope f cd A outer s H) body wr as lo nw g)
    (h1 : ∀ i ∈ io, i ∉ as) (h2 : ∀ i ∈ lo, ps.length ≤ i) (h3 : ∀ i ∈ io, i ∉ lo) : FnG P w K mg base (k + 1) f fd ps (spF ps.length io nw (gFn nw io (N.length - ps.length) g)) := by
  refine fnG_of F S (fun vs H Q h => h.1) fun cd A outer s H vs Q hr hgd ⟨hl, Fa, fp, S0, R, d, S', e, q⟩ => ⟨_, hbody Fa cd A outer s H hr hgd, ?_⟩
  unfold gFn at e
  cases hg : g (S0 ++ List.replicate (N.length - ps.length) none) with
  | none => rw [hg] at e; cases e
  | some y =>
    obtain ⟨r, S1⟩ := y
    rw [hg] at e
    simp only [Option.bind_some] at e
    have R0 : Rel ⟨io ++ lo, io ++ lo, Fa, lo⟩ (fpB io fp) (start N vs) (S0 ++ List.replicate (N.length - ps.length) none) H := by
      unfold L2.start
      rw [hl]
      exact rel_start R fun i hi => by rw [hl]; exact h2 i hi
    refine ⟨fpB io fp, _, R0, r, S1, hg, fun σ' H' fp' R' C l kk => ?_⟩
    have hs : ∀ i ∈ io, σ'[i]? = (vs.map some ++ List.replicate (N.length - vs.length) none)[i]? := fun i hi => kk i (h1 i hi)
    have Rf : Rel ⟨io, io, Fa, []⟩ (fpE io fp fp') (vs.map some) (mrg io S0 S1) H' := by
      have := rel_end (G := fun _ => False) h3 R C R' hs (fun a z => z.elim) fun i hi d e => by
        obtain ⟨v, e1, r⟩ := R'.own i (List.mem_append_left _ hi) d e
        exact ⟨v, e1, r.mono (fun a xs e n => ⟨e, fun z => n (z.elim id False.elim)⟩) (fun a o u e => e) (fun a xs e => e) fun a _ xs e => e⟩
      have e : (fun a => Fa a ∨ False) = Fa := funext fun a => propext ⟨fun z => z.elim id False.elim, .inl⟩
      rw [e] at this
      exact this
    cases r with
    | nx =>
      dsimp only at e
      cases nw with
      | true => rw [if_pos rfl] at e; cases e
      | false =>
        rw [if_neg Bool.false_ne_true] at e
        cases e
        refine q .non H' (fpE io fp fp') (chg_end h3 C) ?_
        unfold RetC
        rw [if_neg Bool.false_ne_true]
        exact ⟨.non, Rf⟩
    | bk => cases e
    | ct => cases e
    | rt d' =>
      cases e
      intro v rv
      refine q v H' (fpE io fp fp') (chg_end h3 C) ?_
      unfold RetC
      unfold RetV at rv
      cases nw with
      | false =>
        rw [if_neg Bool.false_ne_true] at rv ⊢
        exact ⟨rv.less fun a z => bd_end z, Rf⟩
      | true =>
        rw [if_pos rfl] at rv ⊢
        obtain ⟨p, xs, ds, rfl, rfl, e3, e4, e5, e6, e7, e8⟩ := rv
        have hp : H p = none := by
          rcases e4 with z | ⟨i, h4, h5, h6⟩
          · exact z
          · unfold fpB at h6
            by_cases h : i ∈ io
            · exact absurd h5 (h3 i h)
            · rw [if_neg h] at h6; cases h6
        have pf : ∀ i ∈ io, p ∉ fp' i := fun i hi => e6 i (List.mem_append_left _ hi) (h3 i hi)
        refine ⟨p, xs, ds, rfl, rfl, ⟨e3, ?_, hp, e7.less fun a z => ?_⟩, ?_⟩
        · rintro (z | ⟨i, hi, z⟩)
          · exact e5 z
          · unfold fpE at z
            rw [if_pos (show i ∈ io from hi)] at z
            exact pf i hi z
        · rcases z with (z | z) | z
          · exact .inl (.inl z)
          · exact .inr z
          · exact .inl (bd_end (.inr z))
        · exact rel_end (G := fun a => a = p) h3 R C R' hs (fun a z => by
            have z' : a = p := z
            subst z'
            exact ⟨.inl ⟨xs, e3⟩, hp, pf⟩) fun i hi d e => e8 i (List.mem_append_left _ hi) (h3 i hi) d e
end
end FV
end
section
set_option Elab.async false
set_option linter.all false
set_option maxRecDepth 100000
set_option maxHeartbeats 4000000
/-! Calls of defs, over trees. -/
namespace FV
open PySem PySem.Spec PyProof.Rows L2
theorem RetC.rp {c : Cf} {nw : Bool} {fp' : Fp} {H H' : Hp} {σ : Sg} {S' : Sl} {v : V} {d : D} (r : RetC c nw fp' H H' σ S' v d) : Rp H' (Bd c fp') v d ∧ Rel c fp' σ S' H' := by
  unfold RetC at r
  cases nw with
  | false => rw [if_neg Bool.false_ne_true] at r; exact r
  | true =>
    rw [if_pos rfl] at r
    obtain ⟨p, xs, ds, rfl, rfl, n, R⟩ := r
    exact ⟨n.rp, R.drop⟩
def mCall0 (g : SM) (fl : SL) : SM := fun S => (fl S).bind fun r => (g (r.1.map some)).map fun q => (q.1, r.2)
theorem mCall0_inv {g : SM} {fl : SL} {S S' : Sl} {z : D} (h : mCall0 g fl S = some (z, S')) : ∃ ds Sa, fl S = some (ds, S') ∧ g (ds.map some) = some (z, Sa) := by
  unfold mCall0 at h
  cases hf : fl S with
  | none => rw [hf] at h; cases h
  | some r =>
    obtain ⟨ds, S1⟩ := r
    rw [hf] at h
    simp only [Option.bind_some] at h
    cases hg : g (ds.map some) with
    | none => rw [hg] at h; cases h
    | some q =>
      obtain ⟨z', Sa⟩ := q
      rw [hg] at h
      cases h
      exact ⟨ds, Sa, rfl, hg⟩
section
variable {c : Cf} {X : Cx} {e : Expr} {es : List Expr} {x y : Str} {p pos pos' : Pos} {wr w1 w2 : List Nat} {ms : List Md} {fl : SL} {g : SM} {nw : Bool} {n i : Nat} {fp fp1 fp2 : Fp} {σ : Sg} {S S1 Sa : Sl} {H H1 H2 : Hp} {Q : VK}
theorem rel_args {vs : List V} {ds : List D} (R : Rel c fp σ S H) (r : RpAll H (Bd c fp) vs ds) : Rel ⟨[], [], Bd c fp, []⟩ (fun _ => []) (vs.map some) (ds.map some) H where
  len := by rw [List.length_map, List.length_map, r.length]
  own := fun i hi => nomatch hi
  frz := fun i _ d e => by
    unfold gt at e
    rw [List.getElem?_map] at e
    cases hd : ds[i]? with
    | none => rw [hd] at e; cases e
    | some d' =>
      rw [hd] at e
      cases e
      obtain ⟨v, hv, rv⟩ := r.get hd
      refine ⟨v, by rw [List.getElem?_map, hv]; rfl, rv.less fun a z => ?_⟩
      rcases z with z | ⟨i, hi, z⟩
      · exact z
      · cases hi
  nd := fun i hi => nomatch hi
  dj := fun i hi => nomatch hi
  nf := fun i hi => nomatch hi
  mt := fun a z => by
    rcases z with z | ⟨i, hi, z⟩
    · exact R.mt a z
    · cases hi
  fl := fun i hi => nomatch hi
  tk := fun i hi => nomatch hi
theorem call_tr0 (hms : ms.all (· == .fz) = true) (hn : ms.length = n) (h : tE c wr .fz (mCall0 g fl) σ H Q) : tA c wr ms fl σ H fun vs H1 => spF n [] nw g vs H1 Q := by
  obtain ⟨fp, S, R, z, S', e, q⟩ := h
  obtain ⟨ds, Sa, e1, e2⟩ := mCall0_inv e
  refine ⟨fp, S, R, ds, S', e1, fun vs H1 fp1 R1 C1 rv => ⟨by rw [rv.length.1, ← rv.length.2, hn], Bd c fp1, fun _ => [], ds.map some, rel_args R1 (rv.fz (all_fz hms)), z, Sa, e2, fun v H2 fp2 C2 rc => ?_⟩⟩
  have same := C2.all.1
  have C3 := C1.trans (Chg.ext (c := c) (fp := fp1) same)
  rw [List.append_nil] at C3
  exact q v H2 fp1 (R1.ext same) C3 (rc.rp.1.less fun a z => .inl z)
theorem call_trN0 (hms : ms.all (· == .fz) = true) (hn : ms.length = n) (h : tN c wr (mCall0 g fl) σ H Q) : tA c wr ms fl σ H fun vs H1 => spF n [] true g vs H1 Q := by
  obtain ⟨fp, S, R, z, S', e, q⟩ := h
  obtain ⟨ds, Sa, e1, e2⟩ := mCall0_inv e
  refine ⟨fp, S, R, ds, S', e1, fun vs H1 fp1 R1 C1 rv => ⟨by rw [rv.length.1, ← rv.length.2, hn], Bd c fp1, fun _ => [], ds.map some, rel_args R1 (rv.fz (all_fz hms)), z, Sa, e2, fun v H2 fp2 C2 rc => ?_⟩⟩
  have same := C2.all.1
  have C3 := C1.trans (Chg.ext (c := c) (fp := fp1) same)
  rw [List.append_nil] at C3
  unfold RetC at rc
  rw [if_pos rfl] at rc
  obtain ⟨p, xs, es, rfl, rfl, nl, _⟩ := rc
  have hp := nl.fresh
  have s2 : Same (upd H1 p (.lst xs)) H2 := fun b o ho => by
    by_cases hb : b = p
    · rw [hb, upd_same] at ho
      cases ho
      rw [hb]
      exact nl.here
    · rw [upd_ne hb] at ho
      exact same b o ho
  have R2 : Rel (c.wF (addF c.F p)) fp1 σ S' H2 := (Rel.add (F := c.F) R1 hp).ext s2
  refine q p xs es H2 fp1 rfl R2 C3 ⟨nl.here, fun z => Bd.live R1 z hp, C1.fresh hp, nl.items.less fun a z => ?_⟩
  rcases z with (z | z) | z
  · exact .inl (.inl (.inl z))
  · exact .inl (.inr z)
  · exact .inl (.inl (.inr z))
/-! ### the first argument is one's own list, and may come back changed -/
def fp1c (a : Addr) : Fp := fun j => if j = 0 then [a] else []
theorem rel_args1 {a : Addr} {xs : List V} {vs : List V} {ds es : List D} (R : Rel c fp σ S H) (hB : Bd c fp a) (e3 : H a = some (.lst xs)) (r0 : RpAll H (Bd c fp) xs es) (r : RpAll H (Bd c fp) vs ds) :
    Rel ⟨[0], [0], (fun b => Bd c fp b ∧ b ≠ a), []⟩ (fp1c a) ((V.ref a :: vs).map some) (some (.list es) :: ds.map some) H := by
  have less : ∀ b, Bd ⟨[0], [0], (fun b => Bd c fp b ∧ b ≠ a), []⟩ (fp1c a) b → Bd c fp b := fun b z => by
    rcases z with z | ⟨i, hi, z⟩
    · exact z.1
    · have hi0 : i = 0 := by simpa using hi
      subst hi0
      have z' : b = a := by simpa [fp1c] using z
      rw [z']
      exact hB
  refine ⟨by simp [r.length], fun i hi d e => ?_, fun i hi d e => ?_, fun i hi => ?_, fun i hi j hj hij => ?_, fun i hi b hb => ?_, fun b hb => R.mt b (less b hb), fun i hi => ?_, fun i hi ds e => ?_⟩
  · have hi0 : i = 0 := by simpa using hi
    subst hi0
    have e' : PyData.list es = d := by simpa [gt] using e
    subst e'
    exact ⟨.ref a, rfl, .ow (.lst e3 (r0.less less).ow)⟩
  · cases i with
    | zero => exact absurd (by simp) hi
    | succ i =>
      have e' : (ds.map some)[i]?.join = some d := e
      rw [List.getElem?_map] at e'
      cases hd : ds[i]? with
      | none => rw [hd] at e'; cases e'
      | some d' =>
        rw [hd] at e'
        cases e'
        obtain ⟨v, hv, rv⟩ := r.get hd
        exact ⟨v, by show (vs.map some)[i]? = _; rw [List.getElem?_map, hv]; rfl, rv.less less⟩
  · have hi0 : i = 0 := by simpa using hi
    subst hi0
    simp [fp1c]
  · have hi0 : i = 0 := by simpa using hi
    have hj0 : j = 0 := by simpa using hj
    exact absurd (hi0.trans hj0.symm) hij
  · have hi0 : i = 0 := by simpa using hi
    subst hi0
    have z' : b = a := by simpa [fp1c] using hb
    exact fun z => z.2 z'
  · have hi0 : i = 0 := by simpa using hi
    subst hi0
    simp [fp1c]
  · have hi0 : i = 0 := by simpa using hi
    subst hi0
    simp [fp1c]
theorem call1_rel {a : Addr} {xs : List V} {ss : List (Option V)} {es' : List D} {G : Addr → Prop} (R1 : Rel c fp1 σ S1 H1) (ho : i ∈ c.own) (hf : i ∈ c.flat) (e1 : σ[i]? = some (some (.ref a))) (e2 : fp1 i = [a]) (e3 : H1 a = some (.lst xs))
    (C2 : Chg ⟨[0], [0], (fun b => Bd c fp1 b ∧ b ≠ a), []⟩ [0] (fp1c a) H1 fp2 H2) (R2 : Rel ⟨[0], [0], (fun b => (Bd c fp1 b ∧ b ≠ a) ∨ G b), []⟩ fp2 (some (V.ref a) :: ss) Sa H2) (hg : gt Sa 0 = some (.list es')) (hG : ∀ b, G b → H1 b = none ∧ Mutb H2 b) :
    Rel (c.wF fun b => c.F b ∨ G b) fp1 σ (S1.set i (some (.list es'))) H2 ∧ Chg c [i] fp1 H1 fp1 H2 ∧ fp2 0 = [a] := by
  obtain ⟨a', xs', e4, e5, e6, r6⟩ := R2.ownL (i := 0) (by simp) (by simp) hg
  have ea : a' = a := by
    have : some (some (V.ref a)) = some (some (V.ref a')) := e4
    cases this
    rfl
  subst ea
  have ha : a' ∈ fp1 i := by rw [e2]; simp
  have hB : Bd c fp1 a' := .inr ⟨i, ho, ha⟩
  have keep : ∀ b o, H1 b = some o → b ≠ a' → H2 b = some o := fun b o e n => C2.keep b o e fun j hj _ z => by
    have hj0 : j = 0 := by simpa using hj
    subst hj0
    exact n (by simpa [fp1c] using z)
  have nG : ∀ b o, H1 b = some o → ¬ G b := fun b o e z => by rw [(hG b z).1] at e; cases e
  have neB : ∀ b, ¬ Bd c fp1 b → b ≠ a' := fun b n z => n (by rw [z]; exact hB)
  have nB : ∀ b o, H1 b = some o → ¬ Bd c fp1 b → ¬ Bd (c.wF fun b => c.F b ∨ G b) fp1 b := fun b o e n z => by
    rcases z with (z | z) | z
    · exact n (.inl z)
    · exact nG b o e z
    · exact n (.inr z)
  have less : ∀ b, Bd (c.wF fun b => c.F b ∨ G b) fp1 b → Bd ⟨[0], [0], (fun b => (Bd c fp1 b ∧ b ≠ a') ∨ G b), []⟩ fp2 b := fun b z => by
    by_cases hb : b = a'
    · exact .inr ⟨0, by simp, by rw [e5, hb]; simp⟩
    · rcases z with (z | z) | z
      · exact .inl (.inl ⟨.inl z, hb⟩)
      · exact .inl (.inr z)
      · exact .inl (.inl ⟨.inr z, hb⟩)
  refine ⟨⟨by rw [List.length_set]; exact R1.len, fun j hj d e => ?_, fun j hj d e => ?_, R1.nd, R1.dj, fun j hj b hb z => ?_, fun b z => ?_, R1.fl, fun j hj ds e => ?_⟩, ⟨fun b o e n => keep b o e fun z => n i ho (by simp) (by rw [z]; exact ha), fun _ _ => rfl, fun _ _ _ h => .inl h, fun b hb => ?_⟩, e5⟩
  · rw [gt_set] at e
    by_cases h : i = j ∧ j < S1.length
    · rw [if_pos h] at e
      cases e
      obtain ⟨rfl, hl⟩ := h
      refine ⟨.ref a', e1, ?_⟩
      rw [e2]
      exact .ow (.lst e6 (r6.less less).ow)
    · rw [if_neg h] at e
      have hij : i ≠ j := fun z => by
        subst z
        have : ¬ i < S1.length := fun z => h ⟨rfl, z⟩
        rw [R1.len] at this
        rw [List.getElem?_eq_none (by omega)] at e1
        cases e1
      obtain ⟨v, e7, r7⟩ := R1.own j hj d e
      exact ⟨v, e7, r7.mono (fun b zs e n => ⟨keep b _ e (neB b n), nB b _ e n⟩) (fun b o u e => keep b _ e (neB b (Bd.nofrz R1 e))) (fun b zs e => keep b _ e (neB b (Bd.notup R1 e))) fun b hb zs e => keep b _ e fun z => R1.dj i ho j hj hij a' ha (by rw [← z]; exact hb)⟩
  · have hij : i ≠ j := fun z => hj (by rw [← z]; exact ho)
    rw [gt_set, if_neg (fun z => hij z.1)] at e
    obtain ⟨v, e7, r7⟩ := R1.frz j hj d e
    exact ⟨v, e7, r7.mono (fun b zs e n => ⟨keep b _ e (neB b n), nB b _ e n⟩) (fun b o u e => keep b _ e (neB b (Bd.nofrz R1 e))) fun b zs e => keep b _ e (neB b (Bd.notup R1 e))⟩
  · rcases z with z | z
    · exact R1.nf j hj b hb z
    · exact R1.live hj hb (hG b z).1
  · rcases z with (z | z) | z
    · by_cases hb : b = a'
      · rw [hb]; exact .inl ⟨xs', e6⟩
      · rcases R1.mt b (.inl z) with ⟨x, q⟩ | ⟨x, q⟩ | ⟨x, q⟩
        · exact .inl ⟨x, keep b _ q hb⟩
        · exact .inr (.inl ⟨x, keep b _ q hb⟩)
        · exact .inr (.inr ⟨x, keep b _ q hb⟩)
    · exact (hG b z).2
    · by_cases hb : b = a'
      · rw [hb]; exact .inl ⟨xs', e6⟩
      · rcases R1.mt b (.inr z) with ⟨x, q⟩ | ⟨x, q⟩ | ⟨x, q⟩
        · exact .inl ⟨x, keep b _ q hb⟩
        · exact .inr (.inl ⟨x, keep b _ q hb⟩)
        · exact .inr (.inr ⟨x, keep b _ q hb⟩)
  · by_cases h : i = j
    · rw [← h, e2]; simp
    · rw [gt_set, if_neg (fun z => h z.1)] at e
      exact R1.tk j hj ds e
  · exact C2.live b hb
def mCall1 (i : Nat) (g : SM) (fl : SL) : SM := fun S => if isLst (gt S i) = true then (fl S).bind fun r => match gt r.2 i with
  | some (.list es) => (g (some (.list es) :: r.1.map some)).bind fun q => match gt q.2 0 with
    | some (.list es') => some (q.1, r.2.set i (some (.list es')))
    | _ => none
  | _ => none
  else none
theorem mCall1_inv {S' : Sl} {z : D} (h : mCall1 i g fl S = some (z, S')) : ∃ es0 ds S1 es Sa es', gt S i = some (.list es0) ∧ fl S = some (ds, S1) ∧ gt S1 i = some (.list es) ∧ g (some (.list es) :: ds.map some) = some (z, Sa) ∧ gt Sa 0 = some (.list es') ∧ S' = S1.set i (some (.list es')) := by
  unfold mCall1 at h
  split at h
  · rename_i hl
    obtain ⟨es0, h0⟩ := isLst_of hl
    cases hf : fl S with
    | none => rw [hf] at h; cases h
    | some r =>
      obtain ⟨ds, S1⟩ := r
      rw [hf] at h
      simp only [Option.bind_some] at h
      split at h
      · rename_i es h1
        cases hg : g (some (.list es) :: ds.map some) with
        | none => rw [hg] at h; cases h
        | some q =>
          obtain ⟨z', Sa⟩ := q
          rw [hg] at h
          simp only [Option.bind_some] at h
          split at h
          · rename_i es' h2
            cases h
            exact ⟨es0, ds, S1, es, Sa, es', h0, rfl, h1, hg, h2, rfl⟩
          · cases h
      · cases h
  · cases h
theorem call_tr1 (ho : i ∈ c.own) (hf : i ∈ c.flat) (hms : ms.all (· == .fz) = true) (hn : ms.length + 1 = n) (h : tE c (wr ++ [i]) .fz (mCall1 i g fl) σ H Q) : tCons (tVar i) (tA c wr ms fl) σ H fun vs H1 => spF n [0] nw g vs H1 Q := by
  obtain ⟨fp, S, R, z, S', e, q⟩ := h
  obtain ⟨es0, ds, S1, es, Sa, es', h0, h1, h2, h3, h4, rfl⟩ := mCall1_inv e
  obtain ⟨a, xs, e1, e2, e3, r0⟩ := R.ownL ho hf h0
  refine ⟨.ref a, e1, fp, S, R, ds, S1, h1, fun vs H1 fp1 R1 C1 rv => ?_⟩
  obtain ⟨a', xs', e1', e2', e3', r0'⟩ := R1.ownL ho hf h2
  have ea : a' = a := by rw [e1] at e1'; cases e1'; rfl
  subst ea
  have hB : Bd c fp1 a' := .inr ⟨i, ho, by rw [e2']; simp⟩
  refine ⟨by rw [List.length_cons, rv.length.1, ← rv.length.2, hn], _, fp1c a', _, rel_args1 R1 hB e3' r0' (rv.fz (all_fz hms)), z, Sa, h3, fun v H2 fp2 C2 rc => ?_⟩
  obtain ⟨rp, R2⟩ := rc.rp
  have eF : (fun b => (Bd c fp1 b ∧ b ≠ a') ∨ False) = fun b => Bd c fp1 b ∧ b ≠ a' := funext fun b => propext ⟨fun z => z.elim id False.elim, .inl⟩
  obtain ⟨R3, C3, f0⟩ := call1_rel (G := fun _ => False) R1 ho hf e1' e2' e3' C2 (by rw [eF]; exact R2) h4 (fun b z => z.elim)
  have eF2 : (fun b => c.F b ∨ False) = c.F := funext fun b => propext ⟨fun z => z.elim id False.elim, .inl⟩
  rw [eF2] at R3
  refine q v H2 fp1 R3 (C1.trans C3) (rp.less fun b z => ?_)
  by_cases hb : b = a'
  · exact .inr ⟨0, by simp, by rw [f0, hb]; simp⟩
  · exact .inl ⟨z, hb⟩
theorem call_trN1 (ho : i ∈ c.own) (hf : i ∈ c.flat) (hms : ms.all (· == .fz) = true) (hn : ms.length + 1 = n) (h : tN c (wr ++ [i]) (mCall1 i g fl) σ H Q) : tCons (tVar i) (tA c wr ms fl) σ H fun vs H1 => spF n [0] true g vs H1 Q := by
  obtain ⟨fp, S, R, z, S', e, q⟩ := h
  obtain ⟨es0, ds, S1, es, Sa, es', h0, h1, h2, h3, h4, rfl⟩ := mCall1_inv e
  obtain ⟨a, xs, e1, e2, e3, r0⟩ := R.ownL ho hf h0
  refine ⟨.ref a, e1, fp, S, R, ds, S1, h1, fun vs H1 fp1 R1 C1 rv => ?_⟩
  obtain ⟨a', xs', e1', e2', e3', r0'⟩ := R1.ownL ho hf h2
  have ea : a' = a := by rw [e1] at e1'; cases e1'; rfl
  subst ea
  have hB : Bd c fp1 a' := .inr ⟨i, ho, by rw [e2']; simp⟩
  refine ⟨by rw [List.length_cons, rv.length.1, ← rv.length.2, hn], _, fp1c a', _, rel_args1 R1 hB e3' r0' (rv.fz (all_fz hms)), z, Sa, h3, fun v H2 fp2 C2 rc => ?_⟩
  unfold RetC at rc
  rw [if_pos rfl] at rc
  obtain ⟨p, ys, ys2, rfl, rfl, nl, R2⟩ := rc
  have hp := nl.fresh
  obtain ⟨R3, C3, f0⟩ := call1_rel (G := fun b => b = p) R1 ho hf e1' e2' e3' C2 R2 h4 (fun b z => by
    have z' : b = p := z
    subst z'
    exact ⟨hp, .inl ⟨ys, nl.here⟩⟩)
  refine q p ys ys2 H2 fp1 rfl R3 (C1.trans C3) ⟨nl.here, fun z => Bd.live R1 z hp, C1.fresh hp, nl.items.less fun b z => ?_⟩
  by_cases hb : b = a'
  · exact .inr ⟨0, by simp, by rw [f0, hb]; simp⟩
  · rcases z with (z | z) | z
    · exact .inl (.inl ⟨.inl z, hb⟩)
    · exact .inl (.inr z)
    · exact .inl (.inl ⟨.inr z, hb⟩)
/-! ### the rules -/
variable {k : Nat} {f : Addr} {fd : FuncData} {ps : List Str}
theorem se_call (G : FnG X.prog X.w X.K X.mg X.base k f fd ps (spF n [] nw g)) (hr : Room k X.A) (hgd : X.A.guards = some []) (hg : Gl X x) (hm : X.mg x = some (.ref f)) (hk : PySem.W.keepIn X.K (.ref f) = true) (hb : Binds X.K fd ps [])
    (hms : ms.all (· == .fz) = true) (hn : ms.length = n) (ha : SA c X (e :: es) wr ms fl) (hdb : (x == ("__debug__" : Str)) = false) (he : starEach (e :: es) X.env = (false, eval e X.env) :: starEach es X.env) (hpl : (backTo pos (starEach es X.env)).any (·.1) = false) :
    SE c X (.Call (.Name x p) (e :: es) [] pos) wr .fz (mCall0 g fl) := peImp (pe_callG G hr hgd hg hm hk hb ha hdb he hpl) fun _ _ _ h => call_tr0 hms hn h
theorem sn_call (G : FnG X.prog X.w X.K X.mg X.base k f fd ps (spF n [] true g)) (hr : Room k X.A) (hgd : X.A.guards = some []) (hg : Gl X x) (hm : X.mg x = some (.ref f)) (hk : PySem.W.keepIn X.K (.ref f) = true) (hb : Binds X.K fd ps [])
    (hms : ms.all (· == .fz) = true) (hn : ms.length = n) (ha : SA c X (e :: es) wr ms fl) (hdb : (x == ("__debug__" : Str)) = false) (he : starEach (e :: es) X.env = (false, eval e X.env) :: starEach es X.env) (hpl : (backTo pos (starEach es X.env)).any (·.1) = false) :
    SN c X (.Call (.Name x p) (e :: es) [] pos) wr (mCall0 g fl) := peImp (pe_callG G hr hgd hg hm hk hb ha hdb he hpl) fun _ _ _ h => call_trN0 hms hn h
theorem se_call1 (G : FnG X.prog X.w X.K X.mg X.base k f fd ps (spF n [0] nw g)) (hr : Room k X.A) (hgd : X.A.guards = some []) (hg : Gl X x) (hm : X.mg x = some (.ref f)) (hk : PySem.W.keepIn X.K (.ref f) = true) (hb : Binds X.K fd ps [])
    (hN : X.N[i]? = some y) (hv : Vis X.env.scope y) (hd : (y == ("__debug__" : Str)) = false) (hcd : (y == ("__classdict__" : Str)) = false) (ho : i ∈ c.own) (hf : i ∈ c.flat)
    (hms : ms.all (· == .fz) = true) (hn : ms.length + 1 = n) (ha : SA c X es wr ms fl) (hdb : (x == ("__debug__" : Str)) = false) (he : starEach (.Name y pos' :: es) X.env = (false, eval (.Name y pos') X.env) :: starEach es X.env) (hpl : (backTo pos (starEach es X.env)).any (·.1) = false) :
    SE c X (.Call (.Name x p) (.Name y pos' :: es) [] pos) (wr ++ [i]) .fz (mCall1 i g fl) := peImp (pe_callG G hr hgd hg hm hk hb (pa_cons (pe_var hN hv hd hcd) ha he) hdb he hpl) fun _ _ _ h => call_tr1 ho hf hms hn h
theorem sn_call1 (G : FnG X.prog X.w X.K X.mg X.base k f fd ps (spF n [0] true g)) (hr : Room k X.A) (hgd : X.A.guards = some []) (hg : Gl X x) (hm : X.mg x = some (.ref f)) (hk : PySem.W.keepIn X.K (.ref f) = true) (hb : Binds X.K fd ps [])
    (hN : X.N[i]? = some y) (hv : Vis X.env.scope y) (hd : (y == ("__debug__" : Str)) = false) (hcd : (y == ("__classdict__" : Str)) = false) (ho : i ∈ c.own) (hf : i ∈ c.flat)
    (hms : ms.all (· == .fz) = true) (hn : ms.length + 1 = n) (ha : SA c X es wr ms fl) (hdb : (x == ("__debug__" : Str)) = false) (he : starEach (.Name y pos' :: es) X.env = (false, eval (.Name y pos') X.env) :: starEach es X.env) (hpl : (backTo pos (starEach es X.env)).any (·.1) = false) :
    SN c X (.Call (.Name x p) (.Name y pos' :: es) [] pos) (wr ++ [i]) (mCall1 i g fl) := peImp (pe_callG G hr hgd hg hm hk hb (pa_cons (pe_var hN hv hd hcd) ha he) hdb he hpl) fun _ _ _ h => call_trN1 ho hf hms hn h
/-! ### keywords -/
def pick {α : Type} (ix : List Nat) (us ws : List α) : List α := ix.filterMap fun i => (us ++ ws)[i]?
abbrev SKw (c : Cf) (X : Cx) (ks : List Keyword) (wr : List Nat) (ms : List Md) (f : SL) : Prop := PK X ks (tA c wr ms f)
theorem pkImp {X : Cx} {e : List Keyword} {t t' : TA} (h : PK X e t) (i : ∀ σ H Q, t' σ H Q → t σ H Q) : PK X e t' := ⟨fun p pins s σ H Q I q => h.run p pins s σ H Q I (i σ H Q q)⟩
theorem sk_nil : SKw c X [] [] [] mNil := pkImp pk_nil fun σ H Q ⟨fp, S, R, ds, S', e, q⟩ => by
  cases e
  exact q [] H fp R .refl trivial
theorem sk_cons {nm : Option Str} {kpos : Pos} {kws : List Keyword} {m : Md} {f : SM} (ha : SE c X e w1 m f) (hr : SKw c X kws w2 ms fl) (hm : m = .fz ∨ w2 = []) : SKw c X (⟨nm, e, kpos⟩ :: kws) (w1 ++ w2) (m :: ms) (mCons f fl) :=
  pkImp (pk_cons ha hr) fun σ H Q ⟨fp, S, R, ds, S', e, q⟩ => by
    obtain ⟨d, S1, r, e1, e2, rfl⟩ := mCons_inv e
    exact ⟨fp, S, R, d, S1, e1, fun v H1 fp1 R1 C1 rv => ⟨fp1, S1, R1, r, S', e2, fun vs H2 fp2 R2 C2 rs => q (v :: vs) H2 fp2 R2 (C1.trans C2) ⟨rv.chg R1 C2 hm, rs⟩⟩⟩
theorem pick_rp {B : Addr → Prop} {vs zs : List V} {ds es : List D} (r : RpAll H B vs ds) (r2 : RpAll H B zs es) : ∀ ix : List Nat, RpAll H B (pick ix vs zs) (pick ix ds es)
  | [] => .nil
  | i :: ix => by
    have ih := pick_rp r r2 ix
    have r3 := r.append r2
    unfold pick at ih ⊢
    cases hd : (ds ++ es)[i]? with
    | none =>
      have hl : (vs ++ zs)[i]? = none := by
        rw [List.getElem?_eq_none_iff, r3.length]
        exact List.getElem?_eq_none_iff.mp hd
      rw [List.filterMap_cons_none hd, List.filterMap_cons_none hl]
      exact ih
    | some d =>
      obtain ⟨v, hv, rv⟩ := r3.get hd
      rw [List.filterMap_cons_some hd, List.filterMap_cons_some hv]
      exact .cons rv ih
theorem pick_vals {vs zs : List V} {us ws : List Value} (r : Vals vs us) (r2 : Vals zs ws) : ∀ ix : List Nat, Vals (pick ix vs zs) (pick ix us ws)
  | [] => .nil
  | i :: ix => by
    have ih := pick_vals r r2 ix
    have r3 := r.append r2
    unfold pick at ih ⊢
    cases hd : (vs ++ zs)[i]? with
    | none =>
      have hl : (us ++ ws)[i]? = none := by
        rw [List.getElem?_eq_none_iff, ← r3.length]
        exact List.getElem?_eq_none_iff.mp hd
      rw [List.filterMap_cons_none hd, List.filterMap_cons_none hl]
      exact ih
    | some d =>
      obtain ⟨v, hv, rv⟩ := r3.get hd
      rw [List.filterMap_cons_some hd, List.filterMap_cons_some hv]
      exact .cons rv ih
theorem kwB {K : PySem.W.Frag} {name qual : Str} {params : Arguments} {body : List Stmt} {scope : Scope} {kws : List (Str × V)} {ks : List Str} {ix : List Nat} (F : FunD K name qual params body scope [] kws f fd)
    (h : ∀ (kV doc pm : Value) (an : Option Addr) (cdv ct : Value) (us ws : List Value), us.length = n → ws.length = ks.length → bindArgs (PySem.W.fnOf name qual params body scope .none kV doc pm an cdv ct) ⟨us, ks.zip ws⟩ = pure (ps.zip (pick ix us ws))) : KwB K fd ps ks n (pick ix) := by
  obtain ⟨oc, od, dV, kV, doc, pm, an, cdv, ct, osl, rfl, lk, hcd, hD, hK⟩ := F.ex
  rcases hD with ⟨_, rfl⟩ | ⟨e, _⟩
  · exact ⟨fun s us ws _ l1 l2 => .of_eq (h kV doc pm an cdv ct us ws l1 l2), fun _ _ r r2 => pick_vals r r2 ix⟩
  · exact absurd rfl e
/-- the values of the positional and of the keyword arguments, in the parameters' order -/
def mPick (ix : List Nat) (a b : SL) : SL := fun S => (a S).bind fun r => (b r.2).map fun q => (pick ix r.1 q.1, q.2)
theorem mPick_inv {ix : List Nat} {fa fb : SL} {S S' : Sl} {ds : List D} (h : mPick ix fa fb S = some (ds, S')) : ∃ us S1 ws, fa S = some (us, S1) ∧ fb S1 = some (ws, S') ∧ ds = pick ix us ws := by
  unfold mPick at h
  cases hf : fa S with
  | none => rw [hf] at h; cases h
  | some r =>
    obtain ⟨us, S1⟩ := r
    rw [hf] at h
    simp only [Option.bind_some] at h
    cases hg : fb S1 with
    | none => rw [hg] at h; cases h
    | some q =>
      obtain ⟨ws, S2⟩ := q
      rw [hg] at h
      cases h
      exact ⟨us, S1, ws, rfl, hg, rfl⟩
variable {ms2 : List Md} {fk : SL} {ix : List Nat} {kws : List Keyword} {ks : List Str}
theorem callK_tr {n1 : Nat} (hms : ms.all (· == .fz) = true) (hms2 : ms2.all (· == .fz) = true) (hl1 : ms.length = n1) (hl2 : ms2.length = ks.length) (hn : ∀ ds es : List D, ds.length = n1 → es.length = ks.length → (pick ix ds es).length = n)
    (h : tE c (w1 ++ w2) .fz (mCall0 g (mPick ix fl fk)) σ H Q) : tA c w1 ms fl σ H fun vs H1 => tA c w2 ms2 fk σ H1 fun zs H2 => vs.length = n1 ∧ zs.length = ks.length ∧ spF n [] nw g (pick ix vs zs) H2 Q := by
  obtain ⟨fp, S, R, z, S', e, q⟩ := h
  obtain ⟨ds, Sa, e1, e2⟩ := mCall0_inv e
  obtain ⟨us, S1, ws, e3, e4, rfl⟩ := mPick_inv e1
  refine ⟨fp, S, R, us, S1, e3, fun vs H1 fp1 R1 C1 rv => ⟨fp1, S1, R1, ws, S', e4, fun zs H2 fp2 R2 C2 rz => ⟨by rw [rv.length.1, ← rv.length.2, hl1], by rw [rz.length.1, ← rz.length.2, hl2], ?_⟩⟩⟩
  have r1 : RpAll H2 (Bd c fp2) vs us := RpAll.chg R1 C2 (rv.fz (all_fz hms))
  have r2 : RpAll H2 (Bd c fp2) zs ws := rz.fz (all_fz hms2)
  have rp := pick_rp r1 r2 ix
  refine ⟨by rw [rp.length]; exact hn us ws (by rw [← rv.length.2, hl1]) (by rw [← rz.length.2, hl2]), Bd c fp2, fun _ => [], (pick ix us ws).map some, rel_args R2 rp, z, Sa, e2, fun v H3 fp3 C3 rc => ?_⟩
  have same := C3.all.1
  have C4 := (C1.trans C2).trans (Chg.ext (c := c) (fp := fp2) same)
  rw [List.append_nil] at C4
  exact q v H3 fp2 (R2.ext same) C4 (rc.rp.1.less fun a z => .inl z)
theorem se_callK {n1 : Nat} (G : FnG X.prog X.w X.K X.mg X.base k f fd ps (spF n [] nw g)) (hr : Room k X.A) (hgd : X.A.guards = some []) (hg : Gl X x) (hm : X.mg x = some (.ref f)) (hk : PySem.W.keepIn X.K (.ref f) = true) (hb : KwB X.K fd ps ks n1 (pick ix))
    (hms : ms.all (· == .fz) = true) (hms2 : ms2.all (· == .fz) = true) (hl1 : ms.length = n1) (hl2 : ms2.length = ks.length) (hn : ∀ ds es : List D, ds.length = n1 → es.length = ks.length → (pick ix ds es).length = n)
    (ha : SA c X (e :: es) w1 ms fl) (hkw : SKw c X kws w2 ms2 fk) (hall : (backToKw pos (keywordEach kws X.env)).all (·.1.isSome) = true) (hks : (backToKw pos (keywordEach kws X.env)).filterMap (·.1) = ks)
    (hdb : (x == ("__debug__" : Str)) = false) (he : starEach (e :: es) X.env = (false, eval e X.env) :: starEach es X.env) (hpl : ((backTo pos (starEach (e :: es) X.env)).any (·.1) || (backToKw pos (keywordEach kws X.env)).any (·.1.isNone)) = false) :
    SE c X (.Call (.Name x p) (e :: es) kws pos) (w1 ++ w2) .fz (mCall0 g (mPick ix fl fk)) :=
  peImp (pe_callGK G hr hgd hg hm hk hb ha hkw hall hks hdb he hpl) fun _ _ _ h => callK_tr hms hms2 hl1 hl2 hn h
theorem se_callK0 (G : FnG X.prog X.w X.K X.mg X.base k f fd ps (spF n [] nw g)) (hr : Room k X.A) (hgd : X.A.guards = some []) (hg : Gl X x) (hm : X.mg x = some (.ref f)) (hk : PySem.W.keepIn X.K (.ref f) = true) (hb : KwB X.K fd ps ks 0 (pick ix))
    (hms2 : ms2.all (· == .fz) = true) (hl2 : ms2.length = ks.length) (hn : ∀ ds es : List D, ds.length = 0 → es.length = ks.length → (pick ix ds es).length = n)
    (hkw : SKw c X kws w2 ms2 fk) (hall : (backToKw pos (keywordEach kws X.env)).all (·.1.isSome) = true) (hks : (backToKw pos (keywordEach kws X.env)).filterMap (·.1) = ks)
    (hdb : (x == ("__debug__" : Str)) = false) (hpl : ((backTo pos (starEach [] X.env)).any (·.1) || (backToKw pos (keywordEach kws X.env)).any (·.1.isNone)) = false) :
    SE c X (.Call (.Name x p) [] kws pos) w2 .fz (mCall0 g (mPick ix mNil fk)) :=
  peImp (pe_callGK0 G hr hgd hg hm hk hb hkw hall hks hdb hpl) fun σ H Q h => by
    have h2 : tA c [] [] mNil σ H _ := callK_tr (ms := []) (n1 := 0) (nw := nw) (w1 := []) rfl hms2 rfl hl2 hn h
    obtain ⟨fp, S, R, ds, S', e, q⟩ := h2
    cases e
    obtain ⟨fp2, S2, R2, ds2, S3, e2, q2⟩ := q [] H fp R .refl trivial
    exact ⟨fp2, S2, R2, ds2, S3, e2, fun vs H' fp' R' C r => (q2 vs H' fp' R' C r).2⟩
end
end FV
end
section
set_option Elab.async false
set_option linter.all false
set_option maxRecDepth 100000
set_option maxHeartbeats 4000000
/-! A law's end, over trees. -/
namespace FV
open PySem PySem.Spec PyProof.Rows L2
/-- the written part without one address -/
def cutK (K : PySem.W.Frag) (a : Addr) : PySem.W.Frag := K.filter fun z => z.1 != a
theorem cutK_same {K : PySem.W.Frag} {a : Addr} : (cutK K a).lookup a = none := by
  unfold cutK
  induction K with
  | nil => rfl
  | cons z K ih =>
    rw [List.filter_cons]
    split
    · rename_i h
      obtain ⟨b, o⟩ := z
      have hb : (a == b) = false := by
        have : (b != a) = true := h
        rw [bne_iff_ne] at this
        exact beq_eq_false_iff_ne.mpr (Ne.symm this)
      rw [List.lookup_cons, hb]
      exact ih
    · exact ih
theorem cutK_ne {K : PySem.W.Frag} {a b : Addr} (h : b ≠ a) : (cutK K a).lookup b = K.lookup b := by
  unfold cutK
  induction K with
  | nil => rfl
  | cons z K ih =>
    obtain ⟨x, o⟩ := z
    rw [List.filter_cons]
    split
    · rw [List.lookup_cons, List.lookup_cons, ih]
    · rename_i hx
      have e : x = a := by
        have : ¬ (x != a) = true := hx
        simpa using this
      rw [List.lookup_cons, ih]
      have : (b == x) = false := beq_eq_false_iff_ne.mpr (by rw [e]; exact h)
      rw [this]
theorem cutK_in {K : PySem.W.Frag} {a : Addr} {h : Heap} (X : K.In h) : (cutK K a).In h := fun b o e => by
  by_cases hb : b = a
  · rw [hb, cutK_same] at e; cases e
  · rw [cutK_ne hb] at e; exact X b o e
theorem funD_cut {K : PySem.W.Frag} {a : Addr} {h : Heap} {x qual : Str} {params : Arguments} {body : List Stmt} {scope : Scope} {f : Addr} {fd : FuncData} {vs : Array Value} (X : K.In h) (ha : h.get? a = some { cls := .type "list", data := .seq vs }) (F : FunD K x qual params body scope [] [] f fd) :
    FunD (cutK K a) x qual params body scope [] [] f fd := by
  obtain ⟨oc, od, dV, kV, doc, pm, an, cd, ct, osl, e, lk, hcd, hD, hK⟩ := F.ex
  have hf : f ≠ a := fun z => by
    have := X f _ lk
    rw [z, ha] at this
    cases this
  have lk' : (cutK K a).lookup f = some ⟨oc, od, .func fd, osl⟩ := by rw [cutK_ne hf]; exact lk
  refine ⟨⟨oc, od, dV, kV, doc, pm, an, cd, ct, osl, e, lk', ?_, ?_, .inl rfl⟩, ?_⟩
  · unfold PySem.W.codeIn at hcd ⊢
    cases cd with
    | ref c =>
      dsimp only at hcd ⊢
      have hc : c ≠ a := fun z => by
        subst z
        cases hl : K.lookup c with
        | none => rw [hl] at hcd; cases hcd
        | some o =>
          have := X c o hl
          rw [ha] at this
          cases this
          rw [hl] at hcd
          cases hcd
      rw [cutK_ne hc]
      exact hcd
    | _ => cases hcd
  · rcases hD with ⟨h1, h2⟩ | ⟨h1, h2⟩
    · exact .inl ⟨h1, h2⟩
    · exact absurd rfl h1
  · show PySem.W.keepIn (cutK K a) (.ref f) = true
    unfold PySem.W.keepIn
    dsimp only
    rw [lk']
/-- the heap that holds the script alone -/
def onlyH (a : Addr) (o : Obj) (xs : List V) : Hp := fun b => if b = a then some (.frz o (.lst xs)) else none
theorem law_end {P : Program} {w : World} {K : PySem.W.Frag} {mg mb : Str → Option Value} {k : Nat} {fa a : Addr} {fd : FuncData} {x : Str} {g : SM} {S' : Sl} {s1 : Shared} {vs : List Value} {ns : List Int}
    (KX : K.In s1.heap) (hns : s1.heap.Ns mainGlobals mg) (hbn : s1.heap.Ns builtinsNs mb) (hbb : ∀ x : Str, x ≠ "__name__" → mb x = bootBuiltins x) (hlim : s1.heap.NoLimit) (hgens : s1.gens = #[])
    (ha : s1.heap.get? a = some { cls := .type "list", data := .seq vs.toArray }) (hi : IntsAre vs ns) (hl : ns.length ≤ sizeLine) (hr : Room k callerA) (hKa : K.lookup a = none)
    (G : ∀ base : Heap, K.In base → base.Ns mainGlobals mg → FnG P w K mg base k fa fd [x] (spF 1 [] false g)) (hbind : ∀ (s : Shared) (u : Value), BindsTo s fd ⟨[u], []⟩ [(x, u)])
    (hs : g [some (.list (ns.map PyData.int))] = some (.bool true, S')) :
    codeAny (model P w) callerA (.call (.ref fa) ⟨[.ref a], []⟩) (fun r s' => r = .ok (.ret (.bool true)) ∧ OldK s1.heap s'.heap ∧ s'.os = s1.os ∧ AllBare s'.gens) s1 := by
  have rv : Vals (ns.map V.int) vs := vals_ints hi
  generalize hob : ({ cls := .type "list", data := .seq vs.toArray } : Obj) = ob at ha
  have eH : onlyH a ob (ns.map V.int) a = some (.frz ob (.lst (ns.map V.int))) := if_pos rfl
  have nH : ∀ b, b ≠ a → onlyH a ob (ns.map V.int) b = none := fun b h => if_neg h
  generalize hH : onlyH a ob (ns.map V.int) = H at eH nH
  have hok : HOk P w H s1.heap := fun b u e => by
    by_cases hb : b = a
    · subst hb
      rw [eH] at e
      cases e
      exact ⟨ha, by rw [List.length_map]; exact hl, vs, _, rv, by rw [ha, ← hob]⟩
    · rw [nH b hb] at e; cases e
  have keepB : ∀ {b : Addr} {o : Obj}, s1.heap.get? b = some o → b ≠ a → (hidT s1.heap H).get? b = some o := fun e n => hidT_get e (nH _ n)
  have notA : ∀ {b : Addr} {o : Obj} {es : Array DictEntry} {ep : Nat}, s1.heap.get? b = some o → o.data = .dict es ep → b ≠ a := fun {b o es ep} e d z => by
    subst z
    rw [ha] at e
    cases e
    rw [← hob] at d
    cases d
  have moveN : ∀ {b : Addr} {m : Str → Option Value}, s1.heap.Ns b m → (hidT s1.heap H).Ns b m := fun {b m} ⟨o, es, ep, e, d, r⟩ => ⟨o, es, ep, keepB e (notA e d), d, r⟩
  have Kb : K.In (hidT s1.heap H) := fun b o e => keepB (KX b o e) fun z => by rw [z, hKa] at e; cases e
  have M : Mod K mg (hidT s1.heap H) := ⟨Kb, moveN hns, ⟨mb, moveN hbn, hbb⟩, let ⟨mc, h1, h2⟩ := hlim; ⟨mc, moveN h1, h2⟩⟩
  have e0 : Env0 P w K mg (hidT s1.heap H) callerA [] s1 H := ⟨rfl, M, fun b o e => of_hidT e, Nat.le_of_eq (hidT_size _ _), trivial, (fun b hb => by cases hb), hok, .of_eq hgens⟩
  have sp : spF 1 [] false g [V.ref a] H fun v _ => v = V.bl true := by
    refine ⟨rfl, fun _ => False, fun _ => [], [some (.list (ns.map PyData.int))], ⟨rfl, (fun i hi => nomatch hi), fun i _ d e => ?_, (fun i hi => nomatch hi), (fun i hi => nomatch hi), (fun i hi => nomatch hi), fun b z => ?_, (fun i hi => nomatch hi), (fun i hi => nomatch hi)⟩, _, S', hs, fun v H' fp' _ r => r.rp.1.blV⟩
    · cases i with
      | zero =>
        have e' : PyData.list (ns.map PyData.int) = d := by simpa [gt] using e
        subst e'
        exact ⟨.ref a, rfl, .frz eH (RpAll.ints ns)⟩
      | succ i => simp [gt] at e
    · rcases z with z | ⟨i, hi, z⟩
      · exact z.elim
      · cases hi
  refine codeAny_mono ((G _ Kb (moveN hns)).run callerA [] s1 H ⟨[.ref a], []⟩ [.ref a] [V.ref a] _ hr rfl e0 (hbind s1 (.ref a)) (.cons rfl .nil) sp) fun r s' h => ?_
  cases r with
  | error e => exact (h : False).elim
  | ok fl =>
    cases fl with
    | next => exact (h : False).elim
    | brk => exact (h : False).elim
    | cont => exact (h : False).elim
    | ret u =>
      obtain ⟨v, H', os, bare, un, hok', ru, q⟩ := h
      have q' : v = V.bl true := q
      subst q'
      obtain rfl : u = Value.bool true := ru
      refine ⟨rfl, OldK.of_keep fun b o e => ?_, os, bare⟩
      by_cases hb : b = a
      · subst hb
        have e2 := un.frzs b ob _ eH
        obtain ⟨e3, _⟩ := hok' b _ e2
        rw [ha] at e
        cases e
        exact e3
      · exact un.keep b o e (nH b hb) (by intro z; cases z) (by simp)
/-- a law over a head by facts -/
theorem law_walk {l : PySem.W.OpenLaw} {n k : Nat} {q : Program} {loose : List Str} {XP : (Str → Option Value) → Heap → Prop} {YP : World → Heap → Prop} {d : DefRec} {x : Str}
    (hn : l.most = some n) (hn2 : n ≤ sizeLine) (hdf : d.params.defaults = []) (hr : Room k callerA)
    (F : ∀ (w : World) (mg : Str → Option Value) (fa : Addr) (h : Heap) (a : Addr) (vs : Array Value), YP w h → h.Ns mainGlobals mg → mg d.name = some (.ref fa) → h.get? a = some { cls := .type "list", data := .seq vs } →
      ∃ (K : PySem.W.Frag) (fd : FuncData) (g : SM), K.In h ∧ K.lookup a = none ∧ (∀ (s : Shared) (u : Value), BindsTo s fd ⟨[u], []⟩ [(x, u)]) ∧
        (∀ base : Heap, K.In base → base.Ns mainGlobals mg → FnG l.prog w K mg base k fa fd [x] (spF 1 [] false g)) ∧ ∀ ns : List Int, ns.length ≤ n → ∃ S', g [some (.list (ns.map PyData.int))] = some (.bool true, S')) :
    PySem.W.WalkO q loose XP YP l.row.toRowW d [] (fun f vs => PySem.call f vs) := by
  refine Att.attach_call hn hdf fun w s0 s1 mg mb fa o pm cd doc a vs ns G Y ho hd hcd hmg hobj hints hlen hgens => ?_
  obtain ⟨K, fd, g, KX, hKa, hb, hF, hs⟩ := F w mg fa _ a vs.toArray Y G.T.g hmg hobj
  obtain ⟨S', hs⟩ := hs ns hlen
  exact law_end KX G.T.g G.T.b G.T.builtins G.T.nolimit hgens hobj hints (Nat.le_trans hlen hn2) hr hKa hF hb hs
end FV
end
section
set_option Elab.async false
set_option linter.all false
set_option maxRecDepth 100000
set_option maxHeartbeats 4000000
/-! Dicts of one's own. -/
namespace FV
open PySem PySem.Spec PyProof.Rows L2
/-! ### keys -/
def keyOf1 : D → Option L2.Key
  | .int i => some (.inl i)
  | .str x => some (.inr x)
  | _ => none
theorem keyOf1_of {d : D} {k : L2.Key} (h : keyOf1 d = some k) : d = keyD1 k := by
  cases d with
  | int i => cases h; rfl
  | str x => cases h; rfl
  | _ => cases h
theorem keyOf1_keyD1 (k : L2.Key) : keyOf1 (keyD1 k) = some k := by cases k <;> rfl
def keysOf : List D → Option (List L2.Key)
  | [] => some []
  | d :: ds => (keyOf1 d).bind fun k => (keysOf ds).map fun ks => k :: ks
def keyOf : D → Option (List L2.Key)
  | .tuple ds => keysOf ds
  | _ => none
theorem keysOf_of : ∀ {ds : List D} {k : List L2.Key}, keysOf ds = some k → ds = k.map keyD1
  | [], k, h => by cases h; rfl
  | d :: ds, k, h => by
    unfold keysOf at h
    cases h1 : keyOf1 d with
    | none => rw [h1] at h; cases h
    | some a =>
      rw [h1] at h
      simp only [Option.bind_some] at h
      cases h2 : keysOf ds with
      | none => rw [h2] at h; cases h
      | some ks =>
        rw [h2] at h
        cases h
        rw [List.map_cons, ← keysOf_of h2, ← keyOf1_of h1]
theorem keyOf_of {d : D} {k : List L2.Key} (h : keyOf d = some k) : d = keyD k := by
  cases d with
  | tuple ds => exact congrArg PyData.tuple (keysOf_of h)
  | _ => cases h
theorem keysOf_map : ∀ k : List L2.Key, keysOf (k.map keyD1) = some k
  | [] => rfl
  | a :: k => by
    rw [List.map_cons]
    unfold keysOf
    rw [keyOf1_keyD1, Option.bind_some, keysOf_map k]
    rfl
theorem keyOf_keyD (k : List L2.Key) : keyOf (keyD k) = some k := keysOf_map k
theorem key_rp {H : Hp} {B : Addr → Prop} : ∀ {vs : List V} {k : List L2.Key}, RpAll H B vs (k.map keyD1) → vs = k.map kV
  | _, [], .nil => rfl
  | _, a :: k, .cons r t => by
    rw [List.map_cons, key_rp t]
    cases a with
    | inl i => rw [show _ = V.int i from r.intV]; rfl
    | inr x => rw [show _ = V.str x from r.strV]; rfl
theorem key_rp' {H : Hp} {B : Addr → Prop} : ∀ k : List L2.Key, RpAll H B (k.map kV) (k.map keyD1)
  | [] => .nil
  | .inl i :: k => .cons (.int i) (key_rp' k)
  | .inr x :: k => .cons (.str x) (key_rp' k)
/-! ### the pairs -/
def putE {κ : Type} [DecidableEq κ] (ko : D → Option κ) (g : κ → D) (es : List (D × D)) (k : κ) (v : D) : List (D × D) :=
  if (es.any fun e => decide (ko e.1 = some k)) = true then es.map (fun e => if ko e.1 = some k then (e.1, v) else e) else es ++ [(g k, v)]
def getE {κ : Type} [DecidableEq κ] (ko : D → Option κ) (es : List (D × D)) (k : κ) : Option D := (es.find? fun e => decide (ko e.1 = some k)).map (·.2)
section
variable {κ : Type} [DecidableEq κ] {ko : D → Option κ} {g : κ → D} {H : Hp} {B : Addr → Prop}
theorem KvT.length {kvs : List (κ × V)} {es : List (D × D)} (r : KvT H B g kvs es) : kvs.length = es.length := Paired.length r
theorem kv_any (hk : ∀ k, ko (g k) = some k) (k : κ) : ∀ {kvs : List (κ × V)} {es : List (D × D)}, KvT H B g kvs es → (kvs.any fun p => decide (p.1 = k)) = es.any fun e => decide (ko e.1 = some k)
  | _, _, .nil => rfl
  | _, _, @Paired.cons _ _ _ p q l1 l2 r t => by
    rw [List.any_cons, List.any_cons, kv_any hk k t, r.1, hk]
    congr 1
    simp
theorem kv_map (hk : ∀ k, ko (g k) = some k) (k : κ) {v : V} {d : D} (rv : Rp H B v d) : ∀ {kvs : List (κ × V)} {es : List (D × D)}, KvT H B g kvs es →
    KvT H B g (kvs.map fun p => if p.1 = k then (p.1, v) else p) (es.map fun e => if ko e.1 = some k then (e.1, d) else e)
  | _, _, .nil => .nil
  | _, _, @Paired.cons _ _ _ p q l1 l2 r t => by
    rw [List.map_cons, List.map_cons]
    refine .cons ?_ (kv_map hk k rv t)
    rw [r.1, hk]
    by_cases h : p.1 = k
    · rw [if_pos h, if_pos (by rw [h])]
      exact ⟨rfl, rv⟩
    · rw [if_neg h, if_neg (fun z => h (Option.some.inj z))]
      exact ⟨r.1, r.2⟩
theorem kv_put (hk : ∀ k, ko (g k) = some k) (k : κ) {v : V} {d : D} {kvs : List (κ × V)} {es : List (D × D)} (r : KvT H B g kvs es) (rv : Rp H B v d) : KvT H B g (putK kvs k v) (putE ko g es k d) := by
  unfold putK putE
  rw [← kv_any hk k r]
  by_cases h : (kvs.any fun p => decide (p.1 = k)) = true
  · rw [if_pos h, if_pos h]
    exact kv_map hk k rv r
  · rw [if_neg h, if_neg h]
    exact Paired.snoc r ⟨rfl, rv⟩
theorem kv_get (hk : ∀ k, ko (g k) = some k) (k : κ) : ∀ {kvs : List (κ × V)} {es : List (D × D)}, KvT H B g kvs es → (valV kvs k = none ∧ getE ko es k = none) ∨ ∃ v d, valV kvs k = some v ∧ getE ko es k = some d ∧ Rp H B v d
  | _, _, .nil => .inl ⟨rfl, rfl⟩
  | _, _, @Paired.cons _ _ _ p q l1 l2 r t => by
    by_cases h : p.1 = k
    · refine .inr ⟨p.2, q.2, valV_pos h, ?_, r.2⟩
      unfold getE
      rw [List.find?_cons_of_pos (by rw [r.1, hk, h]; simp)]
      rfl
    · rw [valV_neg h]
      have e : getE ko (q :: l2) k = getE ko l2 k := by
        unfold getE
        rw [List.find?_cons_of_neg (by rw [r.1, hk]; simp [h])]
      rw [e]
      exact kv_get hk k t
theorem KvT.less {B' : Addr → Prop} {kvs : List (κ × V)} {es : List (D × D)} (r : KvT H B g kvs es) (h : ∀ a, B' a → B a) : KvT H B' g kvs es := r.mono (fun a xs e n => ⟨e, fun z => n (h a z)⟩) (fun a o u e => e) fun a xs e => e
end

/-! ### slots that hold a dict -/
def MutO : HO → Prop
  | .lst _ => True
  | .dT _ => True
  | .dK _ => True
  | _ => False
section
variable {c : Cf} {X : Cx} {e a b tg : Expr} {pos : Pos} {wr w1 w2 lo : List Nat} {nw : Bool} {m : Md} {f fa fb : SM} {fp fp' : Fp} {σ : Sg} {S S' : Sl} {H H' H1 : Hp} {i j : Nat} {p : Addr} {x y : Str}
theorem rp_updM {B : Addr → Prop} {v : V} {d : D} {o o' : HO} (hB : B p) (hp : H p = some o) (mo : MutO o) (r : Rp H B v d) : Rp (upd H p o') B v d :=
  r.mono (fun a xs e n => ⟨by rw [upd_ne (fun z : a = p => n (by rw [z]; exact hB))]; exact e, n⟩) (fun a o2 u e => by rw [upd_ne (ne_of e hp (fun z => by rw [← z] at mo; exact mo))]; exact e) fun a xs e => by rw [upd_ne (ne_of e hp (fun z => by rw [← z] at mo; exact mo))]; exact e
theorem Rel.setOwnT {q : Addr} {o o' : HO} {d : D} (R : Rel c fp σ S H) (ho : i ∈ c.own) (e1 : σ[i]? = some (some (.ref q))) (e2 : fp i = [q]) (e3 : H q = some o) (mo : MutO o) (mo' : MutO o') (ow : OwT (upd H q o') (Bd c fp) (.ref q) d [q]) :
    Rel c fp σ (S.set i (some d)) (upd H q o') ∧ Chg c [i] fp H fp (upd H q o') := by
  have ha : q ∈ fp i := by rw [e2]; simp
  have hB : Bd c fp q := .inr ⟨i, ho, ha⟩
  have nf : ∀ {b : Addr} {ob : Obj} {u : HO}, H b = some (.frz ob u) → b ≠ q := fun e => ne_of e e3 (fun z => by rw [← z] at mo; exact mo)
  have nt : ∀ {b : Addr} {xs : List V}, H b = some (.tup xs) → b ≠ q := fun e => ne_of e e3 (fun z => by rw [← z] at mo; exact mo)
  refine ⟨⟨by rw [List.length_set]; exact R.len, fun j hj d' e => ?_, fun j hj d' e => ?_, R.nd, R.dj, R.nf, fun b hb => ?_, R.fl, fun j hj ds e => ?_⟩, ⟨fun x o e n => ?_, fun _ _ => rfl, fun _ _ _ h => .inl h, fun x hx => ?_⟩⟩
  · rw [gt_set] at e
    by_cases h : i = j ∧ j < S.length
    · rw [if_pos h] at e
      cases e
      obtain ⟨rfl, hl⟩ := h
      refine ⟨.ref q, e1, ?_⟩
      rw [e2]
      exact ow
    · rw [if_neg h] at e
      have hij : i ≠ j := fun z => by
        subst z
        have : ¬ i < S.length := fun z => h ⟨rfl, z⟩
        rw [R.len] at this
        rw [List.getElem?_eq_none (by omega)] at e1
        cases e1
      obtain ⟨v, e4, r4⟩ := R.own j hj d' e
      exact ⟨v, e4, r4.mono (fun x zs e n => ⟨by rw [upd_ne (fun z : x = q => n (by rw [z]; exact hB))]; exact e, n⟩) (fun x ob u e => by rw [upd_ne (nf e)]; exact e) (fun x zs e => by rw [upd_ne (nt e)]; exact e) fun x hx zs e => by
        rw [upd_ne (fun z : x = q => R.dj i ho j hj hij q ha (by rw [← z]; exact hx))]
        exact e⟩
  · rw [gt_set] at e
    have hij : i ≠ j := fun z => hj (by rw [← z]; exact ho)
    rw [if_neg (fun z => hij z.1)] at e
    obtain ⟨v, e4, r4⟩ := R.frz j hj d' e
    exact ⟨v, e4, rp_updM hB e3 mo r4⟩
  · by_cases e : b = q
    · rw [e]
      cases o' with
      | lst ys => exact .inl ⟨ys, upd_same⟩
      | dT ys => exact .inr (.inr ⟨ys, upd_same⟩)
      | dK ys => exact .inr (.inl ⟨ys, upd_same⟩)
      | _ => exact False.elim mo'
    · rcases R.mt b hb with ⟨x, z⟩ | ⟨x, z⟩ | ⟨x, z⟩
      · exact .inl ⟨x, by rw [upd_ne e]; exact z⟩
      · exact .inr (.inl ⟨x, by rw [upd_ne e]; exact z⟩)
      · exact .inr (.inr ⟨x, by rw [upd_ne e]; exact z⟩)
  · by_cases h : i = j
    · rw [← h, e2]; simp
    · rw [gt_set, if_neg (fun z => h z.1)] at e
      exact R.tk j hj ds e
  · rw [upd_ne (fun z : x = q => n i ho (by simp) (by rw [z]; exact ha))]
    exact e
  · by_cases z : x = q
    · rw [z, upd_same]; simp
    · rw [upd_ne z]; exact hx
/-- the tree of a dict: t says that its keys are tuples -/
def dTr (t : Bool) (es : List (D × D)) : D := if t = true then .dict es else .tuple [.dict es]
/-- the dict of a slot -/
def DctA (H : Hp) (B : Addr → Prop) (p : Addr) : Bool → List (D × D) → Prop
  | true, es => ∃ kvs, H p = some (.dT kvs) ∧ KvT H B keyD kvs es
  | false, es => ∃ kvs, H p = some (.dK kvs) ∧ KvT H B keyD1 kvs es
variable {t : Bool}
theorem DctA.ow {B : Addr → Prop} {es : List (D × D)} (h : DctA H B p t es) : OwT H B (.ref p) (dTr t es) [p] := by
  cases t with
  | true =>
    obtain ⟨kvs, e, r⟩ := h
    exact .dT e r
  | false =>
    obtain ⟨kvs, e, r⟩ := h
    exact .dK e r
theorem DctA.less {B B' : Addr → Prop} {es : List (D × D)} (h : DctA H B p t es) (l : ∀ a, B' a → B a) : DctA H B' p t es := by
  cases t with
  | true =>
    obtain ⟨kvs, e, r⟩ := h
    exact ⟨kvs, e, r.less l⟩
  | false =>
    obtain ⟨kvs, e, r⟩ := h
    exact ⟨kvs, e, r.less l⟩
theorem Rel.ownD {es : List (D × D)} (R : Rel c fp σ S H) (ho : i ∈ c.own) (e : gt S i = some (dTr t es)) : ∃ q, σ[i]? = some (some (.ref q)) ∧ fp i = [q] ∧ DctA H (Bd c fp) q t es := by
  obtain ⟨v, e1, r⟩ := R.own i ho _ e
  generalize hA : fp i = A at r
  cases t with
  | true =>
    generalize hd : dTr true es = d at r
    cases r with
    | ow r =>
      cases hd
      cases r with
      | frz r => cases r
    | dT e2 r => cases hd; exact ⟨_, e1, rfl, _, e2, r⟩
    | dK e2 r => cases hd
  | false =>
    generalize hd : dTr false es = d at r
    cases r with
    | ow r =>
      cases hd
      cases r with
      | frz r =>
        cases r with
        | tup _ r =>
          cases r with
          | cons r _ => cases r
    | dT e2 r => cases hd
    | dK e2 r => cases hd; exact ⟨_, e1, rfl, _, e2, r⟩
structure NewD (c : Cf) (fp : Fp) (H0 H : Hp) (p : Addr) (t : Bool) (es : List (D × D)) : Prop where
  here : DctA H (Bd (c.wF (addF c.F p)) fp) p t es
  out : ¬ Bd c fp p
  fresh : H0 p = none
/-- the value is a dict that nothing else names -/
def tD (c : Cf) (wr : List Nat) (f : SM) : TE := fun σ H Q => ∃ fp S, Rel c fp σ S H ∧ ∃ d S', f S = some (d, S') ∧ ∀ p t es H' fp', d = dTr t es → Rel (c.wF (addF c.F p)) fp' σ S' H' → Chg c wr fp H fp' H' → NewD c fp' H H' p t es → Q (.ref p) H'
abbrev SD (c : Cf) (X : Cx) (e : Expr) (wr : List Nat) (f : SM) : Prop := PE X e (tD c wr f)
theorem Rel.addO {o : HO} (R : Rel c fp σ S H) (hp : H p = Option.none) (mo : MutO o) : Rel (c.wF (addF c.F p)) fp σ S (upd H p o) where
  len := R.len
  own := fun i hi d e => by
    obtain ⟨v, e1, r⟩ := R.own i hi d e
    exact ⟨v, e1, r.mono (fun a ys e n => ⟨by rw [upd_ne (ne_of_none e hp)]; exact e, fun z => by
      rcases z with (z | z) | z
      · exact n (.inl z)
      · rw [z, hp] at e; cases e
      · exact n (.inr z)⟩) (fun a o u e => by rw [upd_ne (ne_of_none e hp)]; exact e) (fun a ys e => by rw [upd_ne (ne_of_none e hp)]; exact e) fun a _ ys e => by rw [upd_ne (ne_of_none e hp)]; exact e⟩
  frz := fun i hi d e => by
    obtain ⟨v, e1, r⟩ := R.frz i hi d e
    exact ⟨v, e1, r.mono (fun a ys e n => ⟨by rw [upd_ne (ne_of_none e hp)]; exact e, fun z => by
      rcases z with (z | z) | z
      · exact n (.inl z)
      · rw [z, hp] at e; cases e
      · exact n (.inr z)⟩) (fun a o u e => by rw [upd_ne (ne_of_none e hp)]; exact e) (fun a ys e => by rw [upd_ne (ne_of_none e hp)]; exact e)⟩
  nd := R.nd
  dj := R.dj
  nf := fun i hi a ha z => by
    rcases z with z | z
    · exact R.nf i hi a ha z
    · exact R.live hi ha (by rw [z]; exact hp)
  mt := fun a ha => by
    by_cases e : a = p
    · rw [e]
      cases o with
      | lst ys => exact .inl ⟨ys, upd_same⟩
      | dT ys => exact .inr (.inr ⟨ys, upd_same⟩)
      | dK ys => exact .inr (.inl ⟨ys, upd_same⟩)
      | _ => exact False.elim mo
    · have h : Bd c fp a := by
        rcases ha with (z | z) | z
        · exact .inl z
        · exact absurd z e
        · exact .inr z
      rcases R.mt a h with ⟨x, q⟩ | ⟨x, q⟩ | ⟨x, q⟩
      · exact .inl ⟨x, by rw [upd_ne e]; exact q⟩
      · exact .inr (.inl ⟨x, by rw [upd_ne e]; exact q⟩)
      · exact .inr (.inr ⟨x, by rw [upd_ne e]; exact q⟩)
  fl := R.fl
  tk := R.tk
def mE (t : Bool) (es : List (D × D)) : SM := fun S => some (dTr t es, S)
theorem sd_emptyT : SD c X (.Dict [] [] pos) [] (mE true []) := peImp pe_dnewT fun σ H Q ⟨fp, S, R, d, S', e, q⟩ p hp => by
  cases e
  exact q p true [] _ fp rfl (R.addO hp True.intro) (Chg.refl.updN hp) ⟨⟨[], upd_same, .nil⟩, fun z => Bd.live R z hp, hp⟩
theorem sd_emptyK : SD c X (.Dict [] [] pos) [] (mE false []) := peImp pe_dnewK fun σ H Q ⟨fp, S, R, d, S', e, q⟩ p hp => by
  cases e
  exact q p false [] _ fp rfl (R.addO hp True.intro) (Chg.refl.updN hp) ⟨⟨[], upd_same, .nil⟩, fun z => Bd.live R z hp, hp⟩
theorem Rel.ownPutT {d : D} (R : Rel (c.wF (addF c.F p)) fp σ S H) (ho : i ∈ c.own) (hout : ¬ Bd c fp p) (ow : ∀ B : Addr → Prop, (∀ a, B a → Bd (c.wF (addF c.F p)) fp a) → OwT H B (.ref p) d [p]) :
    Rel c (fpS fp i [p]) (σ.set i (some (.ref p))) (S.set i (some d)) H := by
  have less : ∀ a, Bd c (fpS fp i [p]) a → Bd (c.wF (addF c.F p)) fp a := fun a z => by
    rcases z with z | ⟨k, hk, z⟩
    · exact .inl (.inl z)
    · unfold fpS at z
      by_cases e : k = i
      · rw [if_pos e] at z
        exact .inl (.inr (by simpa using z))
      · rw [if_neg e] at z
        exact .inr ⟨k, hk, z⟩
  have pn : ∀ j ∈ c.own, p ∉ fp j := fun j hj z => hout (.inr ⟨j, hj, z⟩)
  refine ⟨by rw [List.length_set, List.length_set]; exact R.len, fun j hj d' e => ?_, fun j hj d' e => ?_, fun j hj => ?_, fun j hj k hk hjk a ha => ?_, fun j hj a ha => ?_, fun b hb => R.mt b (less b hb), fun j hj => ?_, fun j hj es e => ?_⟩
  · rw [gt_set] at e
    by_cases h : i = j ∧ j < S.length
    · rw [if_pos h] at e
      cases e
      obtain ⟨rfl, hl⟩ := h
      refine ⟨.ref p, by rw [List.getElem?_set_self (by rw [← R.len]; exact hl)], ?_⟩
      have : fpS fp i [p] i = [p] := if_pos rfl
      rw [this]
      exact ow _ less
    · rw [if_neg h] at e
      obtain ⟨v, e1, r1⟩ := R.own j hj d' e
      have hij : i ≠ j := fun z => by
        subst z
        have : ¬ i < S.length := fun z => h ⟨rfl, z⟩
        rw [R.len] at this
        rw [List.getElem?_eq_none (by omega)] at e1
        cases e1
      refine ⟨v, by rw [List.getElem?_set_ne hij]; exact e1, ?_⟩
      have : fpS fp i [p] j = fp j := if_neg (Ne.symm hij)
      rw [this]
      exact r1.mono (fun a xs e n => ⟨e, fun z => n (less a z)⟩) (fun a o u e => e) (fun a xs e => e) fun a _ xs e => e
  · have hij : i ≠ j := fun z => hj (by rw [← z]; exact ho)
    rw [gt_set, if_neg (fun z => hij z.1)] at e
    obtain ⟨v, e1, r1⟩ := R.frz j hj d' e
    exact ⟨v, by rw [List.getElem?_set_ne hij]; exact e1, r1.less less⟩
  · unfold fpS
    by_cases e : j = i
    · rw [if_pos e]; simp
    · rw [if_neg e]; exact R.nd j hj
  · unfold fpS at ha ⊢
    by_cases e : j = i
    · rw [if_pos e] at ha
      have ha' : a = p := by simpa using ha
      rw [if_neg (fun z => hjk (e.trans z.symm)), ha']
      exact pn k hk
    · rw [if_neg e] at ha
      by_cases e2 : k = i
      · rw [if_pos e2]
        intro z
        have z' : a = p := by simpa using z
        exact pn j hj (by rw [← z']; exact ha)
      · rw [if_neg e2]
        exact R.dj j hj k hk hjk a ha
  · unfold fpS at ha
    by_cases e : j = i
    · rw [if_pos e] at ha
      have ha' : a = p := by simpa using ha
      rw [ha']
      exact fun z => hout (.inl z)
    · rw [if_neg e] at ha
      exact fun z => R.nf j hj a ha (.inl z)
  · unfold fpS
    by_cases e : j = i
    · rw [if_pos e]; simp
    · rw [if_neg e]; exact R.fl j hj
  · unfold fpS
    by_cases e2 : j = i
    · rw [if_pos e2]; simp
    · rw [if_neg e2]
      rw [gt_set, if_neg (fun z => e2 z.1.symm)] at e
      exact R.tk j hj es e
theorem ss_setD {pos' : Pos} (hN : X.N.Nodup) (hi : X.N[i]? = some x) (hx : Loc X.env.scope x) (hf : X.fn x = true ∨ X.env.scope.names.lookup x = some .local) (ho : i ∈ c.own) (h : SD c X e wr f) (hs : swapsWith e (some (.Name x pos')) pos.line X.env = pure false) :
    SS c X (.Assign [.Name x pos'] e pos) (wr ++ [i]) [i] lo nw (cSet i f) := psImp (ps_set hN hi hx h hs hf) fun D σ H ⟨fp, S, R, r, S', e, q⟩ => by
  unfold cSet at e
  cases hf : f S with
  | none => rw [hf] at e; cases e
  | some x =>
    obtain ⟨d, S1⟩ := x
    rw [hf] at e
    cases e
    refine ⟨fp, S, R, d, S1, hf, fun p t es H' fp' ed R' C n => ?_⟩
    subst ed
    refine q _ H' (fpS fp' i [p]) (R'.ownPutT ho n.out fun B hB => (n.here.less hB).ow) (C.ownPut n.fresh) (by simp) fun j hj => ?_
    rw [List.getElem?_set_ne (fun z => hj (by simp [z]))]
/-- the dict of a slot, by its tree -/
def dctOf : Option D → Option (Bool × List (D × D))
  | some (.dict es) => some (true, es)
  | some (.tuple [.dict es]) => some (false, es)
  | _ => none
theorem dctOf_of {o : Option D} {es : List (D × D)} (h : dctOf o = some (t, es)) : o = some (dTr t es) := by
  unfold dctOf at h
  split at h
  · cases h; rfl
  · cases h; rfl
  · cases h
/-- d[k] = v -/
def putD (t : Bool) (es : List (D × D)) (k v : D) : Option (List (D × D)) :=
  if es.length < sizeLine then
    if t = true then (keyOf k).map fun ks => putE keyOf keyD es ks v else (keyOf1 k).map fun k1 => putE keyOf1 keyD1 es k1 v
  else none
def cDPut (i : Nat) (fv fk : SM) : CM := fun S => (fv S).bind fun r => (dctOf (gt r.2 i)).bind fun _ => (fk r.2).bind fun k => (dctOf (gt k.2 i)).bind fun z => (putD z.1 z.2 k.1 r.1).map fun es' => (.nx, k.2.set i (some (dTr z.1 es')))
theorem dput_ok {es es' : List (D × D)} {q : Addr} {kv v : V} {kd d : D} (R : Rel c fp σ S H) (ho : i ∈ c.own) (e1 : σ[i]? = some (some (.ref q))) (e2 : fp i = [q]) (h : DctA H (Bd c fp) q t es) (rk : Rp H (Bd c fp) kv kd) (rv : Rp H (Bd c fp) v d) (hp : putD t es kd d = some es') :
    ∃ H', DPut H q kv v H' ∧ Rel c fp σ (S.set i (some (dTr t es'))) H' ∧ Chg c [i] fp H fp H' := by
  have hB : Bd c fp q := .inr ⟨i, ho, by rw [e2]; simp⟩
  unfold putD at hp
  split at hp
  · rename_i hz
    cases t with
    | true =>
      rw [if_pos rfl] at hp
      obtain ⟨kvs, e3, r⟩ := h
      cases hk : keyOf kd with
      | none => rw [hk] at hp; cases hp
      | some ks =>
        rw [hk] at hp
        cases hp
        rw [keyOf_of hk] at rk
        obtain ⟨b, xs, rfl, eb, rb⟩ := rk.tuple
        have exs := key_rp rb
        subst exs
        refine ⟨_, DPut.t e3 eb (by rw [r.length]; exact hz), R.setOwnT ho e1 e2 e3 True.intro True.intro (.dT upd_same ?_)⟩
        exact (kv_put keyOf_keyD ks r rv).mono (fun a xs e n => ⟨by rw [upd_ne (fun z : a = q => n (by rw [z]; exact hB))]; exact e, n⟩) (fun a o2 u e => by rw [upd_ne (ne_of e e3 (fun z => nomatch z))]; exact e) fun a xs e => by rw [upd_ne (ne_of e e3 (fun z => nomatch z))]; exact e
    | false =>
      rw [if_neg Bool.false_ne_true] at hp
      obtain ⟨kvs, e3, r⟩ := h
      cases hk : keyOf1 kd with
      | none => rw [hk] at hp; cases hp
      | some ks =>
        rw [hk] at hp
        cases hp
        have ekv : kv = kV ks := by
          rw [keyOf1_of hk] at rk
          cases ks with
          | inl n => exact rk.intV
          | inr n => exact rk.strV
        subst ekv
        refine ⟨_, DPut.k e3 (by rw [r.length]; exact hz), R.setOwnT ho e1 e2 e3 True.intro True.intro (.dK upd_same ?_)⟩
        exact (kv_put keyOf1_keyD1 ks r rv).mono (fun a xs e n => ⟨by rw [upd_ne (fun z : a = q => n (by rw [z]; exact hB))]; exact e, n⟩) (fun a o2 u e => by rw [upd_ne (ne_of e e3 (fun z => nomatch z))]; exact e) fun a xs e => by rw [upd_ne (ne_of e e3 (fun z => nomatch z))]; exact e
  · cases hp
theorem ss_dput {k : Expr} {fk : SM} {spos pos' : Pos} (hu : X.A.units + 1 < cLine) (hi : X.N[i]? = some x) (hv : Vis X.env.scope x) (hd : (x == ("__debug__" : Str)) = false) (hcd : (x == ("__classdict__" : Str)) = false) (ho : i ∈ c.own) (h : SE c X e w1 .fz f) (hk : SE c X k w2 .fz fk)
    (hs : swapsWith e (some (.Subscript (.Name x pos') k spos)) pos.line X.env = pure false) : SS c X (.Assign [.Subscript (.Name x pos') k spos] e pos) (w1 ++ (w2 ++ [i])) [] lo nw (cDPut i f fk) :=
  psImp (ps_dput hu (pe_var hi hv hd hcd) hk h hs) fun D σ H ⟨fp, S, R, r, S', e1, q⟩ => by
    unfold cDPut at e1
    cases hf : f S with
    | none => rw [hf] at e1; cases e1
    | some y =>
      obtain ⟨d2, S1⟩ := y
      rw [hf] at e1
      simp only [Option.bind_some] at e1
      cases hd1 : dctOf (gt S1 i) with
      | none => rw [hd1] at e1; cases e1
      | some z1 =>
        obtain ⟨t1, es1⟩ := z1
        rw [hd1] at e1
        simp only [Option.bind_some] at e1
        cases hf2 : fk S1 with
        | none => rw [hf2] at e1; cases e1
        | some y2 =>
          obtain ⟨kd, S2⟩ := y2
          rw [hf2] at e1
          simp only [Option.bind_some] at e1
          cases hd2 : dctOf (gt S2 i) with
          | none => rw [hd2] at e1; cases e1
          | some z2 =>
            obtain ⟨t2, es2⟩ := z2
            rw [hd2] at e1
            simp only [Option.bind_some] at e1
            cases hp : putD t2 es2 kd d2 with
            | none => rw [hp] at e1; cases e1
            | some es' =>
              rw [hp] at e1
              cases e1
              refine ⟨fp, S, R, d2, S1, hf, fun v H1 fp1 R1 C1 r1 => ?_⟩
              obtain ⟨q1, e2, e3, _⟩ := R1.ownD ho (dctOf_of hd1)
              refine ⟨.ref q1, e2, fp1, S1, R1, kd, S2, hf2, fun u H2 fp2 R2 C2 r2 => ?_⟩
              obtain ⟨q2, e2', e3', h2⟩ := R2.ownD ho (dctOf_of hd2)
              have eq : q2 = q1 := by rw [e2] at e2'; cases e2'; rfl
              subst eq
              obtain ⟨H3, dp, R3, C3⟩ := dput_ok R2 ho e2' e3' h2 r2 (Rp.chg R1 C2 r1) hp
              exact ⟨q2, H3, rfl, dp, q σ H3 fp2 R3 (C1.trans (C2.trans C3)) rfl fun _ _ => rfl⟩
end
end FV
end
section
set_option Elab.async false
set_option linter.all false
set_option maxRecDepth 100000
set_option maxHeartbeats 4000000
/-! More of dicts of one's own. -/
namespace FV
open PySem PySem.Spec PyProof.Rows L2
/-- {k: v} of one tuple -/
def tDisp1T (tk tv : TE) : TE := fun σ H Q => ∀ p, H p = none → tPairs [(tk, tv)] σ (upd H p (.dT [])) fun ps H2 => H2 p = some (.dT []) ∧ ∃ ks b v, ps = [(.ref b, v)] ∧ H2 b = some (.tup (ks.map kV)) ∧ Q (.ref p) (upd H2 p (.dT [(ks, v)]))
theorem pe_disp1T {X : Cx} {pos : Pos} {k v : Expr} {tk tv : TE} (hu : X.A.units + 1 < cLine) (hk : PE X k tk) (hv : PE X v tv) : PE X (.Dict [some k] [v] pos) (tDisp1T tk tv) := ⟨fun pins s σ H Q I q => by
  have hn := I.hok.fresh (Nat.le_refl s.heap.objs.size)
  have I1 := I.laid (a := s.heap.objs.size) (o := .dT []) (h' := s.heap.push { cls := .type "dict", data := .dict #[] }) (t' := s.toks) (fun _ _ q => Heap.get?_push_of_some _ q) (Nat.le_refl _) (dt_empty s.heap I.big)
  refine wpAny_Dict_any rfl rfl (by simp) (by simp) (thn ((pps_cons hk hv pps_nil).run pins _ σ _ _ I1 (q _ hn)) fun ws s2 ⟨ps, H2, I2, rel, e, ks, b, v, ep, eb, q2⟩ => ?_)
  subst ep
  cases rel with
  | @cons _ w2 _ l2 r1 rr =>
    cases rr
    obtain ⟨wk, wv⟩ := w2
    obtain ⟨rk, rv⟩ := r1
    cases (show wk = Value.ref b from rk)
    obtain ⟨z, hd, xs0, r0, dd⟩ := dt_of I2.hok e
    cases r0
    unfold storeAll
    refine wpAny_storeAllH (knd := tupleKind (mixKind X.prog X.w)) (show X.A.units < cLine by omega) _ [(ks, b, wv)] [] s2 _ ⟨rfl, rfl, key_of I2.hok eb, True.intro⟩ dd (by simp [sizeLine_eq]) fun h' tk' dd' hs => ?_
    obtain ⟨o, es, ep, ho, h2, h3, h4, _, h5⟩ := dd'
    refine ⟨.ref s.heap.objs.size, _, d_write (ob := .dT [(ks, v)]) I2 (by rw [e]; exact True.intro) hs ⟨o, ho⟩ ⟨by simp [sizeLine_eq], hd, [(ks, b, wv)], .cons ⟨rfl, ?_, rv⟩ .nil, o, es, ep, ho, h2, h3, h4, h5⟩, rfl, q2⟩
    show upd H2 _ _ b = _
    rw [upd_ne (ne_of eb e (fun z => nomatch z))]
    exact eb⟩
section
variable {c : Cf} {X : Cx} {e a b tg : Expr} {pos p2 : Pos} {wr w1 w2 lo : List Nat} {nw : Bool} {m : Md} {f fa fb : SM} {fp fp' : Fp} {σ : Sg} {S S' : Sl} {H H' H1 : Hp} {i j : Nat} {p : Addr} {x y : Str} {t : Bool}
def mDisp1 (fk fv : SM) : SM := fun S => (fk S).bind fun r => (fv r.2).bind fun q => (keyOf r.1).map fun _ => (.dict [(r.1, q.1)], q.2)
theorem sd_disp1 {k v : Expr} {fk fv : SM} (hu : X.A.units + 1 < cLine) (hk : ∀ F, SE (c.wF F) X k w1 .fz fk) (hv : ∀ F, SE (c.wF F) X v w2 .fz fv) : SD c X (.Dict [some k] [v] pos) (w1 ++ w2) (mDisp1 fk fv) :=
  peImp (pe_disp1T hu (tk := fun σ H Q => ∃ F, tE (c.wF F) w1 .fz fk σ H Q) (tv := fun σ H Q => ∃ F, tE (c.wF F) w2 .fz fv σ H Q) ⟨fun pins s σ H Q I ⟨F, q⟩ => (hk F).run pins s σ H Q I q⟩ ⟨fun pins s σ H Q I ⟨F, q⟩ => (hv F).run pins s σ H Q I q⟩)
    fun σ H Q ⟨fp, S, R, d, S', e1, q⟩ p hp => by
      unfold mDisp1 at e1
      cases hf : fk S with
      | none => rw [hf] at e1; cases e1
      | some r =>
        obtain ⟨kd, S1⟩ := r
        rw [hf] at e1
        simp only [Option.bind_some] at e1
        cases hf2 : fv S1 with
        | none => rw [hf2] at e1; cases e1
        | some r2 =>
          obtain ⟨vd, S2⟩ := r2
          rw [hf2] at e1
          simp only [Option.bind_some] at e1
          cases hk0 : keyOf kd with
          | none => rw [hk0] at e1; cases e1
          | some ks =>
            rw [hk0] at e1
            cases e1
            have R0 := R.addO (p := p) (o := .dT []) hp True.intro
            refine ⟨addF c.F p, fp, S, R0, kd, S1, hf, fun kv H1 fp1 R1 C1 rk => ⟨addF c.F p, fp1, S1, R1, vd, _, hf2, fun vv H2 fp2 R2 C2 rv => ?_⟩⟩
            have Ct := C1.trans C2
            have keep : H2 p = some (.dT []) := Ct.keep p _ upd_same fun j hj _ z => R.live hj z hp
            have rk2 := Rp.chg R1 C2 rk
            have ek := keyOf_of hk0
            subst ek
            obtain ⟨b, xs, rfl, eb, rb⟩ := rk2.tuple
            have exs := key_rp rb
            subst exs
            have hF : addF c.F p p := .inr rfl
            have rel3 : Rel (c.wF (addF c.F p)) fp2 σ S' (upd H2 p (.dT [(ks, vv)])) := by
              refine ⟨R2.len, fun i hi d e => ?_, fun i hi d e => ?_, R2.nd, R2.dj, R2.nf, fun a ha => ?_, R2.fl, R2.tk⟩
              · obtain ⟨v, e1, r⟩ := R2.own i hi d e
                exact ⟨v, e1, r.mono (fun a zs e n => ⟨by rw [upd_ne (fun z : a = p => n (by rw [z]; exact .inl hF))]; exact e, n⟩) (fun a o u e => by rw [upd_ne (ne_of e keep (fun z => nomatch z))]; exact e) (fun a zs e => by rw [upd_ne (ne_of e keep (fun z => nomatch z))]; exact e) fun a ha zs e => by
                  rw [upd_ne (fun z : a = p => R2.nf i hi a ha (by rw [z]; exact hF))]
                  exact e⟩
              · obtain ⟨v, e1, r⟩ := R2.frz i hi d e
                exact ⟨v, e1, rp_updM (.inl hF) keep True.intro r⟩
              · by_cases e : a = p
                · rw [e]; exact .inr (.inr ⟨_, upd_same⟩)
                · rcases R2.mt a ha with ⟨x, q⟩ | ⟨x, q⟩ | ⟨x, q⟩
                  · exact .inl ⟨x, by rw [upd_ne e]; exact q⟩
                  · exact .inr (.inl ⟨x, by rw [upd_ne e]; exact q⟩)
                  · exact .inr (.inr ⟨x, by rw [upd_ne e]; exact q⟩)
            have C3 : Chg c (w1 ++ w2) fp H fp2 (upd H2 p (.dT [(ks, vv)])) := by
              have := (((Chg.refl (c := c) (fp := fp) (H := H)).updN (o := .dT []) hp).trans Ct.unF).updN (p := p) (o := .dT [(ks, vv)]) hp
              exact this
            refine ⟨keep, ks, b, vv, rfl, eb, q p true [(keyD ks, vd)] _ fp2 rfl rel3 C3 ⟨⟨_, upd_same, .cons ⟨rfl, rp_updM (.inl hF) keep True.intro rv⟩ .nil⟩, fun z => ?_, hp⟩⟩
            rcases z with z | ⟨i, hi, z⟩
            · exact Bd.live R (.inl z) hp
            · exact R2.nf i hi p z hF
/-- list(d) of one's own dict with tuple keys -/
def mKeys (i : Nat) : SM := fun S => match gt S i with
  | some (.dict es) => some (.list (es.map (·.1)), S)
  | _ => none
theorem keys_rp {B : Addr → Prop} : ∀ {kvs : List (List L2.Key × V)} {es : List (D × D)} {bs : List Addr}, KvT H B keyD kvs es → IsKeys H kvs bs → RpAll H B (bs.map V.ref) (es.map (·.1))
  | _, _, _, .nil, .nil => .nil
  | _, _, _, .cons r t, .cons k u => by
    rw [List.map_cons, List.map_cons, r.1]
    exact .cons (.tup k (key_rp' _)) (keys_rp t u)
theorem sn_keys (hc : X.calm = true) (hN : X.N[i]? = some x) (hv : Vis X.env.scope x) (hd : (x == ("__debug__" : Str)) = false) (hcd : (x == ("__classdict__" : Str)) = false) (ho : i ∈ c.own) (hg : Gl X "list") (hm : X.mg "list" = none)
    (hs : starEach [.Name x p2] X.env = (false, eval (.Name x p2) X.env) :: starEach [] X.env) (hpl : (backTo pos (starEach [] X.env)).any (·.1) = false) {p3 : Pos} : SN c X (.Call (.Name "list" p3) [.Name x p2] [] pos) [] (mKeys i) :=
  peImp (pe_callTy (call_list_dT hc) hg hm rfl (pa_cons (pe_var hN hv hd hcd) pa_nil hs) (by decide) (by decide) hs hpl) fun σ H Q ⟨fp, S, R, d, S', e, q⟩ => by
    unfold mKeys at e
    split at e
    · rename_i es hge
      cases e
      obtain ⟨a, e1, e2, kvs, e3, r⟩ := R.ownD (t := true) ho hge
      refine ⟨.ref a, e1, a, kvs, rfl, .inl e3, fun l bs hl kb => ?_⟩
      obtain ⟨R2, C2, n⟩ := new_make R (Chg.refl (fp := fp) (H := H)) hl (keys_rp r kb)
      exact q l _ _ _ fp rfl R2 C2 n
    · cases e
/-- x = y: one's own list or dict goes over -/
def cMove (i j : Nat) : CM := fun S => (gt S j).map fun d => (.nx, (S.set i (some d)).set j none)
theorem rel_move {v : V} {d : D} (R : Rel c fp σ S H) (hi : i ∈ c.own) (hj : j ∈ c.own) (hij : i ≠ j) (fi : i ∈ c.flat ↔ j ∈ c.flat) (e : gt S j = some d) (ev : σ[j]? = some (some v)) : Rel c (fpS (fpS fp i (fp j)) j []) (σ.set i (some v)) ((S.set i (some d)).set j none) H := by
  have f1 : fpS (fpS fp i (fp j)) j [] j = [] := if_pos rfl
  have f2 : fpS (fpS fp i (fp j)) j [] i = fp j := by
    unfold fpS
    rw [if_neg hij, if_pos rfl]
  have f3 : ∀ k, k ≠ i → k ≠ j → fpS (fpS fp i (fp j)) j [] k = fp k := fun k h1 h2 => by
    unfold fpS
    rw [if_neg h2, if_neg h1]
  have less : ∀ a, Bd c (fpS (fpS fp i (fp j)) j []) a → Bd c fp a := fun a z => by
    rcases z with z | ⟨k, hk, z⟩
    · exact .inl z
    · by_cases h2 : k = j
      · rw [h2, f1] at z; cases z
      · by_cases h1 : k = i
        · rw [h1, f2] at z; exact .inr ⟨j, hj, z⟩
        · rw [f3 k h1 h2] at z; exact .inr ⟨k, hk, z⟩
  have g1 : ∀ k d', gt ((S.set i (some d)).set j none) k = some d' → k ≠ j ∧ ((k = i ∧ d' = d) ∨ (k ≠ i ∧ gt S k = some d')) := fun k d' e' => by
    rw [gt_set] at e'
    by_cases h : j = k ∧ k < (S.set i (some d)).length
    · rw [if_pos h] at e'; cases e'
    · rw [if_neg h, gt_set] at e'
      have hkj : k ≠ j := fun z => h ⟨z.symm, by
        rw [List.length_set]
        split at e'
        · rename_i h2; exact h2.2
        · exact gt_lt e'⟩
      refine ⟨hkj, ?_⟩
      split at e'
      · rename_i h2
        cases e'
        exact .inl ⟨h2.1.symm, rfl⟩
      · rename_i h2
        by_cases hki : k = i
        · have := gt_lt e'
          exact absurd ⟨hki.symm, this⟩ h2
        · exact .inr ⟨hki, e'⟩
  refine ⟨by simp [R.len], fun k hk d' e' => ?_, fun k hk d' e' => ?_, fun k hk => ?_, fun k hk l hl hkl a ha => ?_, fun k hk a ha => ?_, fun a ha => R.mt a (less a ha), fun k hk => ?_, fun k hk es e' => ?_⟩
  · obtain ⟨hkj, ⟨rfl, rfl⟩ | ⟨hki, e2⟩⟩ := g1 k d' e'
    · obtain ⟨v', e3, r⟩ := R.own j hj _ e
      rw [ev] at e3
      cases e3
      have hlt : k < σ.length := by
        have := gt_lt e'
        simp only [List.length_set] at this
        rw [← R.len]; exact this
      refine ⟨v, by rw [List.getElem?_set_self hlt], ?_⟩
      rw [f2]
      exact r.mono (fun a xs e n => ⟨e, fun z => n (less a z)⟩) (fun a o u e => e) (fun a xs e => e) fun a _ xs e => e
    · obtain ⟨v', e3, r⟩ := R.own k hk _ e2
      refine ⟨v', by rw [List.getElem?_set_ne (Ne.symm hki)]; exact e3, ?_⟩
      rw [f3 k hki hkj]
      exact r.mono (fun a xs e n => ⟨e, fun z => n (less a z)⟩) (fun a o u e => e) (fun a xs e => e) fun a _ xs e => e
  · obtain ⟨hkj, ⟨rfl, rfl⟩ | ⟨hki, e2⟩⟩ := g1 k d' e'
    · exact absurd hi hk
    · obtain ⟨v', e3, r⟩ := R.frz k hk _ e2
      exact ⟨v', by rw [List.getElem?_set_ne (Ne.symm hki)]; exact e3, r.less less⟩
  · by_cases h2 : k = j
    · rw [h2, f1]; exact .nil
    · by_cases h1 : k = i
      · rw [h1, f2]; exact R.nd j hj
      · rw [f3 k h1 h2]; exact R.nd k hk
  · by_cases h2 : k = j
    · rw [h2, f1] at ha; cases ha
    · by_cases l2 : l = j
      · rw [l2, f1]; simp
      · by_cases h1 : k = i
        · rw [h1, f2] at ha
          have l1 : l ≠ i := fun z => hkl (h1.trans z.symm)
          rw [f3 l l1 l2]
          exact R.dj j hj l hl (fun z => l2 z.symm) a ha
        · rw [f3 k h1 h2] at ha
          by_cases l1 : l = i
          · rw [l1, f2]
            exact R.dj k hk j hj h2 a ha
          · rw [f3 l l1 l2]
            exact R.dj k hk l hl hkl a ha
  · by_cases h2 : k = j
    · rw [h2, f1] at ha; cases ha
    · by_cases h1 : k = i
      · rw [h1, f2] at ha; exact R.nf j hj a ha
      · rw [f3 k h1 h2] at ha; exact R.nf k hk a ha
  · by_cases h2 : k = j
    · rw [h2, f1]; simp
    · by_cases h1 : k = i
      · rw [h1, f2]; exact R.fl j (fi.mp (by rw [← h1]; exact hk))
      · rw [f3 k h1 h2]; exact R.fl k hk
  · obtain ⟨hkj, ⟨rfl, e2⟩ | ⟨hki, e2⟩⟩ := g1 k _ e'
    · rw [f2]
      subst e2
      exact R.tk j hj es e
    · rw [f3 k hki hkj]; exact R.tk k hk es e2
theorem ss_move {p3 : Pos} (hN : X.N.Nodup) (hNi : X.N[i]? = some x) (hx : Loc X.env.scope x) (hf : X.fn x = true ∨ X.env.scope.names.lookup x = some .local) (hNj : X.N[j]? = some y) (hv : Vis X.env.scope y) (hd : (y == ("__debug__" : Str)) = false) (hcd : (y == ("__classdict__" : Str)) = false)
    (hi : i ∈ c.own) (hj : j ∈ c.own) (hij : i ≠ j) (fi : i ∈ c.flat ↔ j ∈ c.flat) (li : i ∈ c.lo) (lj : j ∈ c.lo) (hs : swapsWith (.Name y p3) (some (.Name x p2)) pos.line X.env = pure false) :
    SS c X (.Assign [.Name x p2] (.Name y p3) pos) [i, j] [i] lo nw (cMove i j) := psImp (ps_set hN hNi hx (pe_var hNj hv hd hcd) hs hf) fun D σ H ⟨fp, S, R, r, S', e, q⟩ => by
  unfold cMove at e
  cases hg : gt S j with
  | none => rw [hg] at e; cases e
  | some d =>
    rw [hg] at e
    cases e
    obtain ⟨v, e1, _⟩ := R.own j hj _ hg
    refine ⟨v, e1, q _ H _ (rel_move R hi hj hij fi hg e1) ⟨fun a o e _ => e, fun k hk => ?_, fun k hk a ha => ?_, fun _ h => h⟩ (by simp) fun k hk => ?_⟩
    · unfold fpS
      rw [if_neg (fun z => hk (by simp [z])), if_neg (fun z => hk (by simp [z]))]
    · unfold fpS at ha
      by_cases h2 : k = j
      · rw [if_pos h2] at ha; cases ha
      · rw [if_neg h2] at ha
        by_cases h1 : k = i
        · rw [if_pos h1] at ha
          exact .inr (.inl ⟨by rw [h1]; exact li, j, hj, lj, by simp, ha⟩)
        · rw [if_neg h1] at ha
          exact .inl ha
    · rw [List.getElem?_set_ne (fun z => hk (by simp [z]))]
end
end FV
end
section
set_option Elab.async false
set_option linter.all false
set_option maxRecDepth 100000
set_option maxHeartbeats 4000000
/-! Short forms for the printed walks. -/
namespace FV
open PySem PySem.Spec PyProof.Rows L2
section
variable {c : Cf} {X : Cx} {e a b d tg : Expr} {es : List Expr} {pos p p2 p3 : Pos} {wr w1 w2 w3 wb ws : List Nat} {m ma mb mc : Md} {ms : List Md} {f fa fb fd : SM} {fl : SL} {i : Nat} {x : Str}
/-! leaves -/
theorem gInt_ {n : Int} {j} : SE c X (.Constant (.int n) j pos) [] .fz (mC (.int n)) := se_const (t := tC .non) pe_int fun _ _ => .int n
theorem gBl_ {n : Bool} {j} : SE c X (.Constant (.bool n) j pos) [] .fz (mC (.bool n)) := se_const (t := tC .non) pe_bl fun _ _ => .bl n
theorem gNon_ {j} : SE c X (.Constant .none j pos) [] .fz (mC .none) := se_const (t := tC .non) pe_non fun _ _ => .non
theorem gStr_ {n : Str} {j} : SE c X (.Constant (.str n) j pos) [] .fz (mC (.str n)) := se_const (t := tC .non) pe_str fun _ _ => .str n
theorem gGlobI {n : Int} (hg : Gl X x) (hm : ∃ t, X.mg x = some (.int n t)) (hd : (x == ("__debug__" : Str)) = false := by decide) : SE c X (.Name x pos) [] .fz (mC (.int n)) := by
  obtain ⟨t, hm⟩ := hm
  exact se_const (t := tC .non) (pe_glob (v := .int n) hg hm ⟨t, rfl⟩ hd) fun _ _ => .int n
/-! operations -/
theorem xAdd (ha : SE c X a w1 .fz fa) (hb : SE c X b w2 .fz fb) : SE c X (.BinOp a .Add b pos) (w1 ++ w2) .fz (m2 gAdd fa fb) := se_op (m' := .fz) op_addA (o2_add (ma := .fz) (mb := .fz)) (.inl rfl) ha hb
theorem xAddS (ha : SE c X a w1 .sh fa) (hb : SE c X b [] .fz fb) : SE c X (.BinOp a .Add b pos) (w1 ++ []) .fz (m2 gAdd fa fb) := se_op (m' := .fz) op_addA (o2_add (ma := .sh) (mb := .fz)) (.inr rfl) ha hb
theorem xSub (ha : SE c X a w1 .fz fa) (hb : SE c X b w2 .fz fb) : SE c X (.BinOp a .Sub b pos) (w1 ++ w2) .fz (m2 gSub fa fb) := se_op op_sub o2_sub (.inl rfl) ha hb
theorem xMul (ha : SE c X a w1 .fz fa) (hb : SE c X b w2 .fz fb) : SE c X (.BinOp a .Mult b pos) (w1 ++ w2) .fz (m2 gMulI fa fb) := se_op op_mulB o2_mul (.inl rfl) ha hb
theorem xDiv (ha : SE c X a w1 .fz fa) (hb : SE c X b w2 .fz fb) : SE c X (.BinOp a .FloorDiv b pos) (w1 ++ w2) .fz (m2 gFdiv fa fb) := se_op op_divB o2_div (.inl rfl) ha hb
theorem xMod (ha : SE c X a w1 .fz fa) (hb : SE c X b w2 .fz fb) : SE c X (.BinOp a .Mod b pos) (w1 ++ w2) .fz (m2 gMod fa fb) := se_op op_modN o2_mod (.inl rfl) ha hb
theorem xPow (ha : SE c X a w1 .fz fa) (hb : SE c X b w2 .fz fb) : SE c X (.BinOp a .Pow b pos) (w1 ++ w2) .fz (m2 gPow fa fb) := se_op op_pow o2_pow (.inl rfl) ha hb
theorem xNeg (ha : SE c X a wr m fa) : SE c X (.UnaryOp .USub a pos) wr .fz (m1 gNeg fa) := se_neg ha
theorem xLt (ha : SE c X a w1 .fz fa) (hb : SE c X b w2 .fz fb) : SE c X (.Compare a [.Lt] [b] pos) (w1 ++ w2) .fz (m2 gLt fa fb) := se_cmp op_lt o2_cmp (.inl rfl) (nomark _) ha hb
theorem xLe (ha : SE c X a w1 .fz fa) (hb : SE c X b w2 .fz fb) : SE c X (.Compare a [.LtE] [b] pos) (w1 ++ w2) .fz (m2 gLe fa fb) := se_cmp op_le o2_cmp (.inl rfl) (nomark _) ha hb
theorem xGt (ha : SE c X a w1 .fz fa) (hb : SE c X b w2 .fz fb) : SE c X (.Compare a [.Gt] [b] pos) (w1 ++ w2) .fz (m2 gGt fa fb) := se_cmp op_gt o2_cmp (.inl rfl) (nomark _) ha hb
theorem xGe (ha : SE c X a w1 .fz fa) (hb : SE c X b w2 .fz fb) : SE c X (.Compare a [.GtE] [b] pos) (w1 ++ w2) .fz (m2 gGe fa fb) := se_cmp op_ge o2_cmp (.inl rfl) (nomark _) ha hb
theorem xEq (hu : X.A.units + 64 < cLine) (hm : ma = .fz ∨ w2 = []) (ha : SE c X a w1 ma fa) (hb : SE c X b w2 mb fb) : SE c X (.Compare a [.Eq] [b] pos) (w1 ++ w2) .fz (m2 gEq fa fb) := se_cmp (op_eqD hu) o2_eq hm (nomark _) ha hb
theorem xNe (hu : X.A.units + 64 < cLine) (hm : ma = .fz ∨ w2 = []) (ha : SE c X a w1 ma fa) (hb : SE c X b w2 mb fb) : SE c X (.Compare a [.NotEq] [b] pos) (w1 ++ w2) .fz (m2 gNe fa fb) := se_cmp (op_neD hu) o2_ne hm (nomark _) ha hb
theorem xIs (hm : ma = .fz ∨ w2 = []) (ha : SE c X a w1 ma fa) (hb : SE c X b w2 mb fb) : SE c X (.Compare a [.Is] [b] pos) (w1 ++ w2) .fz (m2 gIs fa fb) := se_cmp op_isA o2_is hm (nomark _) ha hb
theorem xIsN (hm : ma = .fz ∨ w2 = []) (ha : SE c X a w1 ma fa) (hb : SE c X b w2 mb fb) : SE c X (.Compare a [.IsNot] [b] pos) (w1 ++ w2) .fz (m2 gIsN fa fb) := se_cmp op_isnA o2_isn hm (nomark _) ha hb
theorem xIn (hk : behindInMarks .In b = false) (hm : ma = .fz ∨ w2 = []) (ha : SE c X a w1 ma fa) (hb : SE c X b w2 mb fb) : SE c X (.Compare a [.In] [b] pos) (w1 ++ w2) .fz (m2 (gIn false) fa fb) := se_cmp op_in_seq o2_in hm hk ha hb
theorem xNin (hk : behindInMarks .NotIn b = false) (hm : ma = .fz ∨ w2 = []) (ha : SE c X a w1 ma fa) (hb : SE c X b w2 mb fb) : SE c X (.Compare a [.NotIn] [b] pos) (w1 ++ w2) .fz (m2 (gIn true) fa fb) := se_cmp op_notIn_seq o2_in hm hk ha hb
theorem tLt_ (ha : SE c X a w1 .fz fa) (hb : SE c X b w2 .fz fb) : ST c X (.Compare a [.Lt] [b] pos) (w1 ++ w2) (m2 gLt fa fb) := st_cmp op_lt o2_cmp (.inl rfl) (nomark _) ha hb
theorem tLe_ (ha : SE c X a w1 .fz fa) (hb : SE c X b w2 .fz fb) : ST c X (.Compare a [.LtE] [b] pos) (w1 ++ w2) (m2 gLe fa fb) := st_cmp op_le o2_cmp (.inl rfl) (nomark _) ha hb
theorem tGt_ (ha : SE c X a w1 .fz fa) (hb : SE c X b w2 .fz fb) : ST c X (.Compare a [.Gt] [b] pos) (w1 ++ w2) (m2 gGt fa fb) := st_cmp op_gt o2_cmp (.inl rfl) (nomark _) ha hb
theorem tGe_ (ha : SE c X a w1 .fz fa) (hb : SE c X b w2 .fz fb) : ST c X (.Compare a [.GtE] [b] pos) (w1 ++ w2) (m2 gGe fa fb) := st_cmp op_ge o2_cmp (.inl rfl) (nomark _) ha hb
theorem tEq_ (hu : X.A.units + 64 < cLine) (hm : ma = .fz ∨ w2 = []) (ha : SE c X a w1 ma fa) (hb : SE c X b w2 mb fb) : ST c X (.Compare a [.Eq] [b] pos) (w1 ++ w2) (m2 gEq fa fb) := st_cmp (op_eqD hu) o2_eq hm (nomark _) ha hb
theorem tNe_ (hu : X.A.units + 64 < cLine) (hm : ma = .fz ∨ w2 = []) (ha : SE c X a w1 ma fa) (hb : SE c X b w2 mb fb) : ST c X (.Compare a [.NotEq] [b] pos) (w1 ++ w2) (m2 gNe fa fb) := st_cmp (op_neD hu) o2_ne hm (nomark _) ha hb
theorem tIs_ (hm : ma = .fz ∨ w2 = []) (ha : SE c X a w1 ma fa) (hb : SE c X b w2 mb fb) : ST c X (.Compare a [.Is] [b] pos) (w1 ++ w2) (m2 gIs fa fb) := st_cmp op_isA o2_is hm (nomark _) ha hb
theorem tIsN_ (hm : ma = .fz ∨ w2 = []) (ha : SE c X a w1 ma fa) (hb : SE c X b w2 mb fb) : ST c X (.Compare a [.IsNot] [b] pos) (w1 ++ w2) (m2 gIsN fa fb) := st_cmp op_isnA o2_isn hm (nomark _) ha hb
theorem tIn_ (hk : behindInMarks .In b = false) (hm : ma = .fz ∨ w2 = []) (ha : SE c X a w1 ma fa) (hb : SE c X b w2 mb fb) : ST c X (.Compare a [.In] [b] pos) (w1 ++ w2) (m2 (gIn false) fa fb) := st_cmp op_in_seq o2_in hm hk ha hb
theorem tNin_ (hk : behindInMarks .NotIn b = false) (hm : ma = .fz ∨ w2 = []) (ha : SE c X a w1 ma fa) (hb : SE c X b w2 mb fb) : ST c X (.Compare a [.NotIn] [b] pos) (w1 ++ w2) (m2 (gIn true) fa fb) := st_cmp op_notIn_seq o2_in hm hk ha hb
theorem xIdx (hs : PlainIx b) (ha : SE c X a w1 .fz fa) (hb : SE c X b w2 mb fb) : SE c X (.Subscript a b pos) (w1 ++ w2) .fz (m2 gIdx fa fb) := se_idx (m1' := .fz) hs (.inl rfl) ha hb
theorem xIdxS (hs : PlainIx b) (ha : SE c X a w1 .sh fa) (hb : SE c X b [] mb fb) : SE c X (.Subscript a b pos) (w1 ++ []) .fz (m2 gIdx fa fb) := se_idx (m1' := .sh) hs (.inr rfl) ha hb
theorem xCut {lo hi : Option Expr} {fl fh : Sl → Option (Option Int × Sl)} (ha : SE c X a w1 .fz fa) (hl : SO c X lo w2 fl) (hh : SO c X hi w3 fh) : SE c X (.Subscript a (.Slice lo hi none p2) pos) (w1 ++ (w2 ++ w3)) .fz (mCut fa fl fh) := se_cut (m1' := .fz) (.inl rfl) ha hl hh
theorem xCutS {lo hi : Option Expr} {fl fh : Sl → Option (Option Int × Sl)} (ha : SE c X a w1 .sh fa) (hl : SO c X lo [] fl) (hh : SO c X hi [] fh) : SE c X (.Subscript a (.Slice lo hi none p2) pos) (w1 ++ ([] ++ [])) .fz (mCut fa fl fh) := se_cut (m1' := .sh) (.inr ⟨rfl, rfl⟩) ha hl hh
theorem xTup {k : Nat} (ha : SA c X es wr ms fl) (hz : ms.all (· == .fz) = true) : SE c X (.Tuple es k pos) wr .fz (mL gTup fl) := by
  have := se_tup (k := k) (pos := pos) ha
  unfold mdS at this
  rw [if_pos hz] at this
  exact this
theorem xLst (ha : SA c X es wr ms fl) (hz : ms.all (· == .fz) = true) : SE c X (.List es pos) wr .fz (mL gLst fl) := by
  have := se_lst (pos := pos) ha
  unfold mdS at this
  rw [if_pos hz] at this
  exact this
theorem xCons {g : SL} (ha : SE c X e w1 .fz f) (hr : SA c X es w2 ms g) (hs : starEach (e :: es) X.env = (false, eval e X.env) :: starEach es X.env := by rfl) : SA c X (e :: es) (w1 ++ w2) (.fz :: ms) (mCons f g) := sa_cons ha hr hs (.inl rfl)
theorem xConsS {g : SL} (ha : SE c X e w1 .sh f) (hr : SA c X es [] ms g) (hs : starEach (e :: es) X.env = (false, eval e X.env) :: starEach es X.env := by rfl) : SA c X (e :: es) (w1 ++ []) (.sh :: ms) (mCons f g) := sa_cons ha hr hs (.inr rfl)
/-! tests -/
theorem gVal (h : SE c X e wr m f) (he : ∀ whole, isTrue e X.env whole = (do let v ← whole; standAt e.pos; holding [v] (truthy v)) := by intro _; rfl) : ST c X e wr f := st_val h he
theorem gAnd2 {rest : List Expr} (ha : ST c X a w1 fa) (hb : SW c X (.BoolOp .And (b :: rest) pos) w2 fb) : SW c X (.BoolOp .And (a :: b :: rest) pos) (w1 ++ w2) (mAnd fa fb) := sw_and ha hb
/-! built-ins of one argument, the argument held in any way -/
variable {ha' : True}
theorem bLen (hg : Gl X "len") (hm : X.mg "len" = none) (ha : SE c X a wr m fa) (hs : starEach [a] X.env = (false, eval a X.env) :: starEach [] X.env := by rfl) (hpl : (backTo pos (starEach [] X.env)).any (·.1) = false := by rfl) : SE c X (.Call (.Name "len" p) [a] [] pos) (wr ++ []) .fz (mL (g1 gLen) (mCons fa mNil)) :=
  se_callB call_len on_len hg hm (by decide +kernel) (by decide) (by decide) hs hpl (sa_cons ha sa_nil hs (.inr rfl))
theorem bSum (hc : X.calm = true) (hg : Gl X "sum") (hm : X.mg "sum" = none) (ha : SE c X a wr m fa) (hs : starEach [a] X.env = (false, eval a X.env) :: starEach [] X.env := by rfl) (hpl : (backTo pos (starEach [] X.env)).any (·.1) = false := by rfl) : SE c X (.Call (.Name "sum" p) [a] [] pos) (wr ++ []) .fz (mL (g1 gSum) (mCons fa mNil)) :=
  se_callB (cr_sumA hc) on_sum hg hm (by decide +kernel) (by decide) (by decide) hs hpl (sa_cons ha sa_nil hs (.inr rfl))
theorem bAll (hc : X.calm = true) (hg : Gl X "all") (hm : X.mg "all" = none) (ha : SE c X a wr m fa) (hs : starEach [a] X.env = (false, eval a X.env) :: starEach [] X.env := by rfl) (hpl : (backTo pos (starEach [] X.env)).any (·.1) = false := by rfl) : SE c X (.Call (.Name "all" p) [a] [] pos) (wr ++ []) .fz (mL (g1 gAll) (mCons fa mNil)) :=
  se_callB (cr_all hc) on_all hg hm (by decide +kernel) (by decide) (by decide) hs hpl (sa_cons ha sa_nil hs (.inr rfl))
theorem bAny (hc : X.calm = true) (hg : Gl X "any") (hm : X.mg "any" = none) (ha : SE c X a wr m fa) (hs : starEach [a] X.env = (false, eval a X.env) :: starEach [] X.env := by rfl) (hpl : (backTo pos (starEach [] X.env)).any (·.1) = false := by rfl) : SE c X (.Call (.Name "any" p) [a] [] pos) (wr ++ []) .fz (mL (g1 gAny) (mCons fa mNil)) :=
  se_callB (cr_any hc) on_any hg hm (by decide +kernel) (by decide) (by decide) hs hpl (sa_cons ha sa_nil hs (.inr rfl))
theorem bMinL (hc : X.calm = true) (hg : Gl X "min") (hm : X.mg "min" = none) (ha : SE c X a wr m fa) (hs : starEach [a] X.env = (false, eval a X.env) :: starEach [] X.env := by rfl) (hpl : (backTo pos (starEach [] X.env)).any (·.1) = false := by rfl) : SE c X (.Call (.Name "min" p) [a] [] pos) (wr ++ []) .fz (mL (g1 gMinL) (mCons fa mNil)) :=
  se_callB (cr_min hc) on_minL hg hm (by decide +kernel) (by decide) (by decide) hs hpl (sa_cons ha sa_nil hs (.inr rfl))
theorem bMaxL (hc : X.calm = true) (hg : Gl X "max") (hm : X.mg "max" = none) (ha : SE c X a wr m fa) (hs : starEach [a] X.env = (false, eval a X.env) :: starEach [] X.env := by rfl) (hpl : (backTo pos (starEach [] X.env)).any (·.1) = false := by rfl) : SE c X (.Call (.Name "max" p) [a] [] pos) (wr ++ []) .fz (mL (g1 gMaxL) (mCons fa mNil)) :=
  se_callB (cr_max hc) on_maxL hg hm (by decide +kernel) (by decide) (by decide) hs hpl (sa_cons ha sa_nil hs (.inr rfl))
theorem bInt (hg : Gl X "int") (hm : X.mg "int" = none) (ha : SE c X a wr m fa) (hs : starEach [a] X.env = (false, eval a X.env) :: starEach [] X.env := by rfl) (hpl : (backTo pos (starEach [] X.env)).any (·.1) = false := by rfl) : SE c X (.Call (.Name "int" p) [a] [] pos) (wr ++ []) .fz (mL (g1 FV.gInt) (mCons fa mNil)) :=
  se_callTy call_int1 on_int hg hm boot_int (by decide) (by decide) hs hpl (sa_cons ha sa_nil hs (.inr rfl))
theorem bRepr (hgd : X.A.guards = some []) (hu : X.A.units + 100 < cLine) (hg : Gl X "repr") (hm : X.mg "repr" = none) (ha : SE c X a wr m fa) (hs : starEach [a] X.env = (false, eval a X.env) :: starEach [] X.env := by rfl) (hpl : (backTo pos (starEach [] X.env)).any (·.1) = false := by rfl) : SE c X (.Call (.Name "repr" p) [a] [] pos) (wr ++ []) .fz (mL (g1 gRepr) (mCons fa mNil)) :=
  se_callB (cr_repr hgd hu) on_repr hg hm boot_repr (by decide) (by decide) hs hpl (sa_cons ha sa_nil hs (.inr rfl))
theorem bTuple (hm0 : m ≠ .bo) (hg : Gl X "tuple") (hm : X.mg "tuple" = none) (ha : SE c X a wr m fa) (hs : starEach [a] X.env = (false, eval a X.env) :: starEach [] X.env := by rfl) (hpl : (backTo pos (starEach [] X.env)).any (·.1) = false := by rfl) : SE c X (.Call (.Name "tuple" p) [a] [] pos) (wr ++ []) .fz (mL (g1 gTuple) (mCons fa mNil)) := by
  have h := se_callTy (p := p) (pos := pos) call_tuple_of on_tuple hg hm boot_tuple (by decide) (by decide) hs hpl (sa_cons ha sa_nil hs (.inr rfl))
  cases m with
  | bo => exact absurd rfl hm0
  | fz => exact h
  | sh => exact h
theorem nList (hm0 : m ≠ .bo) (hg : Gl X "list") (hm : X.mg "list" = none) (ha : SE c X a wr m fa) (hs : starEach [a] X.env = (false, eval a X.env) :: starEach [] X.env := by rfl) (hpl : (backTo pos (starEach [] X.env)).any (·.1) = false := by rfl) : SN c X (.Call (.Name "list" p) [a] [] pos) (wr ++ []) (mL (g1 gList) (mCons fa mNil)) :=
  sn_callTy call_list_of (onw_list hm0) hg hm boot_list (by decide) (by decide) hs hpl (sa_cons ha sa_nil hs (.inr rfl))
theorem nSorted (hm0 : m ≠ .bo) (hu : X.A.units + 100 < cLine) (hg : Gl X "sorted") (hm : X.mg "sorted" = none) (ha : SE c X a wr m fa) (hs : starEach [a] X.env = (false, eval a X.env) :: starEach [] X.env := by rfl) (hpl : (backTo pos (starEach [] X.env)).any (·.1) = false := by rfl) : SN c X (.Call (.Name "sorted" p) [a] [] pos) (wr ++ []) (mL (g1 gSorted) (mCons fa mNil)) :=
  sn_callB (cr_sortA hu) (onw_sorted hm0) hg hm boot_sorted (by decide) (by decide) hs hpl (sa_cons ha sa_nil hs (.inr rfl))
theorem bMax2 (hc : X.calm = true) (hg : Gl X "max") (hm : X.mg "max" = none) (ha : SA c X [a, b] wr [ma, mb] fl) (hs : starEach [a, b] X.env = (false, eval a X.env) :: starEach [b] X.env := by rfl) (hpl : (backTo pos (starEach [b] X.env)).any (·.1) = false := by rfl) : SE c X (.Call (.Name "max" p) [a, b] [] pos) wr .fz (mL (g2 gMax2) fl) :=
  se_callB (call_max2 hc) on_max2 hg hm (by decide +kernel) (by decide) (by decide) hs hpl ha
theorem bMin2 (hc : X.calm = true) (hg : Gl X "min") (hm : X.mg "min" = none) (ha : SA c X [a, b] wr [ma, mb] fl) (hs : starEach [a, b] X.env = (false, eval a X.env) :: starEach [b] X.env := by rfl) (hpl : (backTo pos (starEach [b] X.env)).any (·.1) = false := by rfl) : SE c X (.Call (.Name "min" p) [a, b] [] pos) wr .fz (mL (g2 gMin2) fl) :=
  se_callB (call_min2 hc) on_min2 hg hm (by decide +kernel) (by decide) (by decide) hs hpl ha
def gMin3 : List D → Option D
  | [.int i, .int j, .int k] => some (.int (if k < (if j < i then j else i) then k else (if j < i then j else i)))
  | _ => none
theorem on_min3 : OpN (rNuC3 nuMin3) c [ma, mb, mc] .fz gMin3 := fun fp σ S H vs ds z Q R rv e q => by
  obtain ⟨v1, d1, vs1, ds1, rfl, rfl, r1, rv⟩ := rv.cons
  obtain ⟨v2, v3, d2, d3, rfl, rfl, r2, r3⟩ := rv.two
  cases d1 with
  | int i =>
    cases d2 with
    | int j =>
      cases d3 with
      | int k =>
        cases e
        refine ⟨v1, v2, v3, .int _, rfl, ?_, q _ H (Same.refl H) rpm_int⟩
        rw [r1.intV, r2.intV, r3.intV]
        by_cases h : j < i
        · by_cases h2 : k < j
          · simp [nuMin3, nuMin2, nuLt, nuCB, h, h2]
          · simp [nuMin3, nuMin2, nuLt, nuCB, h, h2]
        · by_cases h2 : k < i
          · simp [nuMin3, nuMin2, nuLt, nuCB, h, h2]
          · simp [nuMin3, nuMin2, nuLt, nuCB, h, h2]
      | _ => cases e
    | _ => cases e
  | _ => cases e
theorem bMin3 (hc : X.calm = true) (hg : Gl X "min") (hm : X.mg "min" = none) (ha : SA c X [a, b, d] wr [ma, mb, mc] fl) (hs : starEach [a, b, d] X.env = (false, eval a X.env) :: starEach [b, d] X.env := by rfl) (hpl : (backTo pos (starEach [b, d] X.env)).any (·.1) = false := by rfl) : SE c X (.Call (.Name "min" p) [a, b, d] [] pos) wr .fz (mL gMin3 fl) :=
  se_callB (call_min3Nu hc) on_min3 hg hm (by decide +kernel) (by decide) (by decide) hs hpl ha
end
/-- an item put behind a list that is then dropped -/
def cAppT (fo fe : SM) : CM := fun S => (fo S).bind fun r => (fe r.2).bind fun q => match r.1 with
  | .list ds => if ds.length < sizeLine then some (.nx, q.2) else none
  | _ => none
theorem ss_appT {c : Cf} {X : Cx} {o e : Expr} {apos cpos pos : Pos} {w1 w2 lo : List Nat} {nw : Bool} {fo fe : SM} (ho : SN c X o w1 fo) (he : ∀ F, SE (c.wF F) X e w2 .fz fe)
    (hbase : attributeBase o "append" X.env (eval o X.env) = eval o X.env)
    (hfew : ((backTo cpos (starEach [e] X.env)).all (fun x => !x.1) && (backToKw cpos (keywordEach [] X.env)).all (fun x => x.1.isSome) && decide ([e].length + ([] : List Keyword).length + (if ([] : List Keyword).isEmpty then 0 else 1) < 30)) = true)
    (hline : (apos.endLine == cpos.line) = true) (hs : starEach [e] X.env = (false, eval e X.env) :: starEach [] X.env) (hplain : (backTo cpos (starEach [] X.env)).any (·.1) = false) (hsw : swapsWith (.Call (.Attribute o "append" apos) [e] [] cpos) none pos.line X.env = pure false) :
    SS c X (.Expr (.Call (.Attribute o "append" apos) [e] [] cpos) pos) (w1 ++ w2) [] lo nw (cAppT fo fe) :=
  psImp (ps_expr (pe_bm PySem.F.plainAttrs_list PySem.F.slot_list_append PySem.F.type_list_append mt_append ho (pa_cons (te := fun σ H Q => ∃ F, tE (c.wF F) w2 .fz fe σ H Q) ⟨fun pins s σ H Q I ⟨F, q⟩ => (he F).run pins s σ H Q I q⟩ pa_nil hs) hbase hfew hline hs hplain) hsw) fun D σ H ⟨fp, S, R, r, S', e1, q⟩ => by
    unfold cAppT at e1
    cases hf : fo S with
    | none => rw [hf] at e1; cases e1
    | some y =>
      obtain ⟨d, S1⟩ := y
      rw [hf] at e1
      simp only [Option.bind_some] at e1
      cases hf2 : fe S1 with
      | none => rw [hf2] at e1; cases e1
      | some y2 =>
        obtain ⟨d2, S2⟩ := y2
        rw [hf2] at e1
        simp only [Option.bind_some] at e1
        split at e1
        · rename_i ds
          split at e1
          · rename_i hz
            cases e1
            refine ⟨fp, S, R, _, S1, hf, fun p xs es H1 fp1 ed R1 C1 n => ⟨.inl ⟨rfl, xs, .inl (.inl n.here)⟩, addF c.F p, fp1, S1, R1, d2, _, hf2, fun v H2 fp2 R2 C2 r2 => ?_⟩⟩
            cases ed
            have hp : H2 p = some (.lst xs) := C2.keep p _ n.here fun j hj _ z => R1.nf j hj p z (.inr rfl)
            refine ⟨p, xs, v, rfl, rfl, hp, by rw [n.items.length]; exact hz, ?_⟩
            exact q σ _ fp2 (Rel.drop (R2.updF (.inr rfl) hp)) ((C1.trans C2.unF).updN n.fresh) rfl fun _ _ => rfl
          · cases e1
        · cases e1
theorem guards_deeper {A : Around} {env : Env} : (A.deeper env).guards = A.guards := rfl
theorem nm {l : List Nat} {i : Nat} (h : l.contains i = false) : i ∉ l := fun z => by
  have : l.contains i = true := by simpa using z
  rw [this] at h
  cases h
theorem ym {l : List Nat} {i : Nat} (h : l.contains i = true) : i ∈ l := by simpa using h
theorem an {l m : List Nat} (h : (l.all fun i => !m.contains i) = true) : ∀ i ∈ l, i ∉ m := fun i hi => nm (by
  have := List.all_eq_true.mp h i hi
  simpa using this)
theorem am {l m : List Nat} (h : (l.all fun i => m.contains i) = true) : ∀ i ∈ l, i ∈ m := fun i hi => ym (List.all_eq_true.mp h i hi)
def visB (sc : Scope) (x : Str) : Bool := match sc.names.lookup x with
  | some .local => true
  | some .cell => true
  | some .free => true
  | _ => false
theorem vis_of {sc : Scope} {x : Str} (h : visB sc x = true) : Vis sc x := by
  unfold visB at h
  unfold Vis
  split at h
  · rename_i e; exact .inl e
  · rename_i e; exact .inr (.inl e)
  · rename_i e; exact .inr (.inr e)
  · cases h
def locB (sc : Scope) (x : Str) : Bool := match sc.names.lookup x with
  | some .local => true
  | some .cell => true
  | _ => false
theorem loc_of {sc : Scope} {x : Str} (h : locB sc x = true) : L2.Loc sc x := by
  unfold locB at h
  unfold L2.Loc
  split at h
  · rename_i e; exact .inl e
  · rename_i e; exact .inr e
  · cases h
/-! ### a def as the callers see it -/
structure Ct (P : Program) (w : World) (K : PySem.W.Frag) (mg : Str → Option Value) (base : Heap) (k : Nat) (x : Str) (st : Stmt) (ps : List Str) (sp : SpG) : Prop where
  ex : ∃ f fd, mg x = some (.ref f) ∧ FunD K x x (defArgs st) (defBody st) (defScope st) [] [] f fd ∧ Binds K fd ps [] ∧ FnG P w K mg base k f fd ps sp
theorem Ct.mono {P : Program} {w : World} {K : PySem.W.Frag} {mg : Str → Option Value} {base : Heap} {j k : Nat} {x : Str} {st : Stmt} {ps : List Str} {sp : SpG} (c : Ct P w K mg base j x st ps sp) (h : j ≤ k) : Ct P w K mg base k x st ps sp := by
  obtain ⟨f, fd, m, F, b, G⟩ := c.ex
  exact ⟨f, fd, m, F, b, G.mono h⟩
/-- a def that is not asked anything -/
theorem ct_vac {P : Program} {w : World} {K : PySem.W.Frag} {mg : Str → Option Value} {base : Heap} {k : Nat} {x : Str} {st : Stmt} {ps : List Str} {io : List Nat} {nw : Bool} {f : Addr} {fd : FuncData} (m : mg x = some (.ref f)) (F : FunD K x x (defArgs st) (defBody st) (defScope st) [] [] f fd) (b : Binds K fd ps []) :
    Ct P w K mg base k x st ps (spF ps.length io nw fun _ => none) :=
  ⟨f, fd, m, F, b, ⟨fun _ _ _ h => h.1, fun _ _ _ _ _ _ _ _ _ _ _ _ _ h => by
    obtain ⟨_, _, _, _, _, _, _, e, _⟩ := h
    cases e⟩⟩
end FV
end
section
set_option Elab.async false
set_option linter.all false
set_option maxRecDepth 100000
set_option maxHeartbeats 4000000
/-! Plain laws of the readings. -/
namespace FV
open PySem PySem.Spec L2
/-! ### slots -/
theorem gt_z {o : Option D} {S : Sl} : gt (o :: S) 0 = o := rfl
theorem gt_s {o : Option D} {S : Sl} {n : Nat} : gt (o :: S) (n + 1) = gt S n := rfl
theorem mrg_nil {S T : Sl} : mrg [] S T = S := rfl
theorem gFn_rt {nw : Bool} {m : Nat} {s : CM} {S S' : Sl} {d : D} (h : s (S ++ List.replicate m none) = some (.rt d, S')) : gFn nw [] m s S = some (d, S) := by
  unfold gFn
  rw [h]
  rfl
theorem gFn_nx {m : Nat} {s : CM} {S S' : Sl} (h : s (S ++ List.replicate m none) = some (.nx, S')) : gFn false [] m s S = some (.none, S) := by
  unfold gFn
  rw [h]
  rfl
/-! ### control -/
section
variable {f g : CM} {t : SM} {S S1 S2 : Sl} {d : D} {r : Ctl × Sl} {e : SM} {i : Nat}
theorem seq_nx (h : f S = some (.nx, S1)) : cSeq f g S = g S1 := by unfold cSeq; rw [h]; rfl
theorem seq_rt (h : f S = some (.rt d, S1)) : cSeq f g S = some (.rt d, S1) := by unfold cSeq; rw [h]; rfl
theorem seq_bk (h : f S = some (.bk, S1)) : cSeq f g S = some (.bk, S1) := by unfold cSeq; rw [h]; rfl
theorem if_t (h : t S = some (.bool true, S1)) : cIf t f g S = f S1 := by unfold cIf; rw [h]; rfl
theorem if_f (h : t S = some (.bool false, S1)) : cIf t f g S = g S1 := by unfold cIf; rw [h]; rfl
theorem ret_ (h : e S = some (d, S1)) : cRet e S = some (.rt d, S1) := by unfold cRet; rw [h]; rfl
theorem set_ (h : e S = some (d, S1)) : cSet i e S = some (.nx, S1.set i (some d)) := by unfold cSet; rw [h]; rfl
theorem drop_ (h : e S = some (d, S1)) : cDrop e S = some (.nx, S1) := by unfold cDrop; rw [h]; rfl
theorem nx_ : cNx S = some (.nx, S) := rfl
end
/-! ### values -/
section
variable {fa fb fc : SM} {S S1 S2 S3 : Sl} {x y z : D} {g : D → D → Option D} {fl : SL} {xs : List D} {b : Bool}
theorem m1_ {g : D → Option D} (h : fa S = some (x, S1)) (e : g x = some z) : m1 g fa S = some (z, S1) := by unfold m1; rw [h]; simp [e]
theorem m2_ (h : fa S = some (x, S1)) (h2 : fb S1 = some (y, S2)) (e : g x y = some z) : m2 g fa fb S = some (z, S2) := by unfold m2; rw [h]; simp [h2, e]
theorem mL_ {g : List D → Option D} (h : fl S = some (xs, S1)) (e : g xs = some z) : mL g fl S = some (z, S1) := by unfold mL; rw [h]; simp [e]
theorem mCons_ (h : fa S = some (x, S1)) (h2 : fl S1 = some (xs, S2)) : mCons fa fl S = some (x :: xs, S2) := by unfold mCons; rw [h]; simp [h2]
theorem mNil_ : mNil S = some ([], S) := rfl
theorem mC_ : mC x S = some (x, S) := rfl
theorem mVar_ {i : Nat} (h : gt S i = some x) : mVar i S = some (x, S) := by unfold mVar; rw [h]; rfl
theorem mAnd_ {p : Bool} (h : fa S = some (.bool b, S)) (h2 : b = true → fb S = some (.bool p, S)) : mAnd fa fb S = some (.bool (b && p), S) := by
  unfold mAnd
  rw [h]
  cases b with
  | true => simpa using h2 rfl
  | false => rfl
theorem mOr_ {p : Bool} (h : fa S = some (.bool b, S)) (h2 : b = false → fb S = some (.bool p, S)) : mOr fa fb S = some (.bool (b || p), S) := by
  unfold mOr
  rw [h]
  cases b with
  | false => simpa using h2 rfl
  | true => rfl
theorem mCall0_ {g : SM} {Sa : Sl} (h : fl S = some (xs, S1)) (e : g (xs.map some) = some (z, Sa)) : mCall0 g fl S = some (z, S1) := by unfold mCall0; rw [h]; simp [e]
theorem mIt_ {ds : List D} (h : fa S = some (x, S1)) (e : itemsOf x = some ds) : mIt fa S = some (ds, S1) := by unfold mIt; rw [h]; simp [e]
theorem mRg_ {g : List D → Option (List D)} {ds : List D} (h : fl S = some (xs, S1)) (e : g xs = some ds) : mRg g fl S = some (ds, S1) := by unfold mRg; rw [h]; simp [e]
theorem mZip_ {ga gb : SLs} {ds es : List D} (h : ga S = some (ds, S1)) (h2 : gb S1 = some (es, S2)) : mZip ga gb S = some ((ds.zip es).map fun z => PyData.tuple [z.1, z.2], S2) := by unfold mZip; rw [h]; simp [h2]
theorem mEnum_ {ga : SLs} {ds : List D} (h : ga S = some (ds, S1)) : mEnum ga S = some (ds.zipIdx.map fun q => PyData.tuple [.int (q.2 : Nat), q.1], S1) := by unfold mEnum; rw [h]; rfl
/-- a comprehension whose body writes nothing -/
theorem goLc_ {vs : List Nat} {bt : D → Sl → Option Sl} {ft fe : SM} {S : Sl} {p : D → Bool} {y : D → D} : ∀ {ds : List D}, (∀ d ∈ ds, ∃ S2 S3 S4, bt d (wipeS S vs) = some S2 ∧ ft S2 = some (.bool (p d), S3) ∧ (p d = true → fe S3 = some (y d, S4))) →
    goLc vs [] bt ft fe ds S = some ((ds.filter p).map y, S)
  | [], _ => rfl
  | d :: ds, h => by
    obtain ⟨S2, S3, S4, h1, h2, h3⟩ := h d (by simp)
    have ih := goLc_ (ds := ds) fun d' hd => h d' (List.mem_cons_of_mem _ hd)
    unfold goLc
    rw [h1]
    simp only [Option.bind_some, h2]
    cases hp : p d with
    | true =>
      simp only [h3 hp, Option.bind_some, mrg_nil, ih, Option.map_some, List.filter_cons, hp, if_true, List.map_cons]
    | false =>
      simp only [mrg_nil, ih, List.filter_cons, hp]
      simp
theorem mLc_ {vs : List Nat} {bt : D → Sl → Option Sl} {ft fe : SM} {fi : SLs} {S S1 : Sl} {p : D → Bool} {y : D → D} {ds : List D} (h : fi S = some (ds, S1)) (hb : ∀ d ∈ ds, ∃ S2 S3 S4, bt d (wipeS S1 vs) = some S2 ∧ ft S2 = some (.bool (p d), S3) ∧ (p d = true → fe S3 = some (y d, S4))) (hz : ds.length ≤ sizeLine) :
    mLc vs [] bt ft fe fi S = some (.list ((ds.filter p).map y), S1) := by
  unfold mLc
  rw [h]
  simp only [Option.bind_some, goLc_ hb, List.length_map]
  rw [if_pos (Nat.le_trans (List.length_filter_le _ _) hz)]
end
/-! ### trees of ints -/
abbrev Ti (s : List Int) : D := .tuple (s.map PyData.int)
abbrev Li (s : List Int) : D := .list (s.map PyData.int)
theorem eqvAll_ints : ∀ s t : List Int, PyData.eqvAll (s.map PyData.int) (t.map PyData.int) = decide (s = t)
  | [], [] => by simp [PyData.eqvAll]
  | [], b :: t => by simp [PyData.eqvAll]
  | a :: s, [] => by simp [PyData.eqvAll]
  | a :: s, b :: t => by
    rw [List.map_cons, List.map_cons, PyData.eqvAll, eqvAll_ints s t]
    have : PyData.eqv (PyData.int a) (PyData.int b) = decide (a = b) := by simp [PyData.eqv]; rfl
    rw [this]
    by_cases h : a = b
    · simp [h]
    · simp [h]
theorem lay_ints : ∀ s : List Int, PyData.canLayAll0 (s.map PyData.int) = true
  | [] => rfl
  | a :: s => by rw [List.map_cons, PyData.canLayAll0, lay_ints s]; rfl
/-! ### comprehensions over a mapped list -/
section
variable {α : Type} {vs : List Nat} {bt : D → Sl → Option Sl} {ft fe : SM} {fi : SLs} {S S1 : Sl} {k : α → D}
theorem goLcM {p : α → Bool} {y : α → D} : ∀ {l : List α}, (∀ a ∈ l, ∃ S2 S3 S4, bt (k a) (wipeS S vs) = some S2 ∧ ft S2 = some (.bool (p a), S3) ∧ (p a = true → fe S3 = some (y a, S4))) →
    goLc vs [] bt ft fe (l.map k) S = some ((l.filter p).map y, S)
  | [], _ => rfl
  | d :: ds, h => by
    obtain ⟨S2, S3, S4, h1, h2, h3⟩ := h d (by simp)
    have ih := goLcM (l := ds) fun d' hd => h d' (List.mem_cons_of_mem _ hd)
    rw [List.map_cons]
    unfold goLc
    rw [h1]
    simp only [Option.bind_some, h2]
    cases hp : p d with
    | true =>
      simp only [h3 hp, Option.bind_some, mrg_nil, ih, Option.map_some, List.filter_cons, hp, if_true, List.map_cons]
    | false =>
      simp only [mrg_nil, ih, List.filter_cons, hp]
      simp
theorem mLcM {l : List α} {p : α → Bool} {y : α → D} (h : fi S = some (l.map k, S1)) (hz : l.length ≤ sizeLine) (hb : ∀ a ∈ l, ∃ S2 S3 S4, bt (k a) (wipeS S1 vs) = some S2 ∧ ft S2 = some (.bool (p a), S3) ∧ (p a = true → fe S3 = some (y a, S4))) :
    mLc vs [] bt ft fe fi S = some (.list ((l.filter p).map y), S1) := by
  unfold mLc
  rw [h]
  simp only [Option.bind_some, goLcM hb, List.length_map]
  rw [if_pos (Nat.le_trans (List.length_filter_le _ _) hz)]
theorem mLcA {l : List α} {y : α → D} (h : fi S = some (l.map k, S1)) (hz : l.length ≤ sizeLine) (hb : ∀ a ∈ l, ∃ S2 S4, bt (k a) (wipeS S1 vs) = some S2 ∧ fe S2 = some (y a, S4)) :
    mLc vs [] bt (mC (.bool true)) fe fi S = some (.list (l.map y), S1) := by
  have := mLcM (p := fun _ => true) (ft := mC (.bool true)) h hz fun a ha => by
    obtain ⟨S2, S4, h1, h2⟩ := hb a ha
    exact ⟨S2, S2, S4, h1, rfl, fun _ => h2⟩
  rw [this, List.filter_eq_self.mpr fun _ _ => rfl]
end
/-! ### operations on trees of ints -/
theorem sz : sizeLine = 16777216 := rfl
theorem gLen_T {s : List Int} : gLen (Ti s) = some (.int s.length) := by
  show some (PyData.int ((s.map PyData.int).length : Nat)) = _
  rw [List.length_map]
theorem gLen_L {s : List Int} : gLen (Li s) = some (.int s.length) := by
  show some (PyData.int ((s.map PyData.int).length : Nat)) = _
  rw [List.length_map]
theorem gSum_T {s : List Int} : gSum (Ti s) = some (.int s.sum) := by
  show ((intsOf (s.map PyData.int)).map fun ns => PyData.int ns.sum) = _
  rw [intsOf_map]
  rfl
theorem gAll_L {s : List Bool} : gAll (.list (s.map PyData.bool)) = some (.bool (s.all id)) := by
  show ((blsOf (s.map PyData.bool)).map fun bs => PyData.bool (bs.all id)) = _
  rw [blsOf_map]
  rfl
theorem gTuple_L {xs : List D} : gTuple (.list xs) = some (.tuple xs) := rfl
theorem items_T {s : List Int} : itemsOf (Ti s) = some (s.map PyData.int) := rfl
theorem items_L {s : List Int} : itemsOf (Li s) = some (s.map PyData.int) := rfl
theorem cutD_from {xs : List D} (k : Nat) : cutD xs (some (k : Int)) none = xs.drop k := by
  unfold cutD
  rw [HT.sIx_nat, HT.sIx_none]
  by_cases h : k ≤ xs.length
  · rw [Nat.min_eq_left h, List.take_of_length_le (by rw [List.length_drop]; exact Nat.le_refl _)]
  · rw [Nat.min_eq_right (by omega), List.drop_length, List.drop_of_length_le (by omega)]
    simp
theorem cutD_to {xs : List D} (k : Nat) : cutD xs none (some (k : Int)) = xs.take k := by
  unfold cutD
  rw [HT.sIx_nat, HT.sIx_none, List.drop_zero, Nat.sub_zero]
  by_cases h : k ≤ xs.length
  · rw [Nat.min_eq_left h]
  · rw [Nat.min_eq_right (by omega), List.take_length, List.take_of_length_le (by omega)]
theorem gCut_from {s : List Int} (k : Nat) : gCut (some (k : Int)) none (Ti s) = some (Ti (s.drop k)) := by
  show some (PyData.tuple (cutD (s.map PyData.int) _ _)) = _
  rw [cutD_from, ← List.map_drop]
theorem gCut_to {s : List Int} (k : Nat) : gCut none (some (k : Int)) (Ti s) = some (Ti (s.take k)) := by
  show some (PyData.tuple (cutD (s.map PyData.int) _ _)) = _
  rw [cutD_to, ← List.map_take]
theorem atI_nat {ds : List D} {k : Nat} : atI ds (k : Int) = ds[k]? := by
  unfold atI ixN
  rw [if_pos (by omega)]
  by_cases h : k < ds.length
  · rw [if_pos (by omega)]
    rfl
  · rw [if_neg (by omega), List.getElem?_eq_none (by omega)]
    rfl
theorem gIdx_T {s : List Int} {k : Nat} (h : k < s.length) : gIdx (Ti s) (.int (k : Int)) = some (.int (s.getD k 0)) := by
  show (itemsOf (Ti s)).bind (fun ds => atI ds (k : Int)) = _
  rw [items_T, Option.bind_some, atI_nat, List.getElem?_map, List.getElem?_eq_getElem h, List.getD_eq_getElem?_getD, List.getElem?_eq_getElem h]
  rfl
theorem gIdx_L {s : List Int} {k : Nat} (h : k < s.length) : gIdx (Li s) (.int (k : Int)) = some (.int (s.getD k 0)) := by
  show (itemsOf (Li s)).bind (fun ds => atI ds (k : Int)) = _
  rw [items_L, Option.bind_some, atI_nat, List.getElem?_map, List.getElem?_eq_getElem h, List.getD_eq_getElem?_getD, List.getElem?_eq_getElem h]
  rfl
theorem gAdd_T {s t : List Int} (h : s.length + t.length ≤ sizeLine) : gAdd (Ti s) (Ti t) = some (Ti (s ++ t)) := by
  show (if (s.map PyData.int).length + (t.map PyData.int).length ≤ sizeLine then some (PyData.tuple (s.map PyData.int ++ t.map PyData.int)) else none) = _
  rw [List.length_map, List.length_map, if_pos h, ← List.map_append]
theorem gTup_1 (i : Int) : gTup [.int i] = some (Ti [i]) := rfl
theorem gR1_ {n : Nat} (h : n < 4611686018427387904) : gR1 [.int (n : Int)] = some ((List.range n).map fun i => PyData.int (0 + (i : Nat))) := by
  show (if okB (n : Int) = true then some ((List.range (n : Int).toNat).map fun i => PyData.int (0 + (i : Nat))) else none) = _
  rw [if_pos (by unfold okB; simp; omega)]
  rfl
theorem depth_ints : ∀ s : List Int, PyData.depthAll (s.map PyData.int) = 0
  | [] => rfl
  | a :: s => by
    rw [List.map_cons, PyData.depthAll, depth_ints s]
    simp [PyData.depth]
theorem shaped_T {s : List Int} : SeqAt.shaped (Ti s) = true := by
  unfold SeqAt.shaped
  rw [Bool.and_eq_true, decide_eq_true_eq]
  refine ⟨lay_ints s, ?_⟩
  show PyData.depth (.tuple (s.map PyData.int)) ≤ 64
  rw [PyData.depth, depth_ints]
  omega
theorem shaped_L {s : List Int} : SeqAt.shaped (Li s) = true := by
  unfold SeqAt.shaped
  rw [Bool.and_eq_true, decide_eq_true_eq]
  refine ⟨lay_ints s, ?_⟩
  show PyData.depth (.list (s.map PyData.int)) ≤ 64
  rw [PyData.depth, depth_ints]
  omega
theorem gEq_T {s t : List Int} : gEq (Ti s) (Ti t) = some (.bool (decide (s = t))) := by
  unfold gEq
  rw [if_pos ⟨shaped_T, shaped_T⟩]
  show some (PyData.bool (PyData.eqv (.tuple _) (.tuple _))) = _
  rw [PyData.eqv, eqvAll_ints]
theorem gNe_T {s t : List Int} : gNe (Ti s) (Ti t) = some (.bool (!decide (s = t))) := by
  unfold gNe
  rw [if_pos ⟨shaped_T, shaped_T⟩]
  show some (PyData.bool (!PyData.eqv (.tuple _) (.tuple _))) = _
  rw [PyData.eqv, eqvAll_ints]
theorem gEq_L {s t : List Int} : gEq (Li s) (Li t) = some (.bool (decide (s = t))) := by
  unfold gEq
  rw [if_pos ⟨shaped_L, shaped_L⟩]
  show some (PyData.bool (PyData.eqv (.list _) (.list _))) = _
  rw [PyData.eqv, eqvAll_ints]
theorem shaped_I {i : Int} : SeqAt.shaped (.int i) = true := by
  simp [SeqAt.shaped, PyData.canLay0, PyData.depth]
theorem shaped_B {i : Bool} : SeqAt.shaped (.bool i) = true := by
  simp [SeqAt.shaped, PyData.canLay0, PyData.depth]
theorem gEq_I {i j : Int} : gEq (.int i) (.int j) = some (.bool (decide (i = j))) := by
  unfold gEq
  rw [if_pos ⟨shaped_I, shaped_I⟩]
  have : PyData.eqv (PyData.int i) (PyData.int j) = decide (i = j) := by simp [PyData.eqv]; rfl
  rw [this]
theorem gNe_I {i j : Int} : gNe (.int i) (.int j) = some (.bool (!decide (i = j))) := by
  unfold gNe
  rw [if_pos ⟨shaped_I, shaped_I⟩]
  have : PyData.eqv (PyData.int i) (PyData.int j) = decide (i = j) := by simp [PyData.eqv]; rfl
  rw [this]
theorem gEq_B {i j : Bool} : gEq (.bool i) (.bool j) = some (.bool (decide (i = j))) := by
  unfold gEq
  rw [if_pos ⟨shaped_B, shaped_B⟩]
  cases i <;> cases j <;> rfl
theorem gNe_B {i j : Bool} : gNe (.bool i) (.bool j) = some (.bool (!decide (i = j))) := by
  unfold gNe
  rw [if_pos ⟨shaped_B, shaped_B⟩]
  cases i <;> cases j <;> rfl
section
variable {fa fb : SM} {S S1 S2 : Sl} {s : List Int}
theorem mCut_from {k : Nat} (h : fa S = some (Ti s, S1)) (hk : fb S1 = some (.int (k : Int), S2)) : mCut fa (oSome fb) oNone S = some (Ti (s.drop k), S2) := by
  unfold mCut oSome oNone
  rw [h]
  simp only [Option.bind_some, hk, gCut_from, Option.map_some]
theorem mCut_to {k : Nat} (h : fa S = some (Ti s, S1)) (hk : fb S1 = some (.int (k : Int), S2)) : mCut fa oNone (oSome fb) S = some (Ti (s.take k), S2) := by
  unfold mCut oSome oNone
  rw [h]
  simp only [Option.bind_some, hk, gCut_to, Option.map_some]
theorem mIf_t {ft fa fb : SM} {S3 : Sl} {d : D} (h : ft S = some (.bool true, S1)) (h2 : fa S1 = some (d, S3)) : mIf ft fa fb S = some (d, S3) := by unfold mIf; rw [h]; exact h2
theorem mIf_f {ft fa fb : SM} {S3 : Sl} {d : D} (h : ft S = some (.bool false, S1)) (h2 : fb S1 = some (d, S3)) : mIf ft fa fb S = some (d, S3) := by unfold mIf; rw [h]; exact h2
end
theorem map_int {α : Type} (l : List α) (f : α → Int) : (l.map fun x => PyData.int (f x)) = (l.map f).map PyData.int := by rw [List.map_map]; rfl
theorem map_bool {α : Type} (l : List α) (f : α → Bool) : (l.map fun x => PyData.bool (f x)) = (l.map f).map PyData.bool := by rw [List.map_map]; rfl
/-! ### loops -/
section
variable {α : Type} {b : D → Sl → Option Sl} {fb : CM} {k : α → D} {l : List α}
theorem cFor_inv (Inv : Nat → Sl → Prop) (h : ∀ i (hi : i < l.length) S, Inv i S → ∃ S1 S2, b (k l[i]) S = some S1 ∧ fb S1 = some (.nx, S2) ∧ Inv (i + 1) S2) {S : Sl} (h0 : Inv 0 S) : ∃ S', cFor b fb (l.map k) S = some (.nx, S') ∧ Inv l.length S' := by
  have key : ∀ n i, i + n = l.length → ∀ S, Inv i S → ∃ S', cFor b fb ((l.drop i).map k) S = some (.nx, S') ∧ Inv l.length S' := by
    intro n
    induction n with
    | zero =>
      intro i hi S hS
      have e : i = l.length := by omega
      subst e
      rw [List.drop_length]
      exact ⟨S, rfl, hS⟩
    | succ n ih =>
      intro i hi S hS
      have hlt : i < l.length := by omega
      obtain ⟨S1, S2, e1, e2, h3⟩ := h i hlt S hS
      obtain ⟨S', e4, h5⟩ := ih (i + 1) (by omega) S2 h3
      refine ⟨S', ?_, h5⟩
      rw [List.drop_eq_getElem_cons hlt, List.map_cons]
      unfold cFor
      rw [e1]
      simp only [Option.bind_some, e2, e4]
  have := key l.length 0 (by omega) S h0
  simpa using this
/-- with a break -/
theorem cFor_brk (Inv : Nat → Sl → Prop) (Post : Sl → Prop) (h : ∀ i (hi : i < l.length) S, Inv i S → ∃ S1 S2, b (k l[i]) S = some S1 ∧ ((fb S1 = some (.nx, S2) ∧ Inv (i + 1) S2) ∨ (fb S1 = some (.bk, S2) ∧ Post S2))) {S : Sl} (h0 : Inv 0 S) : ∃ S', cFor b fb (l.map k) S = some (.nx, S') ∧ (Inv l.length S' ∨ Post S') := by
  have key : ∀ n i, i + n = l.length → ∀ S, Inv i S → ∃ S', cFor b fb ((l.drop i).map k) S = some (.nx, S') ∧ (Inv l.length S' ∨ Post S') := by
    intro n
    induction n with
    | zero =>
      intro i hi S hS
      have e : i = l.length := by omega
      subst e
      rw [List.drop_length]
      exact ⟨S, rfl, .inl hS⟩
    | succ n ih =>
      intro i hi S hS
      have hlt : i < l.length := by omega
      obtain ⟨S1, S2, e1, ⟨e2, h3⟩ | ⟨e2, h3⟩⟩ := h i hlt S hS
      · obtain ⟨S', e4, h5⟩ := ih (i + 1) (by omega) S2 h3
        refine ⟨S', ?_, h5⟩
        rw [List.drop_eq_getElem_cons hlt, List.map_cons]
        unfold cFor
        rw [e1]
        simp only [Option.bind_some, e2, e4]
      · refine ⟨S2, ?_, .inr h3⟩
        rw [List.drop_eq_getElem_cons hlt, List.map_cons]
        unfold cFor
        rw [e1]
        simp only [Option.bind_some, e2]
  have := key l.length 0 (by omega) S h0
  simpa using this
theorem cForS_ {fi : SLs} {S S1 : Sl} {ds : List D} {r : Ctl × Sl} (h : fi S = some (ds, S1)) (h2 : cFor b fb ds S1 = some r) : cForS fi b fb S = some r := by
  unfold cForS
  rw [h]
  exact h2
end
theorem cSetIx_ {i j : Nat} {fv fk : SM} {S S1 : Sl} {d : D} {ds : List D} (hv : fv S = some (d, S1)) (hl : gt S1 i = some (.list ds)) (hk : fk S1 = some (.int (j : Int), S1)) (hj : j < ds.length) : cSetIx i fv fk S = some (.nx, S1.set i (some (.list (ds.set j d)))) := by
  unfold cSetIx
  rw [hv]
  simp only [Option.bind_some, hl, isLst, if_true, hk]
  unfold ixN
  rw [if_pos (by omega), if_pos (by omega)]
  simp
theorem mVarO_ {i : Nat} {S : Sl} {ds : List D} (h : gt S i = some (.list ds)) : mVarO i S = some (.list ds, S) := by
  unfold mVarO
  rw [h]
theorem gRep_0 {n : Int} (h : n ≤ 1000) (h2 : -1000 ≤ n) : gRep (.list [.int 0]) (.int n) = some (Li (List.replicate n.toNat 0)) := by
  show (if -(2 ^ 63) ≤ n ∧ n < 2 ^ 63 ∧ ([PyData.int 0] : List D).length * n.toNat ≤ sizeLine then some (PyData.list (List.replicate n.toNat [PyData.int 0]).flatten) else none) = _
  rw [if_pos ⟨by omega, by omega, by rw [sz]; simp; omega⟩]
  congr 2
  induction n.toNat with
  | zero => rfl
  | succ m ih => rw [List.replicate_succ, List.replicate_succ, List.flatten_cons, ih]; rfl
/-! ### shown texts -/
structure TxOk (n : Nat) (t : Str) : Prop where
  len : t.length ≤ n
  ok : PyData.strOk t = true
theorem TxOk.mono {n m : Nat} {t : Str} (h : TxOk n t) (l : n ≤ m) : TxOk m t := ⟨Nat.le_trans h.len l, h.ok⟩
theorem TxOk.app {n m : Nat} {t u : Str} (h : TxOk n t) (k : TxOk m u) : TxOk (n + m) (t ++ u) := by
  refine ⟨by rw [Str.length_append]; have := h.len; have := k.len; omega, ?_⟩
  have h1 := h.ok
  have h2 := k.ok
  unfold PyData.strOk at h1 h2 ⊢
  have e : (t ++ u).cps = t.cps ++ u.cps := rfl
  rw [e, Array.all_append, h1, h2]
  rfl
theorem TxOk.join {k : Nat} : ∀ {ts : List Str}, (∀ t ∈ ts, TxOk k t) → TxOk ((k + 2) * ts.length) (Str.join ", " ts)
  | [], _ => ⟨Nat.le_trans (Nat.le_of_eq rfl) (Nat.zero_le _), by decide +kernel⟩
  | [t], h => (h t (by simp)).mono (by simp)
  | t :: u :: ts, h => by
    have ih := TxOk.join (ts := u :: ts) fun x hx => h x (List.mem_cons_of_mem _ hx)
    have h1 := (h t (by simp)).app (u := (", " : Str)) (m := 2) ⟨by decide +kernel, by decide +kernel⟩
    have h2 := h1.app ih
    have e : Str.join ", " (t :: u :: ts) = t ++ ", " ++ Str.join ", " (u :: ts) := rfl
    rw [e]
    refine h2.mono ?_
    simp only [List.length_cons, Nat.mul_add]
    omega
theorem tx_int {i : Int} (h : 0 ≤ i) (h2 : i ≤ 99) : TxOk 2 ((toString i : String) : Str) := by
  obtain ⟨n, rfl⟩ : ∃ n : Nat, i = n := ⟨i.toNat, by omega⟩
  have key : ∀ n : Fin 100, (((toString ((n.val : Nat) : Int) : String) : Str).length ≤ 2) ∧ PyData.strOk ((toString ((n.val : Nat) : Int) : String) : Str) = true := by decide +kernel
  have := key ⟨n, by omega⟩
  exact ⟨this.1, this.2⟩
theorem shownAll_mem : ∀ {ds : List D} {t : Str}, t ∈ PyData.shownAll ds → ∃ d ∈ ds, t = PyData.shown d
  | [], t, h => by rw [PyData.shownAll_nil] at h; cases h
  | d :: ds, t, h => by
    rw [PyData.shownAll_cons] at h
    rcases List.mem_cons.mp h with e | e
    · exact ⟨d, by simp, e⟩
    · obtain ⟨d', h1, h2⟩ := shownAll_mem e
      exact ⟨d', List.mem_cons_of_mem _ h1, h2⟩
theorem tx_T {s : List Int} (h : ∀ x ∈ s, 0 ≤ x ∧ x ≤ 99) {n : Nat} (hn : s.length ≤ n) : TxOk (4 * n + 3) (PyData.shown (Ti s)) := by
  have e : PyData.shown (Ti s) = ("(" : Str) ++ Str.join ", " (PyData.shownAll (s.map PyData.int)) ++ (if (s.map PyData.int).length == 1 then ",)" else ")" : String) := PyData.shown_tuple _
  rw [e]
  have h1 : TxOk 1 ("(" : Str) := ⟨by decide +kernel, by decide +kernel⟩
  have h2 : TxOk ((2 + 2) * (PyData.shownAll (s.map PyData.int)).length) (Str.join ", " (PyData.shownAll (s.map PyData.int))) := TxOk.join fun t ht => by
    obtain ⟨d, hd, rfl⟩ := shownAll_mem ht
    obtain ⟨x, hx, rfl⟩ := List.mem_map.mp hd
    rw [PyData.shown_int]
    exact tx_int (h x hx).1 (h x hx).2
  have h3 : TxOk 2 ((if (s.map PyData.int).length == 1 then ",)" else ")" : String) : Str) := by
    split
    · exact ⟨by decide +kernel, by decide +kernel⟩
    · exact ⟨by decide +kernel, by decide +kernel⟩
  refine ((h1.app h2).app h3).mono ?_
  rw [PyData.shownAll_length, List.length_map]
  omega
theorem tx_list {ds : List D} {k : Nat} (h : ∀ d ∈ ds, TxOk k (PyData.shown d)) : TxOk ((k + 2) * ds.length + 2) (PyData.shown (.list ds)) := by
  rw [PyData.shown_list]
  have h1 : TxOk 1 ("[" : Str) := ⟨by decide +kernel, by decide +kernel⟩
  have h2 : TxOk ((k + 2) * (PyData.shownAll ds).length) (Str.join ", " (PyData.shownAll ds)) := TxOk.join fun t ht => by
    obtain ⟨d, hd, rfl⟩ := shownAll_mem ht
    exact h d hd
  have h3 : TxOk 1 ("]" : Str) := ⟨by decide +kernel, by decide +kernel⟩
  refine ((h1.app h2).app h3).mono ?_
  rw [PyData.shownAll_length]
  omega
/-- what repr takes -/
structure RpOk (d : D) (n : Nat) : Prop where
  show_ : d.showable = true
  lay : d.canLay0 = true
  dep : d.depth ≤ 60
  tx : TxOk n (PyData.shown d)
theorem gRepr_ {ds : List D} {n : Nat} (h : RpOk (.list ds) n) (hn : n ≤ 16777216) : gRepr (.list ds) = some (.str (PyData.shown (.list ds))) := by
  unfold gRepr
  rw [if_pos]
  refine ⟨?_, rfl⟩
  unfold reprOk
  rw [h.show_, PyData.hasDict_of_canLay _ h.lay, decide_eq_true (by have := h.dep; omega), decide_eq_true (by rw [sz]; have := h.tx.len; omega)]
  rfl
theorem shaped_S {x : Str} (h : PyData.strOk x = true) : SeqAt.shaped (.str x) = true := by
  unfold SeqAt.shaped
  rw [Bool.and_eq_true, decide_eq_true_eq]
  exact ⟨h, by simp [PyData.depth]⟩
theorem repr_same {fa fb : SM} {S S1 S2 : Sl} {ds : List D} {n : Nat} (ha : fa S = some (.list ds, S1)) (hb : fb S1 = some (.list ds, S2)) (h : RpOk (.list ds) n) (hn : n ≤ 16777216) :
    m2 gNe (mL (g1 gRepr) (mCons fa mNil)) (mL (g1 gRepr) (mCons fb mNil)) S = some (.bool false, S2) ∧ m2 gEq (mL (g1 gRepr) (mCons fa mNil)) (mL (g1 gRepr) (mCons fb mNil)) S = some (.bool true, S2) := by
  have e1 := gRepr_ h hn
  have sh := shaped_S h.tx.ok
  refine ⟨m2_ (mL_ (mCons_ ha mNil_) e1) (mL_ (mCons_ hb mNil_) e1) ?_, m2_ (mL_ (mCons_ ha mNil_) e1) (mL_ (mCons_ hb mNil_) e1) ?_⟩
  · unfold gNe
    rw [if_pos ⟨sh, sh⟩]
    simp [PyData.eqv]
  · unfold gEq
    rw [if_pos ⟨sh, sh⟩]
    simp [PyData.eqv]
theorem show_ints {s : List Int} (h : ∀ x ∈ s, 0 ≤ x ∧ x ≤ 99) : PyData.showableAll (s.map PyData.int) = true :=
  PyData.showableAll_ints s fun n hn => by
    have := h n hn
    have h2 : n.natAbs < 128 := by omega
    have h3 : n.natAbs.log2 < 7 := by
      by_cases hz : n.natAbs = 0
      · rw [hz]; decide
      · exact (Nat.log2_lt hz).mpr (by omega)
    omega
end FV
end
section
set_option Elab.async false
set_option linter.all false
set_option maxRecDepth 100000
set_option maxHeartbeats 4000000
/-! The draws, the same in every law. -/
namespace FV
open PySem PySem.Spec L2
def drawC : CM := (cSeq (cIf (m2 gGt (m2 gIdx (mVarO 0) (mC (.int 0))) (mC (.int 0))) (cSeq (cSet 2 (m2 gFdiv (m2 gIdx (mVarO 0) (mC (.int 0))) (mVar 1))) (cSeq (cSet 3 (m2 gSub (m2 gIdx (mVarO 0) (mC (.int 0))) (m2 gMulI (mVar 2) (mVar 1)))) (cSeq (cSetIx 0 (mVar 2) (mC (.int 0))) (cSeq (cRet (mVar 3)) cNx)))) cNx) (cSeq (cSetIx 0 (m2 gAdd (m2 gIdx (mVarO 0) (mC (.int 2))) (mC (.int 1))) (mC (.int 2))) (cSeq (cSet 4 (m2 gAdd (m2 gIdx (mVarO 0) (mC (.int 1))) (m2 gMulI (mC (.int 6700417)) (m2 gIdx (mVarO 0) (mC (.int 2)))))) (cSeq (cSet 4 (m2 gMod (mL (g1 FV.gInt) (mCons (m2 gAdd (m2 gMulI (m2 gMulI (mVar 4) (mVar 4)) (mVar 4)) (m2 gMulI (mC (.int 15485863)) (m2 gIdx (mVarO 0) (mC (.int 2))))) mNil)) (m2 gAdd (m2 gPow (mC (.int 10)) (mC (.int 43))) (mC (.int 57))))) (cSeq (cSet 4 (m2 gMod (mL (g1 FV.gInt) (mCons (m2 gAdd (m2 gMulI (mVar 4) (mVar 4)) (mC (.int 32452843))) mNil)) (m2 gAdd (m2 gPow (mC (.int 10)) (mC (.int 38))) (mC (.int 133))))) (cSeq (cRet (m2 gMod (mL (g1 FV.gInt) (mCons (m2 gFdiv (mVar 4) (m2 gPow (mC (.int 10)) (mC (.int 9)))) mNil)) (mVar 1))) cNx))))))
def gDraw : SM := gFn false [0] 3 drawC
def feedC : CM := (cSeq (cSet 2 (m2 gAdd (m2 gMulI (mC (.int 977)) (mVar 1)) (mL (g1 gSum) (mCons (mCut (mVar 0) oNone (oSome (mC (.int 1)))) mNil)))) (cSeq (cIf (m2 gLt (mVar 1) (mL (g1 gLen) (mCons (mVar 0) mNil))) (cSeq (cSet 2 (m2 gIdx (mVar 0) (mVar 1))) cNx) cNx) (cSeq (cRet (mL gLst (mCons (mL (g2 gMax2) (mCons (mC (.int 0)) (mCons (m2 gSub (mVar 2) (m2 gPow (mC (.int 10)) (mC (.int 18)))) mNil))) (mCons (m2 gMod (mL (g1 FV.gInt) (mCons (m2 gAdd (m2 gMulI (mVar 2) (mC (.int 19))) (m2 gMulI (mC (.int 7)) (mVar 1))) mNil)) (m2 gAdd (m2 gPow (mC (.int 10)) (mC (.int 39))) (mC (.int 23)))) (mCons (mC (.int 0)) mNil))))) cNx)))
def gFeed : SM := gFn true [] 1 feedC
theorem gFn_io {m : Nat} {s : CM} {x y : Option D} {S S' : Sl} {d : D} (h : s (x :: S ++ List.replicate m none) = some (.rt d, y :: S')) : gFn false [0] m s (x :: S) = some (d, y :: S) := by
  unfold gFn
  rw [h]
  rfl
theorem big_of {i j : Int} (hi : i.natAbs < 2 ^ 400) (hj : j.natAbs < 2 ^ 400) : bigOk i j = true := by
  have l : ∀ n : Nat, n < 2 ^ 400 → n.log2 < 400 := fun n h => by
    by_cases hz : n = 0
    · rw [hz]; decide
    · exact (Nat.log2_lt hz).mpr h
  unfold bigOk
  have h1 := l _ hi
  have h2 := l _ hj
  rw [decide_eq_true (show i.natAbs.log2 + j.natAbs.log2 < 1000000 by omega)]
  simp
theorem big_l {i j : Int} (h : i.natAbs < 18446744073709551616) : bigOk i j = true := by
  unfold bigOk
  rw [decide_eq_true h]
  rfl
theorem big_r {i j : Int} (h : j.natAbs < 18446744073709551616) : bigOk i j = true := by
  unfold bigOk
  rw [decide_eq_true h]
  simp
theorem gMulI_ {i j : Int} (h : bigOk i j = true) : gMulI (.int i) (.int j) = some (.int (i * j)) := by
  show (if bigOk i j = true then some (PyData.int (i * j)) else none) = _
  rw [if_pos h]
theorem gMod_ {i j : Int} (h : j ≠ 0) : gMod (.int i) (.int j) = some (.int (i.fmod j)) := by
  show (if decide (j ≠ 0) = true then some (PyData.int (i.fmod j)) else none) = _
  rw [if_pos (decide_eq_true h)]
theorem gFdiv_ {i j : Int} (h : 0 < j) (h2 : j < 1073741824) : gFdiv (.int i) (.int j) = some (.int (i.fdiv j)) := by
  show (if ((decide (j ≠ 0) && decide (j.natAbs < 1073741824)) || (decide (0 < j) && decide (j.natAbs.log2 < 9000))) = true then some (PyData.int (i.fdiv j)) else none) = _
  rw [if_pos]
  rw [decide_eq_true (show j ≠ 0 by omega), decide_eq_true (show j.natAbs < 1073741824 by omega)]
  rfl
theorem gPow_ {i : Int} {j : Nat} (h : i.natAbs < 18446744073709551616) (h2 : j ≤ 1000000) : gPow (.int i) (.int (j : Int)) = some (.int (i ^ j)) := by
  show (if (decide (0 ≤ (j : Int)) && decide ((j : Int) ≤ 1000000) && decide (i.natAbs < 18446744073709551616)) = true then some (PyData.int (i ^ (j : Int).toNat)) else none) = _
  rw [if_pos]
  · rfl
  · rw [decide_eq_true (show 0 ≤ (j : Int) by omega), decide_eq_true (show (j : Int) ≤ 1000000 by omega), decide_eq_true h]
    rfl
theorem gInt_I {i : Int} : g1 FV.gInt [.int i] = some (.int i) := rfl
theorem bnd {i j : Int} {p q : Nat} (hi : i.natAbs < 2 ^ p) (hj : j.natAbs < 2 ^ q) : (i * j).natAbs < 2 ^ (p + q) := by
  rw [Int.natAbs_mul, Nat.pow_add]
  exact Nat.mul_lt_mul_of_lt_of_lt hi hj
/-- what a feed is: n draws may have been made -/
structure Feed (n : Nat) (l : List Int) : Prop where
  ex : ∃ a b c : Int, l = [a, b, c] ∧ 0 ≤ a ∧ 0 ≤ b ∧ b < 10 ^ 40 ∧ 0 ≤ c ∧ c ≤ n
theorem Feed.mono {n m : Nat} {l : List Int} (h : Feed n l) (k : n ≤ m) : Feed m l := by
  obtain ⟨a, b, c, e, h1, h2, h3, h4, h5⟩ := h.ex
  exact ⟨a, b, c, e, h1, h2, h3, h4, by omega⟩
theorem draw_ {n : Nat} {l : List Int} (h : Feed n l) (hn : n ≤ 1000000) {m : Int} (hm : 0 < m) (hm2 : m ≤ 1000000) :
    ∃ (r : Int) (l' : List Int), gDraw [some (Li l), some (.int m)] = some (.int r, [some (Li l'), some (.int m)]) ∧ 0 ≤ r ∧ r < m ∧ Feed (n + 1) l' := by
  obtain ⟨a, b, c, rfl, h1, h2, h3, h4, h5⟩ := h.ex
  have c0 : m2 gGt (m2 gIdx (mVarO 0) (mC (.int 0))) (mC (.int 0)) [some (Li [a, b, c]), some (.int m), none, none, none] = some (.bool (decide (0 < a)), [some (Li [a, b, c]), some (.int m), none, none, none]) := m2_ (m2_ (mVarO_ rfl) mC_ (gIdx_L (k := 0) (by simp))) mC_ rfl
  by_cases ha : 0 < a
  · rw [decide_eq_true ha] at c0
    have e1 : cSet 2 (m2 gFdiv (m2 gIdx (mVarO 0) (mC (.int 0))) (mVar 1)) [some (Li [a, b, c]), some (.int m), none, none, none] = some (.nx, [some (Li [a, b, c]), some (.int m), some (.int (a.fdiv m)), none, none]) :=
      set_ (S1 := [some (Li [a, b, c]), some (.int m), none, none, none]) (m2_ (m2_ (mVarO_ rfl) mC_ (gIdx_L (k := 0) (by simp))) (mVar_ rfl) (gFdiv_ hm (by omega)))
    have e2 : cSet 3 (m2 gSub (m2 gIdx (mVarO 0) (mC (.int 0))) (m2 gMulI (mVar 2) (mVar 1))) [some (Li [a, b, c]), some (.int m), some (.int (a.fdiv m)), none, none] = some (.nx, [some (Li [a, b, c]), some (.int m), some (.int (a.fdiv m)), some (.int (a - a.fdiv m * m)), none]) :=
      set_ (S1 := [some (Li [a, b, c]), some (.int m), some (.int (a.fdiv m)), none, none]) (m2_ (m2_ (mVarO_ rfl) mC_ (gIdx_L (k := 0) (by show _ < 3; decide))) (m2_ (mVar_ rfl) (mVar_ rfl) (gMulI_ (big_r (by omega)))) rfl)
    have e3 : cSetIx 0 (mVar 2) (mC (.int 0)) [some (Li [a, b, c]), some (.int m), some (.int (a.fdiv m)), some (.int (a - a.fdiv m * m)), none] = some (.nx, [some (Li [a.fdiv m, b, c]), some (.int m), some (.int (a.fdiv m)), some (.int (a - a.fdiv m * m)), none]) :=
      cSetIx_ (j := 0) (ds := [PyData.int a, PyData.int b, PyData.int c]) (mVar_ rfl) rfl rfl (by show _ < 3; decide)
    refine ⟨a - a.fdiv m * m, [a.fdiv m, b, c], gFn_io (S' := [some (.int m), some (.int (a.fdiv m)), some (.int (a - a.fdiv m * m)), none]) (seq_rt ((if_t c0).trans ((seq_nx e1).trans ((seq_nx e2).trans ((seq_nx e3).trans (seq_rt (ret_ (mVar_ rfl)))))))), ?_, ?_, ⟨a.fdiv m, b, c, rfl, ?_, h2, h3, h4, by omega⟩⟩
    · rw [Int.fdiv_eq_ediv_of_nonneg _ (by omega)]
      have := Int.emod_nonneg a (show m ≠ 0 by omega)
      rw [Int.emod_def, Int.mul_comm] at this
      exact this
    · rw [Int.fdiv_eq_ediv_of_nonneg _ (by omega)]
      have := Int.emod_lt_of_pos a hm
      rw [Int.emod_def, Int.mul_comm] at this
      exact this
    · rw [Int.fdiv_eq_ediv_of_nonneg _ (by omega)]
      exact Int.ediv_nonneg h1 (by omega)
  · rw [decide_eq_false ha] at c0
    let x1 : Int := b + 6700417 * (c + 1)
    let x2 : Int := (x1 * x1 * x1 + 15485863 * (c + 1)).fmod (10 ^ 43 + 57)
    let x3 : Int := (x2 * x2 + 32452843).fmod (10 ^ 38 + 133)
    have b1 : x1.natAbs < 2 ^ 140 := by
      show (b + 6700417 * (c + 1)).natAbs < 2 ^ 140
      have e1 : (2 : Nat) ^ 140 = 1393796574908163946345982392040522594123776 := by decide
      have e2 : (10 : Int) ^ 40 = 10000000000000000000000000000000000000000 := by decide
      rw [e1]
      rw [e2] at h3
      omega
    have b2 : 0 ≤ x2 ∧ x2 < 10 ^ 43 + 57 := ⟨Int.fmod_nonneg_of_pos _ (by decide), Int.fmod_lt_of_pos _ (by decide)⟩
    have b2' : x2.natAbs < 2 ^ 144 := by
      have e1 : (2 : Nat) ^ 144 = 22300745198530623141535718272648361505980416 := by decide
      have e2 : (10 : Int) ^ 43 + 57 = 10000000000000000000000000000000000000000057 := by decide
      rw [e1]
      rw [e2] at b2
      omega
    have up : ∀ {k : Nat} {z : Int}, z.natAbs < 2 ^ k → k ≤ 400 → z.natAbs < 2 ^ 400 := fun h hk => Nat.lt_of_lt_of_le h (Nat.pow_le_pow_right (by decide) hk)
    have e1 : cSetIx 0 (m2 gAdd (m2 gIdx (mVarO 0) (mC (.int 2))) (mC (.int 1))) (mC (.int 2)) [some (Li [a, b, c]), some (.int m), none, none, none] = some (.nx, [some (Li [a, b, c + 1]), some (.int m), none, none, none]) :=
      cSetIx_ (j := 2) (ds := [PyData.int a, PyData.int b, PyData.int c]) (m2_ (z := .int (c + 1)) (m2_ (mVarO_ rfl) mC_ (gIdx_L (s := [a, b, c]) (k := 2) (by show _ < 3; decide))) mC_ rfl) rfl rfl (by show _ < 3; decide)
    have i1 : ∀ S : Sl, gt S 0 = some (Li [a, b, c + 1]) → m2 gIdx (mVarO 0) (mC (.int 1)) S = some (.int b, S) := fun S h => m2_ (mVarO_ h) mC_ (gIdx_L (k := 1) (by show _ < 3; decide))
    have i2 : ∀ S : Sl, gt S 0 = some (Li [a, b, c + 1]) → m2 gIdx (mVarO 0) (mC (.int 2)) S = some (.int (c + 1), S) := fun S h => m2_ (mVarO_ h) mC_ (gIdx_L (k := 2) (by show _ < 3; decide))
    have e2 : cSet 4 (m2 gAdd (m2 gIdx (mVarO 0) (mC (.int 1))) (m2 gMulI (mC (.int 6700417)) (m2 gIdx (mVarO 0) (mC (.int 2))))) [some (Li [a, b, c + 1]), some (.int m), none, none, none] = some (.nx, [some (Li [a, b, c + 1]), some (.int m), none, none, some (.int x1)]) :=
      set_ (S1 := [some (Li [a, b, c + 1]), some (.int m), none, none, none]) (m2_ (i1 _ rfl) (m2_ mC_ (i2 _ rfl) (gMulI_ (big_l (by decide)))) rfl)
    have p43 : m2 gAdd (m2 gPow (mC (.int 10)) (mC (.int 43))) (mC (.int 57)) [some (Li [a, b, c + 1]), some (.int m), none, none, some (.int x1)] = some (.int (10 ^ 43 + 57), [some (Li [a, b, c + 1]), some (.int m), none, none, some (.int x1)]) := m2_ (m2_ mC_ mC_ (gPow_ (j := 43) (by decide) (by decide))) mC_ rfl
    have e3 : cSet 4 (m2 gMod (mL (g1 FV.gInt) (mCons (m2 gAdd (m2 gMulI (m2 gMulI (mVar 4) (mVar 4)) (mVar 4)) (m2 gMulI (mC (.int 15485863)) (m2 gIdx (mVarO 0) (mC (.int 2))))) mNil)) (m2 gAdd (m2 gPow (mC (.int 10)) (mC (.int 43))) (mC (.int 57)))) [some (Li [a, b, c + 1]), some (.int m), none, none, some (.int x1)] = some (.nx, [some (Li [a, b, c + 1]), some (.int m), none, none, some (.int x2)]) :=
      set_ (S1 := [some (Li [a, b, c + 1]), some (.int m), none, none, some (.int x1)]) (m2_ (mL_ (mCons_ (m2_ (m2_ (m2_ (mVar_ rfl) (mVar_ rfl) (gMulI_ (big_of (up b1 (by decide)) (up b1 (by decide))))) (mVar_ rfl) (gMulI_ (big_of (up (bnd b1 b1) (by decide)) (up b1 (by decide))))) (m2_ mC_ (i2 _ rfl) (gMulI_ (big_l (by decide)))) rfl) mNil_) gInt_I) p43 (gMod_ (by decide)))
    have p38 : m2 gAdd (m2 gPow (mC (.int 10)) (mC (.int 38))) (mC (.int 133)) [some (Li [a, b, c + 1]), some (.int m), none, none, some (.int x2)] = some (.int (10 ^ 38 + 133), [some (Li [a, b, c + 1]), some (.int m), none, none, some (.int x2)]) := m2_ (m2_ mC_ mC_ (gPow_ (j := 38) (by decide) (by decide))) mC_ rfl
    have e4 : cSet 4 (m2 gMod (mL (g1 FV.gInt) (mCons (m2 gAdd (m2 gMulI (mVar 4) (mVar 4)) (mC (.int 32452843))) mNil)) (m2 gAdd (m2 gPow (mC (.int 10)) (mC (.int 38))) (mC (.int 133)))) [some (Li [a, b, c + 1]), some (.int m), none, none, some (.int x2)] = some (.nx, [some (Li [a, b, c + 1]), some (.int m), none, none, some (.int x3)]) :=
      set_ (S1 := [some (Li [a, b, c + 1]), some (.int m), none, none, some (.int x2)]) (m2_ (mL_ (mCons_ (m2_ (m2_ (mVar_ rfl) (mVar_ rfl) (gMulI_ (big_of (up b2' (by decide)) (up b2' (by decide))))) mC_ rfl) mNil_) gInt_I) p38 (gMod_ (by decide)))
    have p9 : m2 gPow (mC (.int 10)) (mC (.int 9)) [some (Li [a, b, c + 1]), some (.int m), none, none, some (.int x3)] = some (.int (10 ^ 9), [some (Li [a, b, c + 1]), some (.int m), none, none, some (.int x3)]) := m2_ mC_ mC_ (gPow_ (j := 9) (by decide) (by decide))
    have e5 : m2 gMod (mL (g1 FV.gInt) (mCons (m2 gFdiv (mVar 4) (m2 gPow (mC (.int 10)) (mC (.int 9)))) mNil)) (mVar 1) [some (Li [a, b, c + 1]), some (.int m), none, none, some (.int x3)] = some (.int ((x3.fdiv (10 ^ 9)).fmod m), [some (Li [a, b, c + 1]), some (.int m), none, none, some (.int x3)]) :=
      m2_ (mL_ (mCons_ (m2_ (mVar_ rfl) p9 (gFdiv_ (by decide) (by decide))) mNil_) gInt_I) (mVar_ rfl) (gMod_ (by omega))
    refine ⟨(x3.fdiv (10 ^ 9)).fmod m, [a, b, c + 1], gFn_io (S' := [some (.int m), none, none, some (.int x3)]) ((seq_nx (if_f c0)).trans ((seq_nx e1).trans ((seq_nx e2).trans ((seq_nx e3).trans ((seq_nx e4).trans (seq_rt (ret_ e5))))))), Int.fmod_nonneg_of_pos _ hm, Int.fmod_lt_of_pos _ hm, ⟨a, b, c + 1, rfl, h1, h2, h3, by omega, by omega⟩⟩
theorem mCall1_ {i : Nat} {g : SM} {fl : SL} {S S1 rest : Sl} {xs ds es es' : List D} {z : D} (hl : gt S i = some (.list ds)) (h : fl S = some (xs, S1)) (h2 : gt S1 i = some (.list es)) (hg : g (some (.list es) :: xs.map some) = some (z, some (.list es') :: rest)) : mCall1 i g fl S = some (z, S1.set i (some (.list es'))) := by
  unfold mCall1
  rw [hl]
  simp only [isLst, if_true, h, Option.bind_some, h2, hg]
  rfl
def oneC : CM := (cSeq (cRet (m2 gIdx (mVar 1) (mCall1 0 gDraw (mCons (mL (g1 gLen) (mCons (mVar 1) mNil)) mNil)))) cNx)
def gOne : SM := gFn false [0] 0 oneC
theorem one_ {n : Nat} {l t : List Int} (h : Feed n l) (hn : n ≤ 1000000) (ht : 0 < t.length) (ht2 : t.length ≤ 1000) :
    ∃ (i : Nat) (l' : List Int), gOne [some (Li l), some (Li t)] = some (.int (t.getD i 0), [some (Li l'), some (Li t)]) ∧ i < t.length ∧ Feed (n + 1) l' := by
  obtain ⟨r, l', e, h1, h2, h3⟩ := draw_ h hn (m := (t.length : Int)) (by omega) (by omega)
  obtain ⟨i, rfl⟩ : ∃ i : Nat, r = i := ⟨r.toNat, by omega⟩
  have e1 : mCall1 0 gDraw (mCons (mL (g1 gLen) (mCons (mVar 1) mNil)) mNil) [some (Li l), some (Li t)] = some (.int (i : Int), [some (Li l'), some (Li t)]) :=
    mCall1_ (S1 := [some (Li l), some (Li t)]) (rest := [some (.int (t.length : Int))]) rfl (mCons_ (mL_ (mCons_ (mVar_ rfl) mNil_) gLen_L) mNil_) rfl e
  exact ⟨i, l', gFn_io (S' := [some (Li t)]) (seq_rt (ret_ (m2_ (mVar_ rfl) e1 (gIdx_L (by omega))))), by omega, h3⟩
theorem gCutL_to {s : List Int} (k : Nat) : gCut none (some (k : Int)) (Li s) = some (Li (s.take k)) := by
  show some (PyData.list (cutD (s.map PyData.int) _ _)) = _
  rw [cutD_to, ← List.map_take]
theorem gSum_L {s : List Int} : gSum (Li s) = some (.int s.sum) := by
  show ((intsOf (s.map PyData.int)).map fun ns => PyData.int ns.sum) = _
  rw [intsOf_map]
  rfl
theorem feed_ {ns : List Int} (hl : ns.length ≤ 1000) {k : Nat} : ∃ l : List Int, gFeed [some (Li ns), some (.int (k : Int))] = some (Li l, [some (Li ns), some (.int (k : Int))]) ∧ Feed 0 l := by
  let c0 : Int := 977 * k + (ns.take 1).sum
  let cell : Int := if k < ns.length then ns.getD k 0 else c0
  have e1 : cSet 2 (m2 gAdd (m2 gMulI (mC (.int 977)) (mVar 1)) (mL (g1 gSum) (mCons (mCut (mVar 0) oNone (oSome (mC (.int 1)))) mNil))) [some (Li ns), some (.int (k : Int)), none] = some (.nx, [some (Li ns), some (.int (k : Int)), some (.int c0)]) := by
    refine set_ (S1 := [some (Li ns), some (.int (k : Int)), none]) (m2_ (m2_ mC_ (mVar_ rfl) (gMulI_ (big_l (by decide)))) (mL_ (mCons_ (x := Li (ns.take 1)) ?_ mNil_) gSum_L) rfl)
    have := gCutL_to (s := ns) 1
    unfold mCut oSome oNone
    rw [mVar_ (x := Li ns) rfl]
    simp only [Option.bind_some, mC]
    show Option.map _ (gCut none (some ((1 : Nat) : Int)) (Li ns)) = _
    rw [this]
    rfl
  have e2 : cIf (m2 gLt (mVar 1) (mL (g1 gLen) (mCons (mVar 0) mNil))) (cSeq (cSet 2 (m2 gIdx (mVar 0) (mVar 1))) cNx) cNx [some (Li ns), some (.int (k : Int)), some (.int c0)] = some (.nx, [some (Li ns), some (.int (k : Int)), some (.int cell)]) := by
    have c : m2 gLt (mVar 1) (mL (g1 gLen) (mCons (mVar 0) mNil)) [some (Li ns), some (.int (k : Int)), some (.int c0)] = some (.bool (decide ((k : Int) < ns.length)), [some (Li ns), some (.int (k : Int)), some (.int c0)]) := m2_ (mVar_ rfl) (mL_ (mCons_ (mVar_ rfl) mNil_) gLen_L) rfl
    by_cases hk : k < ns.length
    · rw [decide_eq_true (by omega)] at c
      have : cell = ns.getD k 0 := if_pos hk
      rw [this]
      exact (if_t c).trans ((seq_nx (set_ (m2_ (mVar_ rfl) (mVar_ rfl) (gIdx_L hk)))).trans nx_)
    · rw [decide_eq_false (by omega)] at c
      have : cell = c0 := if_neg hk
      rw [this]
      exact (if_f c).trans nx_
  let S : Sl := [some (Li ns), some (.int (k : Int)), some (.int cell)]
  have p18 : m2 gPow (mC (.int 10)) (mC (.int 18)) S = some (.int (10 ^ 18), S) := m2_ mC_ mC_ (gPow_ (j := 18) (by decide) (by decide))
  have p39 : m2 gAdd (m2 gPow (mC (.int 10)) (mC (.int 39))) (mC (.int 23)) S = some (.int (10 ^ 39 + 23), S) := m2_ (m2_ mC_ mC_ (gPow_ (j := 39) (by decide) (by decide))) mC_ rfl
  let a : Int := if cell - 10 ^ 18 > 0 then cell - 10 ^ 18 else 0
  let b : Int := (cell * 19 + 7 * k).fmod (10 ^ 39 + 23)
  have e3 : mL gLst (mCons (mL (g2 gMax2) (mCons (mC (.int 0)) (mCons (m2 gSub (mVar 2) (m2 gPow (mC (.int 10)) (mC (.int 18)))) mNil))) (mCons (m2 gMod (mL (g1 FV.gInt) (mCons (m2 gAdd (m2 gMulI (mVar 2) (mC (.int 19))) (m2 gMulI (mC (.int 7)) (mVar 1))) mNil)) (m2 gAdd (m2 gPow (mC (.int 10)) (mC (.int 39))) (mC (.int 23)))) (mCons (mC (.int 0)) mNil))) S = some (Li [a, b, 0], S) :=
    mL_ (mCons_ (mL_ (z := .int a) (mCons_ mC_ (mCons_ (m2_ (z := .int (cell - 10 ^ 18)) (mVar_ rfl) p18 rfl) mNil_)) rfl) (mCons_ (m2_ (z := .int b) (mL_ (mCons_ (m2_ (m2_ (mVar_ rfl) mC_ (gMulI_ (big_r (by decide)))) (m2_ mC_ (mVar_ rfl) (gMulI_ (big_l (by decide)))) rfl) mNil_) gInt_I) p39 (gMod_ (by decide))) (mCons_ mC_ mNil_))) rfl
  refine ⟨[a, b, 0], gFn_rt ((seq_nx e1).trans ((seq_nx e2).trans (seq_rt (ret_ e3)))), ⟨a, b, 0, rfl, ?_, Int.fmod_nonneg_of_pos _ (by decide), ?_, by omega, by omega⟩⟩
  · show 0 ≤ (if cell - 10 ^ 18 > 0 then cell - 10 ^ 18 else 0)
    split <;> omega
  · have := Int.fmod_lt_of_pos (cell * 19 + 7 * k) (show (0 : Int) < 10 ^ 39 + 23 by decide)
    have h2 : (10 : Int) ^ 39 + 23 < 10 ^ 40 := by decide
    exact Int.lt_trans this h2
end FV
end
section
set_option Elab.async false
set_option linter.all false
set_option maxRecDepth 100000
set_option maxHeartbeats 4000000
/-! Sorting a list that is known sorted. -/
namespace FV
open PySem PySem.Spec L2
abbrev leD : D → D → Bool := PySem.W.dataLe false (id : D → D)
theorem leD_tot : PySem.W.TotalLe leD := PySem.W.sortLe_total _ false _
theorem pair_zip {α : Type} {r : α → α → Bool} (tr : ∀ a b c, r a b = true → r b c = true → r a c = true) : ∀ {l : List α}, (l.zip (l.drop 1)).all (fun q => r q.1 q.2) = true → l.Pairwise fun a b => r a b = true
  | [], _ => .nil
  | [a], _ => .cons (by simp) .nil
  | a :: b :: l, h => by
    rw [show ((a :: b :: l).zip ((a :: b :: l).drop 1)) = (a, b) :: ((b :: l).zip ((b :: l).drop 1)) by simp, List.all_cons, Bool.and_eq_true] at h
    have ih := pair_zip tr (l := b :: l) h.2
    refine .cons (fun c hc => ?_) ih
    rcases List.mem_cons.mp hc with rfl | hc
    · exact h.1
    · exact tr a b c h.1 (List.rel_of_pairwise_cons ih hc)
theorem sort_is {L M : List D} (p : L.Perm M) (hM : M.Pairwise fun a b => leD a b = true) (anti : ∀ a ∈ M, ∀ b ∈ M, leD a b = true → leD b a = true → a = b) : sortD L = M := by
  refine List.Perm.eq_of_pairwise (le := fun a b => leD a b = true) (fun a b ha hb h1 h2 => anti a (p.mem_iff.mp ((List.mergeSort_perm L leD).mem_iff.mp ha)) b hb h1 h2) ?_ hM ((List.mergeSort_perm L leD).trans p)
  exact List.pairwise_mergeSort leD_tot.trans (fun a b => by rw [Bool.or_eq_true]; exact leD_tot.total a b) L
/-- strictly below -/
def ltD (a b : D) : Bool := leD a b && !leD b a
theorem ltD_trans (a b c : D) (h1 : ltD a b = true) (h2 : ltD b c = true) : ltD a c = true := by
  unfold ltD at h1 h2 ⊢
  rw [Bool.and_eq_true, Bool.not_eq_true'] at h1 h2 ⊢
  refine ⟨leD_tot.trans _ _ _ h1.1 h2.1, ?_⟩
  cases h : leD c a with
  | false => rfl
  | true =>
    have := leD_tot.trans _ _ _ h2.1 h
    rw [h1.2] at this
    cases this
theorem anti_of : ∀ {M : List D}, (M.Pairwise fun a b => ltD a b = true) → ∀ a ∈ M, ∀ b ∈ M, leD a b = true → leD b a = true → a = b
  | [], _, a, ha, _, _, _, _ => by cases ha
  | m :: M, p, a, ha, b, hb, h1, h2 => by
    have far : ∀ c ∈ M, leD c m = false := fun c hc => by
      have := List.rel_of_pairwise_cons p hc
      unfold ltD at this
      rw [Bool.and_eq_true, Bool.not_eq_true'] at this
      exact this.2
    rcases List.mem_cons.mp ha with ea | ia
    · rcases List.mem_cons.mp hb with eb | ib
      · rw [ea, eb]
      · rw [ea, far b ib] at h2
        cases h2
    · rcases List.mem_cons.mp hb with eb | ib
      · rw [eb, far a ia] at h1
        cases h1
      · exact anti_of p.of_cons a ia b ib h1 h2
theorem gSorted_is {L M : List D} (ok : (decide (L.length < 2) || sortOk L) = true) (p : L.Perm M) (hr : (M.zip (M.drop 1)).all (fun q => ltD q.1 q.2) = true) : gSorted (.list L) = some (.list M) := by
  have hp := pair_zip (r := ltD) ltD_trans hr
  have e := sort_is p (hp.imp fun h => (Bool.and_eq_true_iff.mp h).1) (anti_of hp)
  unfold gSorted
  dsimp only
  by_cases h : L.length < 2
  · rw [if_pos h]
    have : sortD L = L := by
      unfold sortD
      rcases L with _ | ⟨a, _ | ⟨b, L⟩⟩
      · simp
      · simp
      · simp at h
        omega
    rw [← e, this]
  · have ok' : sortOk L = true := by
      rw [decide_eq_false h, Bool.false_or] at ok
      exact ok
    rw [if_neg h, if_pos ok', e]
end FV
end
section
set_option Elab.async false
set_option linter.all false
set_option maxRecDepth 100000
set_option maxHeartbeats 0
namespace K02
open PySem PySem.Spec PyProof.Rows L2 FV
def top (i : Nat) : Stmt := PySem.Challenge.pw_rowspushed_k02_whole_shapes.main.body.getD i (.Pass ⟨0, 0, 0, 0⟩)

structure Gm (mg : Str → Option Value) : Prop where
  b_all : mg ("all" : Str) = none
  b_bool : mg ("bool" : Str) = none
  b_enumerate : mg ("enumerate" : Str) = none
  b_int : mg ("int" : Str) = none
  b_isinstance : mg ("isinstance" : Str) = none
  b_len : mg ("len" : Str) = none
  b_list : mg ("list" : Str) = none
  b_max : mg ("max" : Str) = none
  b_min : mg ("min" : Str) = none
  b_range : mg ("range" : Str) = none
  b_repr : mg ("repr" : Str) = none
  b_set : mg ("set" : Str) = none
  b_sorted : mg ("sorted" : Str) = none
  b_sum : mg ("sum" : Str) = none
  b_tuple : mg ("tuple" : Str) = none
  b_zip : mg ("zip" : Str) = none
  c_MOST_LISTED : ∃ t, mg ("MOST_LISTED" : Str) = some (.int 12 t)
  c_MOST_ROWS : ∃ t, mg ("MOST_ROWS" : Str) = some (.int 9 t)
  c_MOST_SIZE : ∃ t, mg ("MOST_SIZE" : Str) = some (.int 30 t)
/-! ### is_integer -/
abbrev st_is_integer : Stmt := top 7
def s_is_integer : CM := (cSeq (cRet (mAnd (m1 (gInst "int") (mVar 0)) (m1 gNot (m1 (gInst "bool") (mVar 0))))) cNx)
def g_is_integer : SM := gFn false [] 0 s_is_integer
theorem b_is_integer {P : Program} {w : World} {K : PySem.W.Frag} {mg : Str → Option Value} {base : Heap} {f : Addr} (G : Gm mg) (Fa : Addr → Prop) (cd : Value) (A : Around) (outer : List Env) (s : Shared) (H : Hp)
    (hr : Room 0 (A.deeper (envOfC ("is_integer" : Str) (defScope st_is_integer) s.heap.objs.size f cd))) (hgd : A.guards = some []) : SSs ⟨[] ++ [], [] ++ [], Fa, []⟩ (cxG P w K mg base [("thing" : Str)] ("is_integer" : Str) (defScope st_is_integer) f cd A outer s H) (defBody st_is_integer) [0] [0] [] false s_is_integer := by
  have hu100 : (A.deeper (envOfC ("is_integer" : Str) (defScope st_is_integer) s.heap.objs.size f cd)).units + 100 < cLine := by have := hr.un; omega
  have hu64 : (A.deeper (envOfC ("is_integer" : Str) (defScope st_is_integer) s.heap.objs.size f cd)).units + 64 < cLine := by omega
  have hu1 : (A.deeper (envOfC ("is_integer" : Str) (defScope st_is_integer) s.heap.objs.size f cd)).units + 1 < cLine := by omega
  have nd : ([("thing" : Str)] : List Str).Nodup := by decide +kernel
  exact sss_wide (ss_cons (ss_ret (se_and (se_inst (T := "int") (by decide) (by rfl) G.b_isinstance boot_isinstance (by decide) (by decide) (by rfl) G.b_int boot_int (by decide) (by decide) (by rfl) (by rfl) (by rfl) (se_var (i := 0) rfl (vis_of rfl) (by decide) (by decide) (nm rfl))) (pe_one (se_not (se_inst (T := "bool") (by decide) (by rfl) G.b_isinstance boot_isinstance (by decide) (by decide) (by rfl) G.b_bool boot_bool (by decide) (by decide) (by rfl) (by rfl) (by rfl) (se_var (i := 0) rfl (vis_of rfl) (by decide) (by decide) (nm rfl)))))))
  ss_nil) (am rfl) (am rfl)
theorem k_is_integer {P : Program} {w : World} {K : PySem.W.Frag} {mg : Str → Option Value} {base : Heap} {f : Addr} {fd : FuncData} (G : Gm mg) (m : mg ("is_integer" : Str) = some (.ref f)) (F : FunD K ("is_integer" : Str) ("is_integer" : Str) (defArgs st_is_integer) (defBody st_is_integer) (defScope st_is_integer) [] [] f fd) : FnG P w K mg base 1 f fd [("thing" : Str)] (spF 1 [] false g_is_integer) :=
  fn_rule (N := [("thing" : Str)]) (ps := [("thing" : Str)]) F ⟨rfl, rfl, rfl, by decide +kernel, rfl, by decide +kernel, by decide +kernel⟩ (b_is_integer G) (by decide) (by decide) (by decide)
theorem n_is_integer {K : PySem.W.Frag} {f : Addr} {fd : FuncData} (F : FunD K ("is_integer" : Str) ("is_integer" : Str) (defArgs st_is_integer) (defBody st_is_integer) (defScope st_is_integer) [] [] f fd) : Binds K fd [("thing" : Str)] [] :=
  F.bindsN (fun _ _ _ _ _ _ us hl => match us, hl with | [_], _ => rfl)
theorem o_is_integer {P : Program} {w : World} {K : PySem.W.Frag} {mg : Str → Option Value} {base : Heap} {f : Addr} {fd : FuncData} (G : Gm mg) (m : mg ("is_integer" : Str) = some (.ref f)) (F : FunD K ("is_integer" : Str) ("is_integer" : Str) (defArgs st_is_integer) (defBody st_is_integer) (defScope st_is_integer) [] [] f fd) : Ct P w K mg base 1 ("is_integer" : Str) st_is_integer [("thing" : Str)] (spF 1 [] false g_is_integer) :=
  ⟨f, fd, m, F, n_is_integer F, k_is_integer G m F⟩
/-! ### is_within -/
abbrev st_is_within : Stmt := top 8
def s_is_within : CM := (cSeq (cRet (mAnd (mCall0 g_is_integer (mCons (mVar 0) mNil)) (mChain gLe gLe (mVar 1) (mVar 0) (mVar 2)))) cNx)
def g_is_within : SM := gFn false [] 0 s_is_within
theorem b_is_within {P : Program} {w : World} {K : PySem.W.Frag} {mg : Str → Option Value} {base : Heap} {f : Addr} (G : Gm mg) (c_is_integer : Ct P w K mg base 1 ("is_integer" : Str) st_is_integer [("thing" : Str)] (spF 1 [] false g_is_integer)) (Fa : Addr → Prop) (cd : Value) (A : Around) (outer : List Env) (s : Shared) (H : Hp)
    (hr : Room 1 (A.deeper (envOfC ("is_within" : Str) (defScope st_is_within) s.heap.objs.size f cd))) (hgd : A.guards = some []) : SSs ⟨[] ++ [], [] ++ [], Fa, []⟩ (cxG P w K mg base [("thing" : Str), ("low" : Str), ("high" : Str)] ("is_within" : Str) (defScope st_is_within) f cd A outer s H) (defBody st_is_within) [0, 1, 2] [0, 1, 2] [] false s_is_within := by
  obtain ⟨f_is_integer, fd_is_integer, m_is_integer, F_is_integer, B_is_integer, G_is_integer⟩ := c_is_integer.ex
  have hu100 : (A.deeper (envOfC ("is_within" : Str) (defScope st_is_within) s.heap.objs.size f cd)).units + 100 < cLine := by have := hr.un; omega
  have hu64 : (A.deeper (envOfC ("is_within" : Str) (defScope st_is_within) s.heap.objs.size f cd)).units + 64 < cLine := by omega
  have hu1 : (A.deeper (envOfC ("is_within" : Str) (defScope st_is_within) s.heap.objs.size f cd)).units + 1 < cLine := by omega
  have nd : ([("thing" : Str), ("low" : Str), ("high" : Str)] : List Str).Nodup := by decide +kernel
  exact sss_wide (ss_cons (ss_ret (se_and (se_call G_is_integer (hr.mono (by omega)) hgd (by rfl) m_is_integer F_is_integer.kp B_is_integer (by rfl) (by rfl) (xCons (se_var (i := 0) rfl (vis_of rfl) (by decide) (by decide) (nm rfl)) sa_nil) (by decide) (by rfl) (by rfl)) (pe_one (se_chain op_le op_le o2_cmp o2_cmp (.inl rfl) (.inl rfl) (by with_unfolding_all rfl) (se_var (i := 1) rfl (vis_of rfl) (by decide) (by decide) (nm rfl)) (se_var (i := 0) rfl (vis_of rfl) (by decide) (by decide) (nm rfl)) (se_var (i := 2) rfl (vis_of rfl) (by decide) (by decide) (nm rfl))))))
  ss_nil) (am rfl) (am rfl)
theorem k_is_within {P : Program} {w : World} {K : PySem.W.Frag} {mg : Str → Option Value} {base : Heap} {f : Addr} {fd : FuncData} (G : Gm mg) (c_is_integer : Ct P w K mg base 1 ("is_integer" : Str) st_is_integer [("thing" : Str)] (spF 1 [] false g_is_integer)) (m : mg ("is_within" : Str) = some (.ref f)) (F : FunD K ("is_within" : Str) ("is_within" : Str) (defArgs st_is_within) (defBody st_is_within) (defScope st_is_within) [] [] f fd) : FnG P w K mg base 2 f fd [("thing" : Str), ("low" : Str), ("high" : Str)] (spF 3 [] false g_is_within) :=
  fn_rule (N := [("thing" : Str), ("low" : Str), ("high" : Str)]) (ps := [("thing" : Str), ("low" : Str), ("high" : Str)]) F ⟨rfl, rfl, rfl, by decide +kernel, rfl, by decide +kernel, by decide +kernel⟩ (b_is_within G c_is_integer) (by decide) (by decide) (by decide)
theorem n_is_within {K : PySem.W.Frag} {f : Addr} {fd : FuncData} (F : FunD K ("is_within" : Str) ("is_within" : Str) (defArgs st_is_within) (defBody st_is_within) (defScope st_is_within) [] [] f fd) : Binds K fd [("thing" : Str), ("low" : Str), ("high" : Str)] [] :=
  F.bindsN (fun _ _ _ _ _ _ us hl => match us, hl with | [_, _, _], _ => rfl)
theorem o_is_within {P : Program} {w : World} {K : PySem.W.Frag} {mg : Str → Option Value} {base : Heap} {f : Addr} {fd : FuncData} (G : Gm mg) (c_is_integer : Ct P w K mg base 1 ("is_integer" : Str) st_is_integer [("thing" : Str)] (spF 1 [] false g_is_integer)) (m : mg ("is_within" : Str) = some (.ref f)) (F : FunD K ("is_within" : Str) ("is_within" : Str) (defArgs st_is_within) (defBody st_is_within) (defScope st_is_within) [] [] f fd) : Ct P w K mg base 2 ("is_within" : Str) st_is_within [("thing" : Str), ("low" : Str), ("high" : Str)] (spF 3 [] false g_is_within) :=
  ⟨f, fd, m, F, n_is_within F, k_is_within G c_is_integer m F⟩
/-! ### need_number -/
abbrev st_need_number : Stmt := top 9
def s_need_number : CM := (cSeq (cIf (m1 gNot (mCall0 g_is_within (mCons (mVar 0) (mCons (mVar 1) (mCons (mVar 2) mNil))))) (cSeq cNo cNx) cNx) cNx)
def g_need_number : SM := gFn false [] 0 s_need_number
theorem b_need_number {P : Program} {w : World} {K : PySem.W.Frag} {mg : Str → Option Value} {base : Heap} {f : Addr} (G : Gm mg) (c_is_within : Ct P w K mg base 2 ("is_within" : Str) st_is_within [("thing" : Str), ("low" : Str), ("high" : Str)] (spF 3 [] false g_is_within)) (Fa : Addr → Prop) (cd : Value) (A : Around) (outer : List Env) (s : Shared) (H : Hp)
    (hr : Room 2 (A.deeper (envOfC ("need_number" : Str) (defScope st_need_number) s.heap.objs.size f cd))) (hgd : A.guards = some []) : SSs ⟨[] ++ [], [] ++ [], Fa, []⟩ (cxG P w K mg base [("thing" : Str), ("low" : Str), ("high" : Str)] ("need_number" : Str) (defScope st_need_number) f cd A outer s H) (defBody st_need_number) [0, 1, 2] [0, 1, 2] [] false s_need_number := by
  obtain ⟨f_is_within, fd_is_within, m_is_within, F_is_within, B_is_within, G_is_within⟩ := c_is_within.ex
  have hu100 : (A.deeper (envOfC ("need_number" : Str) (defScope st_need_number) s.heap.objs.size f cd)).units + 100 < cLine := by have := hr.un; omega
  have hu64 : (A.deeper (envOfC ("need_number" : Str) (defScope st_need_number) s.heap.objs.size f cd)).units + 64 < cLine := by omega
  have hu1 : (A.deeper (envOfC ("need_number" : Str) (defScope st_need_number) s.heap.objs.size f cd)).units + 1 < cLine := by omega
  have nd : ([("thing" : Str), ("low" : Str), ("high" : Str)] : List Str).Nodup := by decide +kernel
  exact sss_wide (ss_cons (ss_if (st_not (gVal (se_call G_is_within (hr.mono (by omega)) hgd (by rfl) m_is_within F_is_within.kp B_is_within (by rfl) (by rfl) (xCons (se_var (i := 0) rfl (vis_of rfl) (by decide) (by decide) (nm rfl)) (xCons (se_var (i := 1) rfl (vis_of rfl) (by decide) (by decide) (nm rfl)) (xCons (se_var (i := 2) rfl (vis_of rfl) (by decide) (by decide) (nm rfl)) sa_nil))) (by decide) (by rfl) (by rfl))))
  (ss_cons ss_no
  ss_nil)
  ss_nil)
  ss_nil) (am rfl) (am rfl)
theorem k_need_number {P : Program} {w : World} {K : PySem.W.Frag} {mg : Str → Option Value} {base : Heap} {f : Addr} {fd : FuncData} (G : Gm mg) (c_is_within : Ct P w K mg base 2 ("is_within" : Str) st_is_within [("thing" : Str), ("low" : Str), ("high" : Str)] (spF 3 [] false g_is_within)) (m : mg ("need_number" : Str) = some (.ref f)) (F : FunD K ("need_number" : Str) ("need_number" : Str) (defArgs st_need_number) (defBody st_need_number) (defScope st_need_number) [] [] f fd) : FnG P w K mg base 3 f fd [("thing" : Str), ("low" : Str), ("high" : Str)] (spF 3 [] false g_need_number) :=
  fn_rule (N := [("thing" : Str), ("low" : Str), ("high" : Str)]) (ps := [("thing" : Str), ("low" : Str), ("high" : Str)]) F ⟨rfl, rfl, rfl, by decide +kernel, rfl, by decide +kernel, by decide +kernel⟩ (b_need_number G c_is_within) (by decide) (by decide) (by decide)
theorem n_need_number {K : PySem.W.Frag} {f : Addr} {fd : FuncData} (F : FunD K ("need_number" : Str) ("need_number" : Str) (defArgs st_need_number) (defBody st_need_number) (defScope st_need_number) [] [] f fd) : Binds K fd [("thing" : Str), ("low" : Str), ("high" : Str)] [] :=
  F.bindsN (fun _ _ _ _ _ _ us hl => match us, hl with | [_, _, _], _ => rfl)
theorem o_need_number {P : Program} {w : World} {K : PySem.W.Frag} {mg : Str → Option Value} {base : Heap} {f : Addr} {fd : FuncData} (G : Gm mg) (c_is_within : Ct P w K mg base 2 ("is_within" : Str) st_is_within [("thing" : Str), ("low" : Str), ("high" : Str)] (spF 3 [] false g_is_within)) (m : mg ("need_number" : Str) = some (.ref f)) (F : FunD K ("need_number" : Str) ("need_number" : Str) (defArgs st_need_number) (defBody st_need_number) (defScope st_need_number) [] [] f fd) : Ct P w K mg base 3 ("need_number" : Str) st_need_number [("thing" : Str), ("low" : Str), ("high" : Str)] (spF 3 [] false g_need_number) :=
  ⟨f, fd, m, F, n_need_number F, k_need_number G c_is_within m F⟩
/-! ### is_shape_form -/
abbrev st_is_shape_form : Stmt := top 10
def s_is_shape_form : CM := (cSeq (cIf (mOr (m1 gNot (m1 (gInst "tuple") (mVar 0))) (m2 gGt (mL (g1 gLen) (mCons (mVar 0) mNil)) (mC (.int 9)))) (cSeq (cRet (mC (.bool false))) cNx) cNx) (cSeq (cIf (mOr (m1 gNot (mL (g1 gAll) (mCons (mLc [1] [] (bName 1) (mC (.bool true)) (mCall0 g_is_within (mCons (mVar 1) (mCons (mC (.int 1)) (mCons (mC (.int 30)) mNil)))) (mIt (mVar 0))) mNil))) (m2 gGt (mL (g1 gSum) (mCons (mVar 0) mNil)) (mC (.int 30)))) (cSeq (cRet (mC (.bool false))) cNx) cNx) (cSeq (cRet (mL (g1 gAll) (mCons (mLc [2, 3] [] (bTup 2 (bCons (bName 2) (bCons (bName 3) bNil))) (mC (.bool true)) (m2 gGe (mVar 2) (mVar 3)) (mZip (mIt (mVar 0)) (mIt (mCut (mVar 0) (oSome (mC (.int 1))) oNone)))) mNil))) cNx)))
def g_is_shape_form : SM := gFn false [] 3 s_is_shape_form
theorem b_is_shape_form {P : Program} {w : World} {K : PySem.W.Frag} {mg : Str → Option Value} {base : Heap} {f : Addr} (G : Gm mg) (c_is_within : Ct P w K mg base 2 ("is_within" : Str) st_is_within [("thing" : Str), ("low" : Str), ("high" : Str)] (spF 3 [] false g_is_within)) (Fa : Addr → Prop) (cd : Value) (A : Around) (outer : List Env) (s : Shared) (H : Hp)
    (hr : Room 2 (A.deeper (envOfC ("is_shape_form" : Str) (defScope st_is_shape_form) s.heap.objs.size f cd))) (hgd : A.guards = some []) : SSs ⟨[] ++ [], [] ++ [], Fa, []⟩ (cxG P w K mg base [("thing" : Str), ("length" : Str), ("one" : Str), ("other" : Str)] ("is_shape_form" : Str) (defScope st_is_shape_form) f cd A outer s H) (defBody st_is_shape_form) [0, 1, 2, 3] [0, 1, 2, 3] [] false s_is_shape_form := by
  obtain ⟨f_is_within, fd_is_within, m_is_within, F_is_within, B_is_within, G_is_within⟩ := c_is_within.ex
  have hu100 : (A.deeper (envOfC ("is_shape_form" : Str) (defScope st_is_shape_form) s.heap.objs.size f cd)).units + 100 < cLine := by have := hr.un; omega
  have hu64 : (A.deeper (envOfC ("is_shape_form" : Str) (defScope st_is_shape_form) s.heap.objs.size f cd)).units + 64 < cLine := by omega
  have hu1 : (A.deeper (envOfC ("is_shape_form" : Str) (defScope st_is_shape_form) s.heap.objs.size f cd)).units + 1 < cLine := by omega
  have nd : ([("thing" : Str), ("length" : Str), ("one" : Str), ("other" : Str)] : List Str).Nodup := by decide +kernel
  exact sss_wide (ss_cons (ss_if (PW.pt (sw_or (st_not (gVal (se_inst (T := "tuple") (by decide) (by rfl) G.b_isinstance boot_isinstance (by decide) (by decide) (by rfl) G.b_tuple boot_tuple (by decide) (by decide) (by rfl) (by rfl) (by rfl) (se_var (i := 0) rfl (vis_of rfl) (by decide) (by decide) (nm rfl))))) (pw_or1 (tGt_ (bLen (by rfl) (G.b_len) (se_var (i := 0) rfl (vis_of rfl) (by decide) (by decide) (nm rfl))) (gGlobI (by rfl) G.c_MOST_ROWS)))))
  (ss_cons (ss_ret gBl_)
  ss_nil)
  ss_nil)
  (ss_cons (ss_if (PW.pt (sw_or (st_not (gVal (bAll (by rfl) (by rfl) (G.b_all) (se_new (sn_lc (own := [(("length" : Str), 1)]) (wb := []) (ws := [1]) rfl nd (si_seq (sq_of (se_var (i := 0) rfl (vis_of rfl) (by decide) (by decide) (nm rfl)))) (blkOk_by (by kernel_rfl)) (fun _ _ _ _ _ _ => (sg_name nd (i := 1) rfl (loc_of rfl) (by first | exact .inl rfl | exact .inr rfl) (nm rfl))) (fun _ _ _ _ _ _ => sts_nil) (fun _ _ _ _ _ _ => (se_wide (w1 := []) (se_call G_is_within (hr.mono (by omega)) hgd (by rfl) m_is_within F_is_within.kp B_is_within (by rfl) (by rfl) (xCons (se_var (i := 1) rfl (vis_of rfl) (by decide) (by decide) (nm rfl)) (xCons gInt_ (xCons (gGlobI (by rfl) G.c_MOST_SIZE) sa_nil))) (by decide) (by rfl) (by rfl)) (am rfl))) (an rfl) (am rfl) (am rfl) (an rfl) (by intro _; rfl)))))) (pw_or1 (tGt_ (bSum (by rfl) (by rfl) (G.b_sum) (se_var (i := 0) rfl (vis_of rfl) (by decide) (by decide) (nm rfl))) (gGlobI (by rfl) G.c_MOST_SIZE)))))
  (ss_cons (ss_ret gBl_)
  ss_nil)
  ss_nil)
  (ss_cons (ss_ret (bAll (by rfl) (by rfl) (G.b_all) (se_new (sn_lc (own := [(("one" : Str), 2), (("other" : Str), 3)]) (wb := []) (ws := [2, 3]) rfl nd (si_zip (by rfl) (G.b_zip) rfl rfl rfl (an rfl) (sq_of (se_var (i := 0) rfl (vis_of rfl) (by decide) (by decide) (nm rfl))) (sq_of (xCut (se_var (i := 0) rfl (vis_of rfl) (by decide) (by decide) (nm rfl)) (so_some gInt_) so_none))) (blkOk_by (by kernel_rfl)) (fun _ _ _ _ _ _ => (sg_tup rfl (sgs_cons (sg_name nd (i := 2) rfl (loc_of rfl) (by first | exact .inl rfl | exact .inr rfl) (nm rfl)) (sgs_cons (sg_name nd (i := 3) rfl (loc_of rfl) (by first | exact .inl rfl | exact .inr rfl) (nm rfl)) sgs_nil rfl) rfl) rfl rfl)) (fun _ _ _ _ _ _ => sts_nil) (fun _ _ _ _ _ _ => (se_wide (w1 := []) (xGe (se_var (i := 2) rfl (vis_of rfl) (by decide) (by decide) (nm rfl)) (se_var (i := 3) rfl (vis_of rfl) (by decide) (by decide) (nm rfl))) (am rfl))) (an rfl) (am rfl) (am rfl) (an rfl) (by intro _; rfl)))))
  ss_nil))) (am rfl) (am rfl)
theorem k_is_shape_form {P : Program} {w : World} {K : PySem.W.Frag} {mg : Str → Option Value} {base : Heap} {f : Addr} {fd : FuncData} (G : Gm mg) (c_is_within : Ct P w K mg base 2 ("is_within" : Str) st_is_within [("thing" : Str), ("low" : Str), ("high" : Str)] (spF 3 [] false g_is_within)) (m : mg ("is_shape_form" : Str) = some (.ref f)) (F : FunD K ("is_shape_form" : Str) ("is_shape_form" : Str) (defArgs st_is_shape_form) (defBody st_is_shape_form) (defScope st_is_shape_form) [] [] f fd) : FnG P w K mg base 3 f fd [("thing" : Str)] (spF 1 [] false g_is_shape_form) :=
  fn_rule (N := [("thing" : Str), ("length" : Str), ("one" : Str), ("other" : Str)]) (ps := [("thing" : Str)]) F ⟨rfl, rfl, rfl, by decide +kernel, rfl, by decide +kernel, by decide +kernel⟩ (b_is_shape_form G c_is_within) (by decide) (by decide) (by decide)
theorem n_is_shape_form {K : PySem.W.Frag} {f : Addr} {fd : FuncData} (F : FunD K ("is_shape_form" : Str) ("is_shape_form" : Str) (defArgs st_is_shape_form) (defBody st_is_shape_form) (defScope st_is_shape_form) [] [] f fd) : Binds K fd [("thing" : Str)] [] :=
  F.bindsN (fun _ _ _ _ _ _ us hl => match us, hl with | [_], _ => rfl)
theorem o_is_shape_form {P : Program} {w : World} {K : PySem.W.Frag} {mg : Str → Option Value} {base : Heap} {f : Addr} {fd : FuncData} (G : Gm mg) (c_is_within : Ct P w K mg base 2 ("is_within" : Str) st_is_within [("thing" : Str), ("low" : Str), ("high" : Str)] (spF 3 [] false g_is_within)) (m : mg ("is_shape_form" : Str) = some (.ref f)) (F : FunD K ("is_shape_form" : Str) ("is_shape_form" : Str) (defArgs st_is_shape_form) (defBody st_is_shape_form) (defScope st_is_shape_form) [] [] f fd) : Ct P w K mg base 3 ("is_shape_form" : Str) st_is_shape_form [("thing" : Str)] (spF 1 [] false g_is_shape_form) :=
  ⟨f, fd, m, F, n_is_shape_form F, k_is_shape_form G c_is_within m F⟩
/-! ### need_shape -/
abbrev st_need_shape : Stmt := top 11
def s_need_shape : CM := (cSeq (cIf (m1 gNot (mCall0 g_is_shape_form (mCons (mVar 0) mNil))) (cSeq cNo cNx) cNx) cNx)
def g_need_shape : SM := gFn false [] 0 s_need_shape
theorem b_need_shape {P : Program} {w : World} {K : PySem.W.Frag} {mg : Str → Option Value} {base : Heap} {f : Addr} (G : Gm mg) (c_is_shape_form : Ct P w K mg base 3 ("is_shape_form" : Str) st_is_shape_form [("thing" : Str)] (spF 1 [] false g_is_shape_form)) (Fa : Addr → Prop) (cd : Value) (A : Around) (outer : List Env) (s : Shared) (H : Hp)
    (hr : Room 3 (A.deeper (envOfC ("need_shape" : Str) (defScope st_need_shape) s.heap.objs.size f cd))) (hgd : A.guards = some []) : SSs ⟨[] ++ [], [] ++ [], Fa, []⟩ (cxG P w K mg base [("shape" : Str)] ("need_shape" : Str) (defScope st_need_shape) f cd A outer s H) (defBody st_need_shape) [0] [0] [] false s_need_shape := by
  obtain ⟨f_is_shape_form, fd_is_shape_form, m_is_shape_form, F_is_shape_form, B_is_shape_form, G_is_shape_form⟩ := c_is_shape_form.ex
  have hu100 : (A.deeper (envOfC ("need_shape" : Str) (defScope st_need_shape) s.heap.objs.size f cd)).units + 100 < cLine := by have := hr.un; omega
  have hu64 : (A.deeper (envOfC ("need_shape" : Str) (defScope st_need_shape) s.heap.objs.size f cd)).units + 64 < cLine := by omega
  have hu1 : (A.deeper (envOfC ("need_shape" : Str) (defScope st_need_shape) s.heap.objs.size f cd)).units + 1 < cLine := by omega
  have nd : ([("shape" : Str)] : List Str).Nodup := by decide +kernel
  exact sss_wide (ss_cons (ss_if (st_not (gVal (se_call G_is_shape_form (hr.mono (by omega)) hgd (by rfl) m_is_shape_form F_is_shape_form.kp B_is_shape_form (by rfl) (by rfl) (xCons (se_var (i := 0) rfl (vis_of rfl) (by decide) (by decide) (nm rfl)) sa_nil) (by decide) (by rfl) (by rfl))))
  (ss_cons ss_no
  ss_nil)
  ss_nil)
  ss_nil) (am rfl) (am rfl)
theorem k_need_shape {P : Program} {w : World} {K : PySem.W.Frag} {mg : Str → Option Value} {base : Heap} {f : Addr} {fd : FuncData} (G : Gm mg) (c_is_shape_form : Ct P w K mg base 3 ("is_shape_form" : Str) st_is_shape_form [("thing" : Str)] (spF 1 [] false g_is_shape_form)) (m : mg ("need_shape" : Str) = some (.ref f)) (F : FunD K ("need_shape" : Str) ("need_shape" : Str) (defArgs st_need_shape) (defBody st_need_shape) (defScope st_need_shape) [] [] f fd) : FnG P w K mg base 4 f fd [("shape" : Str)] (spF 1 [] false g_need_shape) :=
  fn_rule (N := [("shape" : Str)]) (ps := [("shape" : Str)]) F ⟨rfl, rfl, rfl, by decide +kernel, rfl, by decide +kernel, by decide +kernel⟩ (b_need_shape G c_is_shape_form) (by decide) (by decide) (by decide)
theorem n_need_shape {K : PySem.W.Frag} {f : Addr} {fd : FuncData} (F : FunD K ("need_shape" : Str) ("need_shape" : Str) (defArgs st_need_shape) (defBody st_need_shape) (defScope st_need_shape) [] [] f fd) : Binds K fd [("shape" : Str)] [] :=
  F.bindsN (fun _ _ _ _ _ _ us hl => match us, hl with | [_], _ => rfl)
theorem o_need_shape {P : Program} {w : World} {K : PySem.W.Frag} {mg : Str → Option Value} {base : Heap} {f : Addr} {fd : FuncData} (G : Gm mg) (c_is_shape_form : Ct P w K mg base 3 ("is_shape_form" : Str) st_is_shape_form [("thing" : Str)] (spF 1 [] false g_is_shape_form)) (m : mg ("need_shape" : Str) = some (.ref f)) (F : FunD K ("need_shape" : Str) ("need_shape" : Str) (defArgs st_need_shape) (defBody st_need_shape) (defScope st_need_shape) [] [] f fd) : Ct P w K mg base 4 ("need_shape" : Str) st_need_shape [("shape" : Str)] (spF 1 [] false g_need_shape) :=
  ⟨f, fd, m, F, n_need_shape F, k_need_shape G c_is_shape_form m F⟩
/-! ### columns_of -/
abbrev st_columns_of : Stmt := top 13
def s_columns_of : CM := (cSeq (cSet 1 (mIf (m2 gNe (mVar 0) (mL gTup mNil)) (m2 gIdx (mVar 0) (mC (.int 0))) (mC (.int 0)))) (cSeq (cRet (mL (g1 gTuple) (mCons (mLc [2] [] (bName 2) (mC (.bool true)) (mL (g1 gLen) (mCons (mLc [3] [] (bName 3) (m2 gGt (mVar 3) (mVar 2)) (mVar 3) (mIt (mVar 0))) mNil)) (mRg gR1 (mCons (mVar 1) mNil))) mNil))) cNx))
def g_columns_of : SM := gFn false [] 3 s_columns_of
theorem b_columns_of {P : Program} {w : World} {K : PySem.W.Frag} {mg : Str → Option Value} {base : Heap} {f : Addr} (G : Gm mg) (Fa : Addr → Prop) (cd : Value) (A : Around) (outer : List Env) (s : Shared) (H : Hp)
    (hr : Room 0 (A.deeper (envOfC ("columns_of" : Str) (defScope st_columns_of) s.heap.objs.size f cd))) (hgd : A.guards = some []) : SSs ⟨[] ++ [], [] ++ [], Fa, []⟩ (cxG P w K mg base [("shape" : Str), ("many" : Str), ("at" : Str), ("length" : Str)] ("columns_of" : Str) (defScope st_columns_of) f cd A outer s H) (defBody st_columns_of) [0, 1, 2, 3] [0, 1, 2, 3] [] false s_columns_of := by
  have hu100 : (A.deeper (envOfC ("columns_of" : Str) (defScope st_columns_of) s.heap.objs.size f cd)).units + 100 < cLine := by have := hr.un; omega
  have hu64 : (A.deeper (envOfC ("columns_of" : Str) (defScope st_columns_of) s.heap.objs.size f cd)).units + 64 < cLine := by omega
  have hu1 : (A.deeper (envOfC ("columns_of" : Str) (defScope st_columns_of) s.heap.objs.size f cd)).units + 1 < cLine := by omega
  have nd : ([("shape" : Str), ("many" : Str), ("at" : Str), ("length" : Str)] : List Str).Nodup := by decide +kernel
  exact sss_wide (ss_cons (ss_set nd (i := 1) rfl (loc_of rfl) (.inl rfl) (nm rfl) (se_if (tNe_ hu64 (.inl rfl) (se_var (i := 0) rfl (vis_of rfl) (by decide) (by decide) (nm rfl)) (xTup sa_nil rfl)) (xIdx (by intro o i; rfl) (se_var (i := 0) rfl (vis_of rfl) (by decide) (by decide) (nm rfl)) gInt_) gInt_) rfl)
  (ss_cons (ss_ret (bTuple (by decide) (by rfl) (G.b_tuple) (se_new (sn_lc (own := [(("at" : Str), 2)]) (wb := []) (ws := [2]) rfl nd (si_range1 (lk := []) (by rfl) (G.b_range) rfl (xCons (se_var (i := 1) rfl (vis_of rfl) (by decide) (by decide) (nm rfl)) sa_nil)) (blkOk_by (by kernel_rfl)) (fun _ _ _ _ _ _ => (sg_name nd (i := 2) rfl (loc_of rfl) (by first | exact .inl rfl | exact .inr rfl) (nm rfl))) (fun _ _ _ _ _ _ => sts_nil) (fun _ _ _ _ _ _ => (se_wide (w1 := []) (bLen (by rfl) (G.b_len) (se_new (sn_lc (own := [(("length" : Str), 3)]) (wb := []) (ws := [3]) rfl nd (si_seq (sq_of (se_var (i := 0) rfl (vis_of rfl) (by decide) (by decide) (nm rfl)))) (blkOk_by (by kernel_rfl)) (fun _ _ _ _ _ _ => (sg_name nd (i := 3) rfl (loc_of rfl) (by first | exact .inl rfl | exact .inr rfl) (nm rfl))) (fun _ _ _ _ _ _ => (sts_one (st_wide (w1 := []) (tGt_ (se_var (i := 3) rfl (vis_of rfl) (by decide) (by decide) (nm rfl)) (se_var (i := 2) rfl (vis_of rfl) (by decide) (by decide) (nm rfl))) (am rfl)))) (fun _ _ _ _ _ _ => (se_wide (w1 := []) (se_var (i := 3) rfl (vis_of rfl) (by decide) (by decide) (nm rfl)) (am rfl))) (an rfl) (am rfl) (am rfl) (an rfl) (by intro _; rfl)))) (am rfl))) (an rfl) (am rfl) (am rfl) (an rfl) (by intro _; rfl)))))
  ss_nil)) (am rfl) (am rfl)
theorem k_columns_of {P : Program} {w : World} {K : PySem.W.Frag} {mg : Str → Option Value} {base : Heap} {f : Addr} {fd : FuncData} (G : Gm mg) (m : mg ("columns_of" : Str) = some (.ref f)) (F : FunD K ("columns_of" : Str) ("columns_of" : Str) (defArgs st_columns_of) (defBody st_columns_of) (defScope st_columns_of) [] [] f fd) : FnG P w K mg base 1 f fd [("shape" : Str)] (spF 1 [] false g_columns_of) :=
  fn_rule (N := [("shape" : Str), ("many" : Str), ("at" : Str), ("length" : Str)]) (ps := [("shape" : Str)]) F ⟨rfl, rfl, rfl, by decide +kernel, rfl, by decide +kernel, by decide +kernel⟩ (b_columns_of G) (by decide) (by decide) (by decide)
theorem n_columns_of {K : PySem.W.Frag} {f : Addr} {fd : FuncData} (F : FunD K ("columns_of" : Str) ("columns_of" : Str) (defArgs st_columns_of) (defBody st_columns_of) (defScope st_columns_of) [] [] f fd) : Binds K fd [("shape" : Str)] [] :=
  F.bindsN (fun _ _ _ _ _ _ us hl => match us, hl with | [_], _ => rfl)
theorem o_columns_of {P : Program} {w : World} {K : PySem.W.Frag} {mg : Str → Option Value} {base : Heap} {f : Addr} {fd : FuncData} (G : Gm mg) (m : mg ("columns_of" : Str) = some (.ref f)) (F : FunD K ("columns_of" : Str) ("columns_of" : Str) (defArgs st_columns_of) (defBody st_columns_of) (defScope st_columns_of) [] [] f fd) : Ct P w K mg base 1 ("columns_of" : Str) st_columns_of [("shape" : Str)] (spF 1 [] false g_columns_of) :=
  ⟨f, fd, m, F, n_columns_of F, k_columns_of G m F⟩
/-! ### corner_rows -/
abbrev st_corner_rows : Stmt := top 14
def s_corner_rows : CM := (cSeq (cSet 1 (m2 gAdd (mVar 0) (mL gTup (mCons (mC (.int 0)) mNil)))) (cSeq (cRet (mL (g1 gTuple) (mCons (mLc [2] [] (bName 2) (m2 gGt (m2 gIdx (mVar 1) (mVar 2)) (m2 gIdx (mVar 1) (m2 gAdd (mVar 2) (mC (.int 1))))) (mVar 2) (mRg gR1 (mCons (mL (g1 gLen) (mCons (mVar 0) mNil)) mNil))) mNil))) cNx))
def g_corner_rows : SM := gFn false [] 2 s_corner_rows
theorem b_corner_rows {P : Program} {w : World} {K : PySem.W.Frag} {mg : Str → Option Value} {base : Heap} {f : Addr} (G : Gm mg) (Fa : Addr → Prop) (cd : Value) (A : Around) (outer : List Env) (s : Shared) (H : Hp)
    (hr : Room 0 (A.deeper (envOfC ("corner_rows" : Str) (defScope st_corner_rows) s.heap.objs.size f cd))) (hgd : A.guards = some []) : SSs ⟨[] ++ [], [] ++ [], Fa, []⟩ (cxG P w K mg base [("shape" : Str), ("rest" : Str), ("row" : Str)] ("corner_rows" : Str) (defScope st_corner_rows) f cd A outer s H) (defBody st_corner_rows) [0, 1, 2] [0, 1, 2] [] false s_corner_rows := by
  have hu100 : (A.deeper (envOfC ("corner_rows" : Str) (defScope st_corner_rows) s.heap.objs.size f cd)).units + 100 < cLine := by have := hr.un; omega
  have hu64 : (A.deeper (envOfC ("corner_rows" : Str) (defScope st_corner_rows) s.heap.objs.size f cd)).units + 64 < cLine := by omega
  have hu1 : (A.deeper (envOfC ("corner_rows" : Str) (defScope st_corner_rows) s.heap.objs.size f cd)).units + 1 < cLine := by omega
  have nd : ([("shape" : Str), ("rest" : Str), ("row" : Str)] : List Str).Nodup := by decide +kernel
  exact sss_wide (ss_cons (ss_set nd (i := 1) rfl (loc_of rfl) (.inl rfl) (nm rfl) (xAdd (se_var (i := 0) rfl (vis_of rfl) (by decide) (by decide) (nm rfl)) (xTup (xCons gInt_ sa_nil) rfl)) rfl)
  (ss_cons (ss_ret (bTuple (by decide) (by rfl) (G.b_tuple) (se_new (sn_lc (own := [(("row" : Str), 2)]) (wb := []) (ws := [2]) rfl nd (si_range1 (lk := []) (by rfl) (G.b_range) rfl (xCons (bLen (by rfl) (G.b_len) (se_var (i := 0) rfl (vis_of rfl) (by decide) (by decide) (nm rfl))) sa_nil)) (blkOk_by (by kernel_rfl)) (fun _ _ _ _ _ _ => (sg_name nd (i := 2) rfl (loc_of rfl) (by first | exact .inl rfl | exact .inr rfl) (nm rfl))) (fun _ _ _ _ _ _ => (sts_one (st_wide (w1 := []) (tGt_ (xIdx (by intro o i; rfl) (se_var (i := 1) rfl (vis_of rfl) (by decide) (by decide) (nm rfl)) (se_var (i := 2) rfl (vis_of rfl) (by decide) (by decide) (nm rfl))) (xIdx (by intro o i; rfl) (se_var (i := 1) rfl (vis_of rfl) (by decide) (by decide) (nm rfl)) (xAdd (se_var (i := 2) rfl (vis_of rfl) (by decide) (by decide) (nm rfl)) gInt_))) (am rfl)))) (fun _ _ _ _ _ _ => (se_wide (w1 := []) (se_var (i := 2) rfl (vis_of rfl) (by decide) (by decide) (nm rfl)) (am rfl))) (an rfl) (am rfl) (am rfl) (an rfl) (by intro _; rfl)))))
  ss_nil)) (am rfl) (am rfl)
theorem k_corner_rows {P : Program} {w : World} {K : PySem.W.Frag} {mg : Str → Option Value} {base : Heap} {f : Addr} {fd : FuncData} (G : Gm mg) (m : mg ("corner_rows" : Str) = some (.ref f)) (F : FunD K ("corner_rows" : Str) ("corner_rows" : Str) (defArgs st_corner_rows) (defBody st_corner_rows) (defScope st_corner_rows) [] [] f fd) : FnG P w K mg base 1 f fd [("shape" : Str)] (spF 1 [] false g_corner_rows) :=
  fn_rule (N := [("shape" : Str), ("rest" : Str), ("row" : Str)]) (ps := [("shape" : Str)]) F ⟨rfl, rfl, rfl, by decide +kernel, rfl, by decide +kernel, by decide +kernel⟩ (b_corner_rows G) (by decide) (by decide) (by decide)
theorem n_corner_rows {K : PySem.W.Frag} {f : Addr} {fd : FuncData} (F : FunD K ("corner_rows" : Str) ("corner_rows" : Str) (defArgs st_corner_rows) (defBody st_corner_rows) (defScope st_corner_rows) [] [] f fd) : Binds K fd [("shape" : Str)] [] :=
  F.bindsN (fun _ _ _ _ _ _ us hl => match us, hl with | [_], _ => rfl)
theorem o_corner_rows {P : Program} {w : World} {K : PySem.W.Frag} {mg : Str → Option Value} {base : Heap} {f : Addr} {fd : FuncData} (G : Gm mg) (m : mg ("corner_rows" : Str) = some (.ref f)) (F : FunD K ("corner_rows" : Str) ("corner_rows" : Str) (defArgs st_corner_rows) (defBody st_corner_rows) (defScope st_corner_rows) [] [] f fd) : Ct P w K mg base 1 ("corner_rows" : Str) st_corner_rows [("shape" : Str)] (spF 1 [] false g_corner_rows) :=
  ⟨f, fd, m, F, n_corner_rows F, k_corner_rows G m F⟩
/-! ### spot_rows -/
abbrev st_spot_rows : Stmt := top 15
def s_spot_rows : CM := (cSeq (cSet 1 (mLc [2] [] (bName 2) (mOr (m2 gEq (mVar 2) (mC (.int 0))) (m2 gGt (m2 gIdx (mVar 0) (m2 gSub (mVar 2) (mC (.int 1)))) (m2 gIdx (mVar 0) (mVar 2)))) (mVar 2) (mRg gR1 (mCons (mL (g1 gLen) (mCons (mVar 0) mNil)) mNil)))) (cSeq (cRet (mL (g1 gTuple) (mCons (m2 gAddL (mVar 1) (mIf (m2 gLt (mL (g1 gLen) (mCons (mVar 0) mNil)) (mC (.int 9))) (mL gLst (mCons (mL (g1 gLen) (mCons (mVar 0) mNil)) mNil)) (mL gLst mNil))) mNil))) cNx))
def g_spot_rows : SM := gFn false [] 2 s_spot_rows
theorem b_spot_rows {P : Program} {w : World} {K : PySem.W.Frag} {mg : Str → Option Value} {base : Heap} {f : Addr} (G : Gm mg) (Fa : Addr → Prop) (cd : Value) (A : Around) (outer : List Env) (s : Shared) (H : Hp)
    (hr : Room 0 (A.deeper (envOfC ("spot_rows" : Str) (defScope st_spot_rows) s.heap.objs.size f cd))) (hgd : A.guards = some []) : SSs ⟨[] ++ [], [] ++ [], Fa, []⟩ (cxG P w K mg base [("shape" : Str), ("found" : Str), ("row" : Str)] ("spot_rows" : Str) (defScope st_spot_rows) f cd A outer s H) (defBody st_spot_rows) [0, 1, 2] [0, 1, 2] [] false s_spot_rows := by
  have hu100 : (A.deeper (envOfC ("spot_rows" : Str) (defScope st_spot_rows) s.heap.objs.size f cd)).units + 100 < cLine := by have := hr.un; omega
  have hu64 : (A.deeper (envOfC ("spot_rows" : Str) (defScope st_spot_rows) s.heap.objs.size f cd)).units + 64 < cLine := by omega
  have hu1 : (A.deeper (envOfC ("spot_rows" : Str) (defScope st_spot_rows) s.heap.objs.size f cd)).units + 1 < cLine := by omega
  have nd : ([("shape" : Str), ("found" : Str), ("row" : Str)] : List Str).Nodup := by decide +kernel
  exact sss_wide (ss_cons (ss_lc (i := 1) (nm rfl) (ps_lcN (own := [(("row" : Str), 2)]) (wb := []) (ws := [2]) rfl nd rfl rfl (sw_true rfl rfl rfl rfl) (si_range1 (lk := []) (by rfl) (G.b_range) rfl (xCons (bLen (by rfl) (G.b_len) (se_var (i := 0) rfl (vis_of rfl) (by decide) (by decide) (nm rfl))) sa_nil)) (blkOk_by (by kernel_rfl)) (fun _ _ _ _ _ _ => (sg_name nd (i := 2) rfl (loc_of rfl) (by first | exact .inl rfl | exact .inr rfl) (nm rfl))) (fun _ _ _ _ _ _ => (sts_one (st_wide (w1 := []) (PW.pt (sw_or (tEq_ hu64 (.inl rfl) (se_var (i := 2) rfl (vis_of rfl) (by decide) (by decide) (nm rfl)) gInt_) (pw_or1 (tGt_ (xIdx (by intro o i; rfl) (se_var (i := 0) rfl (vis_of rfl) (by decide) (by decide) (nm rfl)) (xSub (se_var (i := 2) rfl (vis_of rfl) (by decide) (by decide) (nm rfl)) gInt_)) (xIdx (by intro o i; rfl) (se_var (i := 0) rfl (vis_of rfl) (by decide) (by decide) (nm rfl)) (se_var (i := 2) rfl (vis_of rfl) (by decide) (by decide) (nm rfl))))))) (am rfl)))) (fun _ _ _ _ _ _ => (se_wide (w1 := []) (se_var (i := 2) rfl (vis_of rfl) (by decide) (by decide) (nm rfl)) (am rfl))) (an rfl) (am rfl) (am rfl) (an rfl) (by intro _; rfl)))
  (ss_cons (ss_ret (bTuple (by decide) (by rfl) (G.b_tuple) (se_new (sn_add (ma := .fz) (mb := .fz) (by decide) (by decide) (.inl rfl) (se_var (i := 1) rfl (vis_of rfl) (by decide) (by decide) (nm rfl)) (se_if (tLt_ (bLen (by rfl) (G.b_len) (se_var (i := 0) rfl (vis_of rfl) (by decide) (by decide) (nm rfl))) (gGlobI (by rfl) G.c_MOST_ROWS)) (xLst (xCons (bLen (by rfl) (G.b_len) (se_var (i := 0) rfl (vis_of rfl) (by decide) (by decide) (nm rfl))) sa_nil) rfl) (xLst sa_nil rfl))))))
  ss_nil)) (am rfl) (am rfl)
theorem k_spot_rows {P : Program} {w : World} {K : PySem.W.Frag} {mg : Str → Option Value} {base : Heap} {f : Addr} {fd : FuncData} (G : Gm mg) (m : mg ("spot_rows" : Str) = some (.ref f)) (F : FunD K ("spot_rows" : Str) ("spot_rows" : Str) (defArgs st_spot_rows) (defBody st_spot_rows) (defScope st_spot_rows) [] [] f fd) : FnG P w K mg base 1 f fd [("shape" : Str)] (spF 1 [] false g_spot_rows) :=
  fn_rule (N := [("shape" : Str), ("found" : Str), ("row" : Str)]) (ps := [("shape" : Str)]) F ⟨rfl, rfl, rfl, by decide +kernel, rfl, by decide +kernel, by decide +kernel⟩ (b_spot_rows G) (by decide) (by decide) (by decide)
theorem n_spot_rows {K : PySem.W.Frag} {f : Addr} {fd : FuncData} (F : FunD K ("spot_rows" : Str) ("spot_rows" : Str) (defArgs st_spot_rows) (defBody st_spot_rows) (defScope st_spot_rows) [] [] f fd) : Binds K fd [("shape" : Str)] [] :=
  F.bindsN (fun _ _ _ _ _ _ us hl => match us, hl with | [_], _ => rfl)
theorem o_spot_rows {P : Program} {w : World} {K : PySem.W.Frag} {mg : Str → Option Value} {base : Heap} {f : Addr} {fd : FuncData} (G : Gm mg) (m : mg ("spot_rows" : Str) = some (.ref f)) (F : FunD K ("spot_rows" : Str) ("spot_rows" : Str) (defArgs st_spot_rows) (defBody st_spot_rows) (defScope st_spot_rows) [] [] f fd) : Ct P w K mg base 1 ("spot_rows" : Str) st_spot_rows [("shape" : Str)] (spF 1 [] false g_spot_rows) :=
  ⟨f, fd, m, F, n_spot_rows F, k_spot_rows G m F⟩
/-! ### is_inside -/
abbrev st_is_inside : Stmt := top 16
def s_is_inside : CM := (cSeq (cRet (mAnd (m2 gLe (mL (g1 gLen) (mCons (mVar 0) mNil)) (mL (g1 gLen) (mCons (mVar 1) mNil))) (mL (g1 gAll) (mCons (mLc [2, 3] [] (bTup 2 (bCons (bName 2) (bCons (bName 3) bNil))) (mC (.bool true)) (m2 gLe (mVar 2) (mVar 3)) (mZip (mIt (mVar 0)) (mIt (mVar 1)))) mNil)))) cNx)
def g_is_inside : SM := gFn false [] 2 s_is_inside
theorem b_is_inside {P : Program} {w : World} {K : PySem.W.Frag} {mg : Str → Option Value} {base : Heap} {f : Addr} (G : Gm mg) (Fa : Addr → Prop) (cd : Value) (A : Around) (outer : List Env) (s : Shared) (H : Hp)
    (hr : Room 0 (A.deeper (envOfC ("is_inside" : Str) (defScope st_is_inside) s.heap.objs.size f cd))) (hgd : A.guards = some []) : SSs ⟨[] ++ [], [] ++ [], Fa, []⟩ (cxG P w K mg base [("shape" : Str), ("other" : Str), ("one" : Str), ("two" : Str)] ("is_inside" : Str) (defScope st_is_inside) f cd A outer s H) (defBody st_is_inside) [0, 1, 2, 3] [0, 1, 2, 3] [] false s_is_inside := by
  have hu100 : (A.deeper (envOfC ("is_inside" : Str) (defScope st_is_inside) s.heap.objs.size f cd)).units + 100 < cLine := by have := hr.un; omega
  have hu64 : (A.deeper (envOfC ("is_inside" : Str) (defScope st_is_inside) s.heap.objs.size f cd)).units + 64 < cLine := by omega
  have hu1 : (A.deeper (envOfC ("is_inside" : Str) (defScope st_is_inside) s.heap.objs.size f cd)).units + 1 < cLine := by omega
  have nd : ([("shape" : Str), ("other" : Str), ("one" : Str), ("two" : Str)] : List Str).Nodup := by decide +kernel
  exact sss_wide (ss_cons (ss_ret (se_and (xLe (bLen (by rfl) (G.b_len) (se_var (i := 0) rfl (vis_of rfl) (by decide) (by decide) (nm rfl))) (bLen (by rfl) (G.b_len) (se_var (i := 1) rfl (vis_of rfl) (by decide) (by decide) (nm rfl)))) (pe_one (bAll (by rfl) (by rfl) (G.b_all) (se_new (sn_lc (own := [(("one" : Str), 2), (("two" : Str), 3)]) (wb := []) (ws := [2, 3]) rfl nd (si_zip (by rfl) (G.b_zip) rfl rfl rfl (an rfl) (sq_of (se_var (i := 0) rfl (vis_of rfl) (by decide) (by decide) (nm rfl))) (sq_of (se_var (i := 1) rfl (vis_of rfl) (by decide) (by decide) (nm rfl)))) (blkOk_by (by kernel_rfl)) (fun _ _ _ _ _ _ => (sg_tup rfl (sgs_cons (sg_name nd (i := 2) rfl (loc_of rfl) (by first | exact .inl rfl | exact .inr rfl) (nm rfl)) (sgs_cons (sg_name nd (i := 3) rfl (loc_of rfl) (by first | exact .inl rfl | exact .inr rfl) (nm rfl)) sgs_nil rfl) rfl) rfl rfl)) (fun _ _ _ _ _ _ => sts_nil) (fun _ _ _ _ _ _ => (se_wide (w1 := []) (xLe (se_var (i := 2) rfl (vis_of rfl) (by decide) (by decide) (nm rfl)) (se_var (i := 3) rfl (vis_of rfl) (by decide) (by decide) (nm rfl))) (am rfl))) (an rfl) (am rfl) (am rfl) (an rfl) (by intro _; rfl)))))))
  ss_nil) (am rfl) (am rfl)
theorem k_is_inside {P : Program} {w : World} {K : PySem.W.Frag} {mg : Str → Option Value} {base : Heap} {f : Addr} {fd : FuncData} (G : Gm mg) (m : mg ("is_inside" : Str) = some (.ref f)) (F : FunD K ("is_inside" : Str) ("is_inside" : Str) (defArgs st_is_inside) (defBody st_is_inside) (defScope st_is_inside) [] [] f fd) : FnG P w K mg base 1 f fd [("shape" : Str), ("other" : Str)] (spF 2 [] false g_is_inside) :=
  fn_rule (N := [("shape" : Str), ("other" : Str), ("one" : Str), ("two" : Str)]) (ps := [("shape" : Str), ("other" : Str)]) F ⟨rfl, rfl, rfl, by decide +kernel, rfl, by decide +kernel, by decide +kernel⟩ (b_is_inside G) (by decide) (by decide) (by decide)
theorem n_is_inside {K : PySem.W.Frag} {f : Addr} {fd : FuncData} (F : FunD K ("is_inside" : Str) ("is_inside" : Str) (defArgs st_is_inside) (defBody st_is_inside) (defScope st_is_inside) [] [] f fd) : Binds K fd [("shape" : Str), ("other" : Str)] [] :=
  F.bindsN (fun _ _ _ _ _ _ us hl => match us, hl with | [_, _], _ => rfl)
theorem o_is_inside {P : Program} {w : World} {K : PySem.W.Frag} {mg : Str → Option Value} {base : Heap} {f : Addr} {fd : FuncData} (G : Gm mg) (m : mg ("is_inside" : Str) = some (.ref f)) (F : FunD K ("is_inside" : Str) ("is_inside" : Str) (defArgs st_is_inside) (defBody st_is_inside) (defScope st_is_inside) [] [] f fd) : Ct P w K mg base 1 ("is_inside" : Str) st_is_inside [("shape" : Str), ("other" : Str)] (spF 2 [] false g_is_inside) :=
  ⟨f, fd, m, F, n_is_inside F, k_is_inside G m F⟩
/-! ### all_shapes -/
abbrev st_all_shapes : Stmt := top 17
def s_all_shapes (gr : SM) : CM := (cSeq (cIf (m2 gEq (mVar 0) (mC (.int 0))) (cSeq (cRet (mL gLst (mCons (mL gTup mNil) mNil))) cNx) cNx) (cSeq (cSet 3 (mL gLst mNil)) (cSeq (cForS (mRg gR2 (mCons (mC (.int 1)) (mCons (mIf (m2 gGt (mVar 2) (mC (.int 0))) (m2 gAdd (mL (g1 gMinL) (mCons (mL gLst (mCons (mVar 0) (mCons (mVar 1) mNil))) mNil)) (mC (.int 1))) (mC (.int 1))) mNil))) (bName 4) (cSeq (cDrop (mExt 3 (mLc [5] [] (bName 5) (mC (.bool true)) (m2 gAdd (mL gTup (mCons (mVar 4) mNil)) (mVar 5)) (mIt (mCall0 gr (mCons (m2 gSub (mVar 0) (mVar 4)) (mCons (mVar 4) (mCons (m2 gSub (mVar 2) (mC (.int 1))) mNil)))))))) cNx)) (cSeq (cRetO 3) cNx))))
def g_all_shapes : Nat → SM
  | 0 => fun _ => none
  | n + 1 => gFn true [] 3 (s_all_shapes (g_all_shapes n))
theorem b_all_shapes {P : Program} {w : World} {K : PySem.W.Frag} {mg : Str → Option Value} {base : Heap} {f : Addr} (G : Gm mg) {kk : Nat} {gr : SM} (c_all_shapes : Ct P w K mg base (0 + kk) ("all_shapes" : Str) st_all_shapes [("size" : Str), ("most" : Str), ("rows" : Str)] (spF 3 [] true gr)) (Fa : Addr → Prop) (cd : Value) (A : Around) (outer : List Env) (s : Shared) (H : Hp)
    (hr : Room (0 + kk) (A.deeper (envOfC ("all_shapes" : Str) (defScope st_all_shapes) s.heap.objs.size f cd))) (hgd : A.guards = some []) : SSs ⟨[] ++ [3], [] ++ [3], Fa, [3]⟩ (cxG P w K mg base [("size" : Str), ("most" : Str), ("rows" : Str), ("found" : Str), ("first" : Str), ("rest" : Str)] ("all_shapes" : Str) (defScope st_all_shapes) f cd A outer s H) (defBody st_all_shapes) [0, 1, 2, 3, 4, 5] [0, 1, 2, 3, 4, 5] [3] true (s_all_shapes gr) := by
  obtain ⟨f_all_shapes, fd_all_shapes, m_all_shapes, F_all_shapes, B_all_shapes, G_all_shapes⟩ := c_all_shapes.ex
  have hu100 : (A.deeper (envOfC ("all_shapes" : Str) (defScope st_all_shapes) s.heap.objs.size f cd)).units + 100 < cLine := by have := hr.un; omega
  have hu64 : (A.deeper (envOfC ("all_shapes" : Str) (defScope st_all_shapes) s.heap.objs.size f cd)).units + 64 < cLine := by omega
  have hu1 : (A.deeper (envOfC ("all_shapes" : Str) (defScope st_all_shapes) s.heap.objs.size f cd)).units + 1 < cLine := by omega
  have nd : ([("size" : Str), ("most" : Str), ("rows" : Str), ("found" : Str), ("first" : Str), ("rest" : Str)] : List Str).Nodup := by decide +kernel
  exact sss_wide (ss_cons (ss_if (tEq_ hu64 (.inl rfl) (se_var (i := 0) rfl (vis_of rfl) (by decide) (by decide) (nm rfl)) gInt_)
  (ss_cons (ss_retNew (sn_lst (xCons (xTup sa_nil rfl) sa_nil) rfl))
  ss_nil)
  ss_nil)
  (ss_cons (ss_setN nd (i := 3) rfl (loc_of rfl) (.inl rfl) (ym rfl) (sn_lst sa_nil rfl) rfl)
  (ss_cons (ss_for PassesOwn.never rfl (si_range2 (lk := []) (by rfl) (G.b_range) rfl rfl (xCons gInt_ (xCons (se_if (tGt_ (se_var (i := 2) rfl (vis_of rfl) (by decide) (by decide) (nm rfl)) gInt_) (xAdd (bMinL (by rfl) (by rfl) (G.b_min) (xLst (xCons (se_var (i := 0) rfl (vis_of rfl) (by decide) (by decide) (nm rfl)) (xCons (se_var (i := 1) rfl (vis_of rfl) (by decide) (by decide) (nm rfl)) sa_nil)) rfl)) gInt_) gInt_) sa_nil))) (sg_name nd (i := 4) rfl (loc_of rfl) (by first | exact .inl rfl | exact .inr rfl) (nm rfl))
  (ss_cons (ss_expr (se_extend (i := 3) rfl (vis_of rfl) (by decide) (by decide) (ym rfl) (ym rfl) (sn_lc (own := [(("rest" : Str), 5)]) (wb := []) (ws := [5]) rfl nd (si_seq (sq_of (se_call G_all_shapes (hr.mono (by omega)) hgd (by rfl) m_all_shapes F_all_shapes.kp B_all_shapes (by rfl) (by rfl) (xCons (xSub (se_var (i := 0) rfl (vis_of rfl) (by decide) (by decide) (nm rfl)) (se_var (i := 4) rfl (vis_of rfl) (by decide) (by decide) (nm rfl))) (xCons (se_var (i := 4) rfl (vis_of rfl) (by decide) (by decide) (nm rfl)) (xCons (xSub (se_var (i := 2) rfl (vis_of rfl) (by decide) (by decide) (nm rfl)) gInt_) sa_nil))) (by decide) (by rfl) (by rfl)))) (blkOk_by (by kernel_rfl)) (fun _ _ _ _ _ _ => (sg_name nd (i := 5) rfl (loc_of rfl) (by first | exact .inl rfl | exact .inr rfl) (nm rfl))) (fun _ _ _ _ _ _ => sts_nil) (fun _ _ _ _ _ _ => (se_wide (w1 := []) (xAdd (xTup (xCons (se_var (i := 4) rfl (vis_of rfl) (by decide) (by decide) (nm rfl)) sa_nil) rfl) (se_var (i := 5) rfl (vis_of rfl) (by decide) (by decide) (nm rfl))) (am rfl))) (an rfl) (am rfl) (am rfl) (an rfl) (by intro _; rfl)) rfl rfl rfl rfl rfl) rfl)
  ss_nil) (an rfl) (by intro _; rfl))
  (ss_cons (ss_retOwn (i := 3) rfl (vis_of rfl) (by decide) (by decide) (ym rfl) (ym rfl) (ym rfl))
  ss_nil)))) (am rfl) (am rfl)
theorem k_all_shapes {P : Program} {w : World} {K : PySem.W.Frag} {mg : Str → Option Value} {base : Heap} {f : Addr} {fd : FuncData} (G : Gm mg) {kk : Nat} {gr : SM} (c_all_shapes : Ct P w K mg base (0 + kk) ("all_shapes" : Str) st_all_shapes [("size" : Str), ("most" : Str), ("rows" : Str)] (spF 3 [] true gr)) (m : mg ("all_shapes" : Str) = some (.ref f)) (F : FunD K ("all_shapes" : Str) ("all_shapes" : Str) (defArgs st_all_shapes) (defBody st_all_shapes) (defScope st_all_shapes) [] [] f fd) : FnG P w K mg base ((0 + kk) + 1) f fd [("size" : Str), ("most" : Str), ("rows" : Str)] (spF 3 [] true (gFn true [] 3 (s_all_shapes gr))) :=
  fn_rule (N := [("size" : Str), ("most" : Str), ("rows" : Str), ("found" : Str), ("first" : Str), ("rest" : Str)]) (ps := [("size" : Str), ("most" : Str), ("rows" : Str)]) F ⟨rfl, rfl, rfl, by decide +kernel, rfl, by decide +kernel, by decide +kernel⟩ (b_all_shapes G c_all_shapes) (by decide) (by decide) (by decide)
theorem n_all_shapes {K : PySem.W.Frag} {f : Addr} {fd : FuncData} (F : FunD K ("all_shapes" : Str) ("all_shapes" : Str) (defArgs st_all_shapes) (defBody st_all_shapes) (defScope st_all_shapes) [] [] f fd) : Binds K fd [("size" : Str), ("most" : Str), ("rows" : Str)] [] :=
  F.bindsN (fun _ _ _ _ _ _ us hl => match us, hl with | [_, _, _], _ => rfl)
theorem o_all_shapes {P : Program} {w : World} {K : PySem.W.Frag} {mg : Str → Option Value} {base : Heap} {f : Addr} {fd : FuncData} (G : Gm mg) {kk : Nat} {gr : SM} (c_all_shapes : Ct P w K mg base (0 + kk) ("all_shapes" : Str) st_all_shapes [("size" : Str), ("most" : Str), ("rows" : Str)] (spF 3 [] true gr)) (m : mg ("all_shapes" : Str) = some (.ref f)) (F : FunD K ("all_shapes" : Str) ("all_shapes" : Str) (defArgs st_all_shapes) (defBody st_all_shapes) (defScope st_all_shapes) [] [] f fd) : Ct P w K mg base ((0 + kk) + 1) ("all_shapes" : Str) st_all_shapes [("size" : Str), ("most" : Str), ("rows" : Str)] (spF 3 [] true (gFn true [] 3 (s_all_shapes gr))) :=
  ⟨f, fd, m, F, n_all_shapes F, k_all_shapes G c_all_shapes m F⟩
theorem r_all_shapes {P : Program} {w : World} {K : PySem.W.Frag} {mg : Str → Option Value} {base : Heap} {f : Addr} {fd : FuncData} (G : Gm mg) (m : mg ("all_shapes" : Str) = some (.ref f)) (F : FunD K ("all_shapes" : Str) ("all_shapes" : Str) (defArgs st_all_shapes) (defBody st_all_shapes) (defScope st_all_shapes) [] [] f fd) : ∀ n : Nat, Ct P w K mg base (0 + n) ("all_shapes" : Str) st_all_shapes [("size" : Str), ("most" : Str), ("rows" : Str)] (spF 3 [] true (g_all_shapes n))
  | 0 => ct_vac m F (n_all_shapes F)
  | n + 1 => o_all_shapes G (r_all_shapes G m F n) m F
/-! ### is_shape -/
abbrev st_is_shape : Stmt := top 20
def s_is_shape : CM := (cSeq (cRet (mCall0 g_is_shape_form (mCons (mVar 0) mNil))) cNx)
def g_is_shape : SM := gFn false [] 0 s_is_shape
theorem b_is_shape {P : Program} {w : World} {K : PySem.W.Frag} {mg : Str → Option Value} {base : Heap} {f : Addr} (G : Gm mg) (c_is_shape_form : Ct P w K mg base 3 ("is_shape_form" : Str) st_is_shape_form [("thing" : Str)] (spF 1 [] false g_is_shape_form)) (Fa : Addr → Prop) (cd : Value) (A : Around) (outer : List Env) (s : Shared) (H : Hp)
    (hr : Room 3 (A.deeper (envOfC ("is_shape" : Str) (defScope st_is_shape) s.heap.objs.size f cd))) (hgd : A.guards = some []) : SSs ⟨[] ++ [], [] ++ [], Fa, []⟩ (cxG P w K mg base [("thing" : Str)] ("is_shape" : Str) (defScope st_is_shape) f cd A outer s H) (defBody st_is_shape) [0] [0] [] false s_is_shape := by
  obtain ⟨f_is_shape_form, fd_is_shape_form, m_is_shape_form, F_is_shape_form, B_is_shape_form, G_is_shape_form⟩ := c_is_shape_form.ex
  have hu100 : (A.deeper (envOfC ("is_shape" : Str) (defScope st_is_shape) s.heap.objs.size f cd)).units + 100 < cLine := by have := hr.un; omega
  have hu64 : (A.deeper (envOfC ("is_shape" : Str) (defScope st_is_shape) s.heap.objs.size f cd)).units + 64 < cLine := by omega
  have hu1 : (A.deeper (envOfC ("is_shape" : Str) (defScope st_is_shape) s.heap.objs.size f cd)).units + 1 < cLine := by omega
  have nd : ([("thing" : Str)] : List Str).Nodup := by decide +kernel
  exact sss_wide (ss_cons (ss_ret (se_call G_is_shape_form (hr.mono (by omega)) hgd (by rfl) m_is_shape_form F_is_shape_form.kp B_is_shape_form (by rfl) (by rfl) (xCons (se_var (i := 0) rfl (vis_of rfl) (by decide) (by decide) (nm rfl)) sa_nil) (by decide) (by rfl) (by rfl)))
  ss_nil) (am rfl) (am rfl)
theorem k_is_shape {P : Program} {w : World} {K : PySem.W.Frag} {mg : Str → Option Value} {base : Heap} {f : Addr} {fd : FuncData} (G : Gm mg) (c_is_shape_form : Ct P w K mg base 3 ("is_shape_form" : Str) st_is_shape_form [("thing" : Str)] (spF 1 [] false g_is_shape_form)) (m : mg ("is_shape" : Str) = some (.ref f)) (F : FunD K ("is_shape" : Str) ("is_shape" : Str) (defArgs st_is_shape) (defBody st_is_shape) (defScope st_is_shape) [] [] f fd) : FnG P w K mg base 4 f fd [("thing" : Str)] (spF 1 [] false g_is_shape) :=
  fn_rule (N := [("thing" : Str)]) (ps := [("thing" : Str)]) F ⟨rfl, rfl, rfl, by decide +kernel, rfl, by decide +kernel, by decide +kernel⟩ (b_is_shape G c_is_shape_form) (by decide) (by decide) (by decide)
theorem n_is_shape {K : PySem.W.Frag} {f : Addr} {fd : FuncData} (F : FunD K ("is_shape" : Str) ("is_shape" : Str) (defArgs st_is_shape) (defBody st_is_shape) (defScope st_is_shape) [] [] f fd) : Binds K fd [("thing" : Str)] [] :=
  F.bindsN (fun _ _ _ _ _ _ us hl => match us, hl with | [_], _ => rfl)
theorem o_is_shape {P : Program} {w : World} {K : PySem.W.Frag} {mg : Str → Option Value} {base : Heap} {f : Addr} {fd : FuncData} (G : Gm mg) (c_is_shape_form : Ct P w K mg base 3 ("is_shape_form" : Str) st_is_shape_form [("thing" : Str)] (spF 1 [] false g_is_shape_form)) (m : mg ("is_shape" : Str) = some (.ref f)) (F : FunD K ("is_shape" : Str) ("is_shape" : Str) (defArgs st_is_shape) (defBody st_is_shape) (defScope st_is_shape) [] [] f fd) : Ct P w K mg base 4 ("is_shape" : Str) st_is_shape [("thing" : Str)] (spF 1 [] false g_is_shape) :=
  ⟨f, fd, m, F, n_is_shape F, k_is_shape G c_is_shape_form m F⟩
/-! ### size_of -/
abbrev st_size_of : Stmt := top 21
def s_size_of : CM := (cSeq (cDrop (mCall0 g_need_shape (mCons (mVar 0) mNil))) (cSeq (cRet (mL (g1 gSum) (mCons (mVar 0) mNil))) cNx))
def g_size_of : SM := gFn false [] 0 s_size_of
theorem b_size_of {P : Program} {w : World} {K : PySem.W.Frag} {mg : Str → Option Value} {base : Heap} {f : Addr} (G : Gm mg) (c_need_shape : Ct P w K mg base 4 ("need_shape" : Str) st_need_shape [("shape" : Str)] (spF 1 [] false g_need_shape)) (Fa : Addr → Prop) (cd : Value) (A : Around) (outer : List Env) (s : Shared) (H : Hp)
    (hr : Room 4 (A.deeper (envOfC ("size_of" : Str) (defScope st_size_of) s.heap.objs.size f cd))) (hgd : A.guards = some []) : SSs ⟨[] ++ [], [] ++ [], Fa, []⟩ (cxG P w K mg base [("shape" : Str)] ("size_of" : Str) (defScope st_size_of) f cd A outer s H) (defBody st_size_of) [0] [0] [] false s_size_of := by
  obtain ⟨f_need_shape, fd_need_shape, m_need_shape, F_need_shape, B_need_shape, G_need_shape⟩ := c_need_shape.ex
  have hu100 : (A.deeper (envOfC ("size_of" : Str) (defScope st_size_of) s.heap.objs.size f cd)).units + 100 < cLine := by have := hr.un; omega
  have hu64 : (A.deeper (envOfC ("size_of" : Str) (defScope st_size_of) s.heap.objs.size f cd)).units + 64 < cLine := by omega
  have hu1 : (A.deeper (envOfC ("size_of" : Str) (defScope st_size_of) s.heap.objs.size f cd)).units + 1 < cLine := by omega
  have nd : ([("shape" : Str)] : List Str).Nodup := by decide +kernel
  exact sss_wide (ss_cons (ss_expr (se_call G_need_shape (hr.mono (by omega)) hgd (by rfl) m_need_shape F_need_shape.kp B_need_shape (by rfl) (by rfl) (xCons (se_var (i := 0) rfl (vis_of rfl) (by decide) (by decide) (nm rfl)) sa_nil) (by decide) (by rfl) (by rfl)) rfl)
  (ss_cons (ss_ret (bSum (by rfl) (by rfl) (G.b_sum) (se_var (i := 0) rfl (vis_of rfl) (by decide) (by decide) (nm rfl))))
  ss_nil)) (am rfl) (am rfl)
theorem k_size_of {P : Program} {w : World} {K : PySem.W.Frag} {mg : Str → Option Value} {base : Heap} {f : Addr} {fd : FuncData} (G : Gm mg) (c_need_shape : Ct P w K mg base 4 ("need_shape" : Str) st_need_shape [("shape" : Str)] (spF 1 [] false g_need_shape)) (m : mg ("size_of" : Str) = some (.ref f)) (F : FunD K ("size_of" : Str) ("size_of" : Str) (defArgs st_size_of) (defBody st_size_of) (defScope st_size_of) [] [] f fd) : FnG P w K mg base 5 f fd [("shape" : Str)] (spF 1 [] false g_size_of) :=
  fn_rule (N := [("shape" : Str)]) (ps := [("shape" : Str)]) F ⟨rfl, rfl, rfl, by decide +kernel, rfl, by decide +kernel, by decide +kernel⟩ (b_size_of G c_need_shape) (by decide) (by decide) (by decide)
theorem n_size_of {K : PySem.W.Frag} {f : Addr} {fd : FuncData} (F : FunD K ("size_of" : Str) ("size_of" : Str) (defArgs st_size_of) (defBody st_size_of) (defScope st_size_of) [] [] f fd) : Binds K fd [("shape" : Str)] [] :=
  F.bindsN (fun _ _ _ _ _ _ us hl => match us, hl with | [_], _ => rfl)
theorem o_size_of {P : Program} {w : World} {K : PySem.W.Frag} {mg : Str → Option Value} {base : Heap} {f : Addr} {fd : FuncData} (G : Gm mg) (c_need_shape : Ct P w K mg base 4 ("need_shape" : Str) st_need_shape [("shape" : Str)] (spF 1 [] false g_need_shape)) (m : mg ("size_of" : Str) = some (.ref f)) (F : FunD K ("size_of" : Str) ("size_of" : Str) (defArgs st_size_of) (defBody st_size_of) (defScope st_size_of) [] [] f fd) : Ct P w K mg base 5 ("size_of" : Str) st_size_of [("shape" : Str)] (spF 1 [] false g_size_of) :=
  ⟨f, fd, m, F, n_size_of F, k_size_of G c_need_shape m F⟩
/-! ### turned_shape -/
abbrev st_turned_shape : Stmt := top 22
def s_turned_shape : CM := (cSeq (cDrop (mCall0 g_need_shape (mCons (mVar 0) mNil))) (cSeq (cRet (mCall0 g_columns_of (mCons (mVar 0) mNil))) cNx))
def g_turned_shape : SM := gFn false [] 0 s_turned_shape
theorem b_turned_shape {P : Program} {w : World} {K : PySem.W.Frag} {mg : Str → Option Value} {base : Heap} {f : Addr} (G : Gm mg) (c_columns_of : Ct P w K mg base 1 ("columns_of" : Str) st_columns_of [("shape" : Str)] (spF 1 [] false g_columns_of)) (c_need_shape : Ct P w K mg base 4 ("need_shape" : Str) st_need_shape [("shape" : Str)] (spF 1 [] false g_need_shape)) (Fa : Addr → Prop) (cd : Value) (A : Around) (outer : List Env) (s : Shared) (H : Hp)
    (hr : Room 4 (A.deeper (envOfC ("turned_shape" : Str) (defScope st_turned_shape) s.heap.objs.size f cd))) (hgd : A.guards = some []) : SSs ⟨[] ++ [], [] ++ [], Fa, []⟩ (cxG P w K mg base [("shape" : Str)] ("turned_shape" : Str) (defScope st_turned_shape) f cd A outer s H) (defBody st_turned_shape) [0] [0] [] false s_turned_shape := by
  obtain ⟨f_columns_of, fd_columns_of, m_columns_of, F_columns_of, B_columns_of, G_columns_of⟩ := c_columns_of.ex
  obtain ⟨f_need_shape, fd_need_shape, m_need_shape, F_need_shape, B_need_shape, G_need_shape⟩ := c_need_shape.ex
  have hu100 : (A.deeper (envOfC ("turned_shape" : Str) (defScope st_turned_shape) s.heap.objs.size f cd)).units + 100 < cLine := by have := hr.un; omega
  have hu64 : (A.deeper (envOfC ("turned_shape" : Str) (defScope st_turned_shape) s.heap.objs.size f cd)).units + 64 < cLine := by omega
  have hu1 : (A.deeper (envOfC ("turned_shape" : Str) (defScope st_turned_shape) s.heap.objs.size f cd)).units + 1 < cLine := by omega
  have nd : ([("shape" : Str)] : List Str).Nodup := by decide +kernel
  exact sss_wide (ss_cons (ss_expr (se_call G_need_shape (hr.mono (by omega)) hgd (by rfl) m_need_shape F_need_shape.kp B_need_shape (by rfl) (by rfl) (xCons (se_var (i := 0) rfl (vis_of rfl) (by decide) (by decide) (nm rfl)) sa_nil) (by decide) (by rfl) (by rfl)) rfl)
  (ss_cons (ss_ret (se_call G_columns_of (hr.mono (by omega)) hgd (by rfl) m_columns_of F_columns_of.kp B_columns_of (by rfl) (by rfl) (xCons (se_var (i := 0) rfl (vis_of rfl) (by decide) (by decide) (nm rfl)) sa_nil) (by decide) (by rfl) (by rfl)))
  ss_nil)) (am rfl) (am rfl)
theorem k_turned_shape {P : Program} {w : World} {K : PySem.W.Frag} {mg : Str → Option Value} {base : Heap} {f : Addr} {fd : FuncData} (G : Gm mg) (c_columns_of : Ct P w K mg base 1 ("columns_of" : Str) st_columns_of [("shape" : Str)] (spF 1 [] false g_columns_of)) (c_need_shape : Ct P w K mg base 4 ("need_shape" : Str) st_need_shape [("shape" : Str)] (spF 1 [] false g_need_shape)) (m : mg ("turned_shape" : Str) = some (.ref f)) (F : FunD K ("turned_shape" : Str) ("turned_shape" : Str) (defArgs st_turned_shape) (defBody st_turned_shape) (defScope st_turned_shape) [] [] f fd) : FnG P w K mg base 5 f fd [("shape" : Str)] (spF 1 [] false g_turned_shape) :=
  fn_rule (N := [("shape" : Str)]) (ps := [("shape" : Str)]) F ⟨rfl, rfl, rfl, by decide +kernel, rfl, by decide +kernel, by decide +kernel⟩ (b_turned_shape G c_columns_of c_need_shape) (by decide) (by decide) (by decide)
theorem n_turned_shape {K : PySem.W.Frag} {f : Addr} {fd : FuncData} (F : FunD K ("turned_shape" : Str) ("turned_shape" : Str) (defArgs st_turned_shape) (defBody st_turned_shape) (defScope st_turned_shape) [] [] f fd) : Binds K fd [("shape" : Str)] [] :=
  F.bindsN (fun _ _ _ _ _ _ us hl => match us, hl with | [_], _ => rfl)
theorem o_turned_shape {P : Program} {w : World} {K : PySem.W.Frag} {mg : Str → Option Value} {base : Heap} {f : Addr} {fd : FuncData} (G : Gm mg) (c_columns_of : Ct P w K mg base 1 ("columns_of" : Str) st_columns_of [("shape" : Str)] (spF 1 [] false g_columns_of)) (c_need_shape : Ct P w K mg base 4 ("need_shape" : Str) st_need_shape [("shape" : Str)] (spF 1 [] false g_need_shape)) (m : mg ("turned_shape" : Str) = some (.ref f)) (F : FunD K ("turned_shape" : Str) ("turned_shape" : Str) (defArgs st_turned_shape) (defBody st_turned_shape) (defScope st_turned_shape) [] [] f fd) : Ct P w K mg base 5 ("turned_shape" : Str) st_turned_shape [("shape" : Str)] (spF 1 [] false g_turned_shape) :=
  ⟨f, fd, m, F, n_turned_shape F, k_turned_shape G c_columns_of c_need_shape m F⟩
/-! ### shapes_of -/
abbrev st_shapes_of : Stmt := top 23
def s_shapes_of : CM := (cSeq (cDrop (mCall0 g_need_number (mCons (mVar 0) (mCons (mC (.int 0)) (mCons (mC (.int 12)) mNil))))) (cSeq (cRet (mCall0 (g_all_shapes 14) (mCons (mVar 0) (mCons (mVar 0) (mCons (mC (.int 9)) mNil))))) cNx))
def g_shapes_of : SM := gFn true [] 0 s_shapes_of
theorem b_shapes_of {P : Program} {w : World} {K : PySem.W.Frag} {mg : Str → Option Value} {base : Heap} {f : Addr} (G : Gm mg) (c_all_shapes : Ct P w K mg base 15 ("all_shapes" : Str) st_all_shapes [("size" : Str), ("most" : Str), ("rows" : Str)] (spF 3 [] true (g_all_shapes 14))) (c_need_number : Ct P w K mg base 3 ("need_number" : Str) st_need_number [("thing" : Str), ("low" : Str), ("high" : Str)] (spF 3 [] false g_need_number)) (Fa : Addr → Prop) (cd : Value) (A : Around) (outer : List Env) (s : Shared) (H : Hp)
    (hr : Room 15 (A.deeper (envOfC ("shapes_of" : Str) (defScope st_shapes_of) s.heap.objs.size f cd))) (hgd : A.guards = some []) : SSs ⟨[] ++ [], [] ++ [], Fa, []⟩ (cxG P w K mg base [("size" : Str)] ("shapes_of" : Str) (defScope st_shapes_of) f cd A outer s H) (defBody st_shapes_of) [0] [0] [] true s_shapes_of := by
  obtain ⟨f_all_shapes, fd_all_shapes, m_all_shapes, F_all_shapes, B_all_shapes, G_all_shapes⟩ := c_all_shapes.ex
  obtain ⟨f_need_number, fd_need_number, m_need_number, F_need_number, B_need_number, G_need_number⟩ := c_need_number.ex
  have hu100 : (A.deeper (envOfC ("shapes_of" : Str) (defScope st_shapes_of) s.heap.objs.size f cd)).units + 100 < cLine := by have := hr.un; omega
  have hu64 : (A.deeper (envOfC ("shapes_of" : Str) (defScope st_shapes_of) s.heap.objs.size f cd)).units + 64 < cLine := by omega
  have hu1 : (A.deeper (envOfC ("shapes_of" : Str) (defScope st_shapes_of) s.heap.objs.size f cd)).units + 1 < cLine := by omega
  have nd : ([("size" : Str)] : List Str).Nodup := by decide +kernel
  exact sss_wide (ss_cons (ss_expr (se_call G_need_number (hr.mono (by omega)) hgd (by rfl) m_need_number F_need_number.kp B_need_number (by rfl) (by rfl) (xCons (se_var (i := 0) rfl (vis_of rfl) (by decide) (by decide) (nm rfl)) (xCons gInt_ (xCons (gGlobI (by rfl) G.c_MOST_LISTED) sa_nil))) (by decide) (by rfl) (by rfl)) rfl)
  (ss_cons (ss_retNew (sn_call G_all_shapes (hr.mono (by omega)) hgd (by rfl) m_all_shapes F_all_shapes.kp B_all_shapes (by rfl) (by rfl) (xCons (se_var (i := 0) rfl (vis_of rfl) (by decide) (by decide) (nm rfl)) (xCons (se_var (i := 0) rfl (vis_of rfl) (by decide) (by decide) (nm rfl)) (xCons (gGlobI (by rfl) G.c_MOST_ROWS) sa_nil))) (by decide) (by rfl) (by rfl)))
  ss_nil)) (am rfl) (am rfl)
theorem k_shapes_of {P : Program} {w : World} {K : PySem.W.Frag} {mg : Str → Option Value} {base : Heap} {f : Addr} {fd : FuncData} (G : Gm mg) (c_all_shapes : Ct P w K mg base 15 ("all_shapes" : Str) st_all_shapes [("size" : Str), ("most" : Str), ("rows" : Str)] (spF 3 [] true (g_all_shapes 14))) (c_need_number : Ct P w K mg base 3 ("need_number" : Str) st_need_number [("thing" : Str), ("low" : Str), ("high" : Str)] (spF 3 [] false g_need_number)) (m : mg ("shapes_of" : Str) = some (.ref f)) (F : FunD K ("shapes_of" : Str) ("shapes_of" : Str) (defArgs st_shapes_of) (defBody st_shapes_of) (defScope st_shapes_of) [] [] f fd) : FnG P w K mg base 16 f fd [("size" : Str)] (spF 1 [] true g_shapes_of) :=
  fn_rule (N := [("size" : Str)]) (ps := [("size" : Str)]) F ⟨rfl, rfl, rfl, by decide +kernel, rfl, by decide +kernel, by decide +kernel⟩ (b_shapes_of G c_all_shapes c_need_number) (by decide) (by decide) (by decide)
theorem n_shapes_of {K : PySem.W.Frag} {f : Addr} {fd : FuncData} (F : FunD K ("shapes_of" : Str) ("shapes_of" : Str) (defArgs st_shapes_of) (defBody st_shapes_of) (defScope st_shapes_of) [] [] f fd) : Binds K fd [("size" : Str)] [] :=
  F.bindsN (fun _ _ _ _ _ _ us hl => match us, hl with | [_], _ => rfl)
theorem o_shapes_of {P : Program} {w : World} {K : PySem.W.Frag} {mg : Str → Option Value} {base : Heap} {f : Addr} {fd : FuncData} (G : Gm mg) (c_all_shapes : Ct P w K mg base 15 ("all_shapes" : Str) st_all_shapes [("size" : Str), ("most" : Str), ("rows" : Str)] (spF 3 [] true (g_all_shapes 14))) (c_need_number : Ct P w K mg base 3 ("need_number" : Str) st_need_number [("thing" : Str), ("low" : Str), ("high" : Str)] (spF 3 [] false g_need_number)) (m : mg ("shapes_of" : Str) = some (.ref f)) (F : FunD K ("shapes_of" : Str) ("shapes_of" : Str) (defArgs st_shapes_of) (defBody st_shapes_of) (defScope st_shapes_of) [] [] f fd) : Ct P w K mg base 16 ("shapes_of" : Str) st_shapes_of [("size" : Str)] (spF 1 [] true g_shapes_of) :=
  ⟨f, fd, m, F, n_shapes_of F, k_shapes_of G c_all_shapes c_need_number m F⟩
/-! ### is_within_shape -/
abbrev st_is_within_shape : Stmt := top 24
def s_is_within_shape : CM := (cSeq (cDrop (mCall0 g_need_shape (mCons (mVar 0) mNil))) (cSeq (cDrop (mCall0 g_need_shape (mCons (mVar 1) mNil))) (cSeq (cRet (mCall0 g_is_inside (mCons (mVar 0) (mCons (mVar 1) mNil)))) cNx)))
def g_is_within_shape : SM := gFn false [] 0 s_is_within_shape
theorem b_is_within_shape {P : Program} {w : World} {K : PySem.W.Frag} {mg : Str → Option Value} {base : Heap} {f : Addr} (G : Gm mg) (c_is_inside : Ct P w K mg base 1 ("is_inside" : Str) st_is_inside [("shape" : Str), ("other" : Str)] (spF 2 [] false g_is_inside)) (c_need_shape : Ct P w K mg base 4 ("need_shape" : Str) st_need_shape [("shape" : Str)] (spF 1 [] false g_need_shape)) (Fa : Addr → Prop) (cd : Value) (A : Around) (outer : List Env) (s : Shared) (H : Hp)
    (hr : Room 4 (A.deeper (envOfC ("is_within_shape" : Str) (defScope st_is_within_shape) s.heap.objs.size f cd))) (hgd : A.guards = some []) : SSs ⟨[] ++ [], [] ++ [], Fa, []⟩ (cxG P w K mg base [("shape" : Str), ("other" : Str)] ("is_within_shape" : Str) (defScope st_is_within_shape) f cd A outer s H) (defBody st_is_within_shape) [0, 1] [0, 1] [] false s_is_within_shape := by
  obtain ⟨f_is_inside, fd_is_inside, m_is_inside, F_is_inside, B_is_inside, G_is_inside⟩ := c_is_inside.ex
  obtain ⟨f_need_shape, fd_need_shape, m_need_shape, F_need_shape, B_need_shape, G_need_shape⟩ := c_need_shape.ex
  have hu100 : (A.deeper (envOfC ("is_within_shape" : Str) (defScope st_is_within_shape) s.heap.objs.size f cd)).units + 100 < cLine := by have := hr.un; omega
  have hu64 : (A.deeper (envOfC ("is_within_shape" : Str) (defScope st_is_within_shape) s.heap.objs.size f cd)).units + 64 < cLine := by omega
  have hu1 : (A.deeper (envOfC ("is_within_shape" : Str) (defScope st_is_within_shape) s.heap.objs.size f cd)).units + 1 < cLine := by omega
  have nd : ([("shape" : Str), ("other" : Str)] : List Str).Nodup := by decide +kernel
  exact sss_wide (ss_cons (ss_expr (se_call G_need_shape (hr.mono (by omega)) hgd (by rfl) m_need_shape F_need_shape.kp B_need_shape (by rfl) (by rfl) (xCons (se_var (i := 0) rfl (vis_of rfl) (by decide) (by decide) (nm rfl)) sa_nil) (by decide) (by rfl) (by rfl)) rfl)
  (ss_cons (ss_expr (se_call G_need_shape (hr.mono (by omega)) hgd (by rfl) m_need_shape F_need_shape.kp B_need_shape (by rfl) (by rfl) (xCons (se_var (i := 1) rfl (vis_of rfl) (by decide) (by decide) (nm rfl)) sa_nil) (by decide) (by rfl) (by rfl)) rfl)
  (ss_cons (ss_ret (se_call G_is_inside (hr.mono (by omega)) hgd (by rfl) m_is_inside F_is_inside.kp B_is_inside (by rfl) (by rfl) (xCons (se_var (i := 0) rfl (vis_of rfl) (by decide) (by decide) (nm rfl)) (xCons (se_var (i := 1) rfl (vis_of rfl) (by decide) (by decide) (nm rfl)) sa_nil)) (by decide) (by rfl) (by rfl)))
  ss_nil))) (am rfl) (am rfl)
theorem k_is_within_shape {P : Program} {w : World} {K : PySem.W.Frag} {mg : Str → Option Value} {base : Heap} {f : Addr} {fd : FuncData} (G : Gm mg) (c_is_inside : Ct P w K mg base 1 ("is_inside" : Str) st_is_inside [("shape" : Str), ("other" : Str)] (spF 2 [] false g_is_inside)) (c_need_shape : Ct P w K mg base 4 ("need_shape" : Str) st_need_shape [("shape" : Str)] (spF 1 [] false g_need_shape)) (m : mg ("is_within_shape" : Str) = some (.ref f)) (F : FunD K ("is_within_shape" : Str) ("is_within_shape" : Str) (defArgs st_is_within_shape) (defBody st_is_within_shape) (defScope st_is_within_shape) [] [] f fd) : FnG P w K mg base 5 f fd [("shape" : Str), ("other" : Str)] (spF 2 [] false g_is_within_shape) :=
  fn_rule (N := [("shape" : Str), ("other" : Str)]) (ps := [("shape" : Str), ("other" : Str)]) F ⟨rfl, rfl, rfl, by decide +kernel, rfl, by decide +kernel, by decide +kernel⟩ (b_is_within_shape G c_is_inside c_need_shape) (by decide) (by decide) (by decide)
theorem n_is_within_shape {K : PySem.W.Frag} {f : Addr} {fd : FuncData} (F : FunD K ("is_within_shape" : Str) ("is_within_shape" : Str) (defArgs st_is_within_shape) (defBody st_is_within_shape) (defScope st_is_within_shape) [] [] f fd) : Binds K fd [("shape" : Str), ("other" : Str)] [] :=
  F.bindsN (fun _ _ _ _ _ _ us hl => match us, hl with | [_, _], _ => rfl)
theorem o_is_within_shape {P : Program} {w : World} {K : PySem.W.Frag} {mg : Str → Option Value} {base : Heap} {f : Addr} {fd : FuncData} (G : Gm mg) (c_is_inside : Ct P w K mg base 1 ("is_inside" : Str) st_is_inside [("shape" : Str), ("other" : Str)] (spF 2 [] false g_is_inside)) (c_need_shape : Ct P w K mg base 4 ("need_shape" : Str) st_need_shape [("shape" : Str)] (spF 1 [] false g_need_shape)) (m : mg ("is_within_shape" : Str) = some (.ref f)) (F : FunD K ("is_within_shape" : Str) ("is_within_shape" : Str) (defArgs st_is_within_shape) (defBody st_is_within_shape) (defScope st_is_within_shape) [] [] f fd) : Ct P w K mg base 5 ("is_within_shape" : Str) st_is_within_shape [("shape" : Str), ("other" : Str)] (spF 2 [] false g_is_within_shape) :=
  ⟨f, fd, m, F, n_is_within_shape F, k_is_within_shape G c_is_inside c_need_shape m F⟩
/-! ### corners_of -/
abbrev st_corners_of : Stmt := top 25
def s_corners_of : CM := (cSeq (cDrop (mCall0 g_need_shape (mCons (mVar 0) mNil))) (cSeq (cRet (mCall0 g_corner_rows (mCons (mVar 0) mNil))) cNx))
def g_corners_of : SM := gFn false [] 0 s_corners_of
theorem b_corners_of {P : Program} {w : World} {K : PySem.W.Frag} {mg : Str → Option Value} {base : Heap} {f : Addr} (G : Gm mg) (c_corner_rows : Ct P w K mg base 1 ("corner_rows" : Str) st_corner_rows [("shape" : Str)] (spF 1 [] false g_corner_rows)) (c_need_shape : Ct P w K mg base 4 ("need_shape" : Str) st_need_shape [("shape" : Str)] (spF 1 [] false g_need_shape)) (Fa : Addr → Prop) (cd : Value) (A : Around) (outer : List Env) (s : Shared) (H : Hp)
    (hr : Room 4 (A.deeper (envOfC ("corners_of" : Str) (defScope st_corners_of) s.heap.objs.size f cd))) (hgd : A.guards = some []) : SSs ⟨[] ++ [], [] ++ [], Fa, []⟩ (cxG P w K mg base [("shape" : Str)] ("corners_of" : Str) (defScope st_corners_of) f cd A outer s H) (defBody st_corners_of) [0] [0] [] false s_corners_of := by
  obtain ⟨f_corner_rows, fd_corner_rows, m_corner_rows, F_corner_rows, B_corner_rows, G_corner_rows⟩ := c_corner_rows.ex
  obtain ⟨f_need_shape, fd_need_shape, m_need_shape, F_need_shape, B_need_shape, G_need_shape⟩ := c_need_shape.ex
  have hu100 : (A.deeper (envOfC ("corners_of" : Str) (defScope st_corners_of) s.heap.objs.size f cd)).units + 100 < cLine := by have := hr.un; omega
  have hu64 : (A.deeper (envOfC ("corners_of" : Str) (defScope st_corners_of) s.heap.objs.size f cd)).units + 64 < cLine := by omega
  have hu1 : (A.deeper (envOfC ("corners_of" : Str) (defScope st_corners_of) s.heap.objs.size f cd)).units + 1 < cLine := by omega
  have nd : ([("shape" : Str)] : List Str).Nodup := by decide +kernel
  exact sss_wide (ss_cons (ss_expr (se_call G_need_shape (hr.mono (by omega)) hgd (by rfl) m_need_shape F_need_shape.kp B_need_shape (by rfl) (by rfl) (xCons (se_var (i := 0) rfl (vis_of rfl) (by decide) (by decide) (nm rfl)) sa_nil) (by decide) (by rfl) (by rfl)) rfl)
  (ss_cons (ss_ret (se_call G_corner_rows (hr.mono (by omega)) hgd (by rfl) m_corner_rows F_corner_rows.kp B_corner_rows (by rfl) (by rfl) (xCons (se_var (i := 0) rfl (vis_of rfl) (by decide) (by decide) (nm rfl)) sa_nil) (by decide) (by rfl) (by rfl)))
  ss_nil)) (am rfl) (am rfl)
theorem k_corners_of {P : Program} {w : World} {K : PySem.W.Frag} {mg : Str → Option Value} {base : Heap} {f : Addr} {fd : FuncData} (G : Gm mg) (c_corner_rows : Ct P w K mg base 1 ("corner_rows" : Str) st_corner_rows [("shape" : Str)] (spF 1 [] false g_corner_rows)) (c_need_shape : Ct P w K mg base 4 ("need_shape" : Str) st_need_shape [("shape" : Str)] (spF 1 [] false g_need_shape)) (m : mg ("corners_of" : Str) = some (.ref f)) (F : FunD K ("corners_of" : Str) ("corners_of" : Str) (defArgs st_corners_of) (defBody st_corners_of) (defScope st_corners_of) [] [] f fd) : FnG P w K mg base 5 f fd [("shape" : Str)] (spF 1 [] false g_corners_of) :=
  fn_rule (N := [("shape" : Str)]) (ps := [("shape" : Str)]) F ⟨rfl, rfl, rfl, by decide +kernel, rfl, by decide +kernel, by decide +kernel⟩ (b_corners_of G c_corner_rows c_need_shape) (by decide) (by decide) (by decide)
theorem n_corners_of {K : PySem.W.Frag} {f : Addr} {fd : FuncData} (F : FunD K ("corners_of" : Str) ("corners_of" : Str) (defArgs st_corners_of) (defBody st_corners_of) (defScope st_corners_of) [] [] f fd) : Binds K fd [("shape" : Str)] [] :=
  F.bindsN (fun _ _ _ _ _ _ us hl => match us, hl with | [_], _ => rfl)
theorem o_corners_of {P : Program} {w : World} {K : PySem.W.Frag} {mg : Str → Option Value} {base : Heap} {f : Addr} {fd : FuncData} (G : Gm mg) (c_corner_rows : Ct P w K mg base 1 ("corner_rows" : Str) st_corner_rows [("shape" : Str)] (spF 1 [] false g_corner_rows)) (c_need_shape : Ct P w K mg base 4 ("need_shape" : Str) st_need_shape [("shape" : Str)] (spF 1 [] false g_need_shape)) (m : mg ("corners_of" : Str) = some (.ref f)) (F : FunD K ("corners_of" : Str) ("corners_of" : Str) (defArgs st_corners_of) (defBody st_corners_of) (defScope st_corners_of) [] [] f fd) : Ct P w K mg base 5 ("corners_of" : Str) st_corners_of [("shape" : Str)] (spF 1 [] false g_corners_of) :=
  ⟨f, fd, m, F, n_corners_of F, k_corners_of G c_corner_rows c_need_shape m F⟩
/-! ### spots_of -/
abbrev st_spots_of : Stmt := top 26
def s_spots_of : CM := (cSeq (cDrop (mCall0 g_need_shape (mCons (mVar 0) mNil))) (cSeq (cRet (mCall0 g_spot_rows (mCons (mVar 0) mNil))) cNx))
def g_spots_of : SM := gFn false [] 0 s_spots_of
theorem b_spots_of {P : Program} {w : World} {K : PySem.W.Frag} {mg : Str → Option Value} {base : Heap} {f : Addr} (G : Gm mg) (c_need_shape : Ct P w K mg base 4 ("need_shape" : Str) st_need_shape [("shape" : Str)] (spF 1 [] false g_need_shape)) (c_spot_rows : Ct P w K mg base 1 ("spot_rows" : Str) st_spot_rows [("shape" : Str)] (spF 1 [] false g_spot_rows)) (Fa : Addr → Prop) (cd : Value) (A : Around) (outer : List Env) (s : Shared) (H : Hp)
    (hr : Room 4 (A.deeper (envOfC ("spots_of" : Str) (defScope st_spots_of) s.heap.objs.size f cd))) (hgd : A.guards = some []) : SSs ⟨[] ++ [], [] ++ [], Fa, []⟩ (cxG P w K mg base [("shape" : Str)] ("spots_of" : Str) (defScope st_spots_of) f cd A outer s H) (defBody st_spots_of) [0] [0] [] false s_spots_of := by
  obtain ⟨f_need_shape, fd_need_shape, m_need_shape, F_need_shape, B_need_shape, G_need_shape⟩ := c_need_shape.ex
  obtain ⟨f_spot_rows, fd_spot_rows, m_spot_rows, F_spot_rows, B_spot_rows, G_spot_rows⟩ := c_spot_rows.ex
  have hu100 : (A.deeper (envOfC ("spots_of" : Str) (defScope st_spots_of) s.heap.objs.size f cd)).units + 100 < cLine := by have := hr.un; omega
  have hu64 : (A.deeper (envOfC ("spots_of" : Str) (defScope st_spots_of) s.heap.objs.size f cd)).units + 64 < cLine := by omega
  have hu1 : (A.deeper (envOfC ("spots_of" : Str) (defScope st_spots_of) s.heap.objs.size f cd)).units + 1 < cLine := by omega
  have nd : ([("shape" : Str)] : List Str).Nodup := by decide +kernel
  exact sss_wide (ss_cons (ss_expr (se_call G_need_shape (hr.mono (by omega)) hgd (by rfl) m_need_shape F_need_shape.kp B_need_shape (by rfl) (by rfl) (xCons (se_var (i := 0) rfl (vis_of rfl) (by decide) (by decide) (nm rfl)) sa_nil) (by decide) (by rfl) (by rfl)) rfl)
  (ss_cons (ss_ret (se_call G_spot_rows (hr.mono (by omega)) hgd (by rfl) m_spot_rows F_spot_rows.kp B_spot_rows (by rfl) (by rfl) (xCons (se_var (i := 0) rfl (vis_of rfl) (by decide) (by decide) (nm rfl)) sa_nil) (by decide) (by rfl) (by rfl)))
  ss_nil)) (am rfl) (am rfl)
theorem k_spots_of {P : Program} {w : World} {K : PySem.W.Frag} {mg : Str → Option Value} {base : Heap} {f : Addr} {fd : FuncData} (G : Gm mg) (c_need_shape : Ct P w K mg base 4 ("need_shape" : Str) st_need_shape [("shape" : Str)] (spF 1 [] false g_need_shape)) (c_spot_rows : Ct P w K mg base 1 ("spot_rows" : Str) st_spot_rows [("shape" : Str)] (spF 1 [] false g_spot_rows)) (m : mg ("spots_of" : Str) = some (.ref f)) (F : FunD K ("spots_of" : Str) ("spots_of" : Str) (defArgs st_spots_of) (defBody st_spots_of) (defScope st_spots_of) [] [] f fd) : FnG P w K mg base 5 f fd [("shape" : Str)] (spF 1 [] false g_spots_of) :=
  fn_rule (N := [("shape" : Str)]) (ps := [("shape" : Str)]) F ⟨rfl, rfl, rfl, by decide +kernel, rfl, by decide +kernel, by decide +kernel⟩ (b_spots_of G c_need_shape c_spot_rows) (by decide) (by decide) (by decide)
theorem n_spots_of {K : PySem.W.Frag} {f : Addr} {fd : FuncData} (F : FunD K ("spots_of" : Str) ("spots_of" : Str) (defArgs st_spots_of) (defBody st_spots_of) (defScope st_spots_of) [] [] f fd) : Binds K fd [("shape" : Str)] [] :=
  F.bindsN (fun _ _ _ _ _ _ us hl => match us, hl with | [_], _ => rfl)
theorem o_spots_of {P : Program} {w : World} {K : PySem.W.Frag} {mg : Str → Option Value} {base : Heap} {f : Addr} {fd : FuncData} (G : Gm mg) (c_need_shape : Ct P w K mg base 4 ("need_shape" : Str) st_need_shape [("shape" : Str)] (spF 1 [] false g_need_shape)) (c_spot_rows : Ct P w K mg base 1 ("spot_rows" : Str) st_spot_rows [("shape" : Str)] (spF 1 [] false g_spot_rows)) (m : mg ("spots_of" : Str) = some (.ref f)) (F : FunD K ("spots_of" : Str) ("spots_of" : Str) (defArgs st_spots_of) (defBody st_spots_of) (defScope st_spots_of) [] [] f fd) : Ct P w K mg base 5 ("spots_of" : Str) st_spots_of [("shape" : Str)] (spF 1 [] false g_spots_of) :=
  ⟨f, fd, m, F, n_spots_of F, k_spots_of G c_need_shape c_spot_rows m F⟩
/-! ### _law_feed -/
abbrev st__law_feed : Stmt := top 28
def s__law_feed : CM := (cSeq (cSet 2 (m2 gAdd (m2 gMulI (mC (.int 977)) (mVar 1)) (mL (g1 gSum) (mCons (mCut (mVar 0) oNone (oSome (mC (.int 1)))) mNil)))) (cSeq (cIf (m2 gLt (mVar 1) (mL (g1 gLen) (mCons (mVar 0) mNil))) (cSeq (cSet 2 (m2 gIdx (mVar 0) (mVar 1))) cNx) cNx) (cSeq (cRet (mL gLst (mCons (mL (g2 gMax2) (mCons (mC (.int 0)) (mCons (m2 gSub (mVar 2) (m2 gPow (mC (.int 10)) (mC (.int 18)))) mNil))) (mCons (m2 gMod (mL (g1 FV.gInt) (mCons (m2 gAdd (m2 gMulI (mVar 2) (mC (.int 19))) (m2 gMulI (mC (.int 7)) (mVar 1))) mNil)) (m2 gAdd (m2 gPow (mC (.int 10)) (mC (.int 39))) (mC (.int 23)))) (mCons (mC (.int 0)) mNil))))) cNx)))
def g__law_feed : SM := gFn true [] 1 s__law_feed
theorem b__law_feed {P : Program} {w : World} {K : PySem.W.Frag} {mg : Str → Option Value} {base : Heap} {f : Addr} (G : Gm mg) (Fa : Addr → Prop) (cd : Value) (A : Around) (outer : List Env) (s : Shared) (H : Hp)
    (hr : Room 0 (A.deeper (envOfC ("_law_feed" : Str) (defScope st__law_feed) s.heap.objs.size f cd))) (hgd : A.guards = some []) : SSs ⟨[] ++ [], [] ++ [], Fa, []⟩ (cxG P w K mg base [("script" : Str), ("k" : Str), ("cell" : Str)] ("_law_feed" : Str) (defScope st__law_feed) f cd A outer s H) (defBody st__law_feed) [0, 1, 2] [0, 1, 2] [] true s__law_feed := by
  have hu100 : (A.deeper (envOfC ("_law_feed" : Str) (defScope st__law_feed) s.heap.objs.size f cd)).units + 100 < cLine := by have := hr.un; omega
  have hu64 : (A.deeper (envOfC ("_law_feed" : Str) (defScope st__law_feed) s.heap.objs.size f cd)).units + 64 < cLine := by omega
  have hu1 : (A.deeper (envOfC ("_law_feed" : Str) (defScope st__law_feed) s.heap.objs.size f cd)).units + 1 < cLine := by omega
  have nd : ([("script" : Str), ("k" : Str), ("cell" : Str)] : List Str).Nodup := by decide +kernel
  exact sss_wide (ss_cons (ss_set nd (i := 2) rfl (loc_of rfl) (.inl rfl) (nm rfl) (xAdd (xMul gInt_ (se_var (i := 1) rfl (vis_of rfl) (by decide) (by decide) (nm rfl))) (bSum (by rfl) (by rfl) (G.b_sum) (xCut (se_var (i := 0) rfl (vis_of rfl) (by decide) (by decide) (nm rfl)) so_none (so_some gInt_)))) rfl)
  (ss_cons (ss_if (tLt_ (se_var (i := 1) rfl (vis_of rfl) (by decide) (by decide) (nm rfl)) (bLen (by rfl) (G.b_len) (se_var (i := 0) rfl (vis_of rfl) (by decide) (by decide) (nm rfl))))
  (ss_cons (ss_set nd (i := 2) rfl (loc_of rfl) (.inl rfl) (nm rfl) (xIdx (by intro o i; rfl) (se_var (i := 0) rfl (vis_of rfl) (by decide) (by decide) (nm rfl)) (se_var (i := 1) rfl (vis_of rfl) (by decide) (by decide) (nm rfl))) rfl)
  ss_nil)
  ss_nil)
  (ss_cons (ss_retNew (sn_lst (xCons (bMax2 (by rfl) (by rfl) (G.b_max) (xCons gInt_ (xCons (xSub (se_var (i := 2) rfl (vis_of rfl) (by decide) (by decide) (nm rfl)) (xPow gInt_ gInt_)) sa_nil))) (xCons (xMod (bInt (by rfl) (G.b_int) (xAdd (xMul (se_var (i := 2) rfl (vis_of rfl) (by decide) (by decide) (nm rfl)) gInt_) (xMul gInt_ (se_var (i := 1) rfl (vis_of rfl) (by decide) (by decide) (nm rfl))))) (xAdd (xPow gInt_ gInt_) gInt_)) (xCons gInt_ sa_nil))) rfl))
  ss_nil))) (am rfl) (am rfl)
theorem k__law_feed {P : Program} {w : World} {K : PySem.W.Frag} {mg : Str → Option Value} {base : Heap} {f : Addr} {fd : FuncData} (G : Gm mg) (m : mg ("_law_feed" : Str) = some (.ref f)) (F : FunD K ("_law_feed" : Str) ("_law_feed" : Str) (defArgs st__law_feed) (defBody st__law_feed) (defScope st__law_feed) [] [] f fd) : FnG P w K mg base 1 f fd [("script" : Str), ("k" : Str)] (spF 2 [] true g__law_feed) :=
  fn_rule (N := [("script" : Str), ("k" : Str), ("cell" : Str)]) (ps := [("script" : Str), ("k" : Str)]) F ⟨rfl, rfl, rfl, by decide +kernel, rfl, by decide +kernel, by decide +kernel⟩ (b__law_feed G) (by decide) (by decide) (by decide)
theorem n__law_feed {K : PySem.W.Frag} {f : Addr} {fd : FuncData} (F : FunD K ("_law_feed" : Str) ("_law_feed" : Str) (defArgs st__law_feed) (defBody st__law_feed) (defScope st__law_feed) [] [] f fd) : Binds K fd [("script" : Str), ("k" : Str)] [] :=
  F.bindsN (fun _ _ _ _ _ _ us hl => match us, hl with | [_, _], _ => rfl)
theorem o__law_feed {P : Program} {w : World} {K : PySem.W.Frag} {mg : Str → Option Value} {base : Heap} {f : Addr} {fd : FuncData} (G : Gm mg) (m : mg ("_law_feed" : Str) = some (.ref f)) (F : FunD K ("_law_feed" : Str) ("_law_feed" : Str) (defArgs st__law_feed) (defBody st__law_feed) (defScope st__law_feed) [] [] f fd) : Ct P w K mg base 1 ("_law_feed" : Str) st__law_feed [("script" : Str), ("k" : Str)] (spF 2 [] true g__law_feed) :=
  ⟨f, fd, m, F, n__law_feed F, k__law_feed G m F⟩
/-! ### _law_draw -/
abbrev st__law_draw : Stmt := top 29
def s__law_draw : CM := (cSeq (cIf (m2 gGt (m2 gIdx (mVarO 0) (mC (.int 0))) (mC (.int 0))) (cSeq (cSet 2 (m2 gFdiv (m2 gIdx (mVarO 0) (mC (.int 0))) (mVar 1))) (cSeq (cSet 3 (m2 gSub (m2 gIdx (mVarO 0) (mC (.int 0))) (m2 gMulI (mVar 2) (mVar 1)))) (cSeq (cSetIx 0 (mVar 2) (mC (.int 0))) (cSeq (cRet (mVar 3)) cNx)))) cNx) (cSeq (cSetIx 0 (m2 gAdd (m2 gIdx (mVarO 0) (mC (.int 2))) (mC (.int 1))) (mC (.int 2))) (cSeq (cSet 4 (m2 gAdd (m2 gIdx (mVarO 0) (mC (.int 1))) (m2 gMulI (mC (.int 6700417)) (m2 gIdx (mVarO 0) (mC (.int 2)))))) (cSeq (cSet 4 (m2 gMod (mL (g1 FV.gInt) (mCons (m2 gAdd (m2 gMulI (m2 gMulI (mVar 4) (mVar 4)) (mVar 4)) (m2 gMulI (mC (.int 15485863)) (m2 gIdx (mVarO 0) (mC (.int 2))))) mNil)) (m2 gAdd (m2 gPow (mC (.int 10)) (mC (.int 43))) (mC (.int 57))))) (cSeq (cSet 4 (m2 gMod (mL (g1 FV.gInt) (mCons (m2 gAdd (m2 gMulI (mVar 4) (mVar 4)) (mC (.int 32452843))) mNil)) (m2 gAdd (m2 gPow (mC (.int 10)) (mC (.int 38))) (mC (.int 133))))) (cSeq (cRet (m2 gMod (mL (g1 FV.gInt) (mCons (m2 gFdiv (mVar 4) (m2 gPow (mC (.int 10)) (mC (.int 9)))) mNil)) (mVar 1))) cNx))))))
def g__law_draw : SM := gFn false [0] 3 s__law_draw
theorem b__law_draw {P : Program} {w : World} {K : PySem.W.Frag} {mg : Str → Option Value} {base : Heap} {f : Addr} (G : Gm mg) (Fa : Addr → Prop) (cd : Value) (A : Around) (outer : List Env) (s : Shared) (H : Hp)
    (hr : Room 0 (A.deeper (envOfC ("_law_draw" : Str) (defScope st__law_draw) s.heap.objs.size f cd))) (hgd : A.guards = some []) : SSs ⟨[0] ++ [], [0] ++ [], Fa, []⟩ (cxG P w K mg base [("feed" : Str), ("many" : Str), ("rest" : Str), ("got" : Str), ("stir" : Str)] ("_law_draw" : Str) (defScope st__law_draw) f cd A outer s H) (defBody st__law_draw) [0, 1, 2, 3, 4] [1, 2, 3, 4] [] false s__law_draw := by
  have hu100 : (A.deeper (envOfC ("_law_draw" : Str) (defScope st__law_draw) s.heap.objs.size f cd)).units + 100 < cLine := by have := hr.un; omega
  have hu64 : (A.deeper (envOfC ("_law_draw" : Str) (defScope st__law_draw) s.heap.objs.size f cd)).units + 64 < cLine := by omega
  have hu1 : (A.deeper (envOfC ("_law_draw" : Str) (defScope st__law_draw) s.heap.objs.size f cd)).units + 1 < cLine := by omega
  have nd : ([("feed" : Str), ("many" : Str), ("rest" : Str), ("got" : Str), ("stir" : Str)] : List Str).Nodup := by decide +kernel
  exact sss_wide (ss_cons (ss_if (tGt_ (xIdxS (by intro o i; rfl) (se_varO (i := 0) rfl (vis_of rfl) (by decide) (by decide) (ym rfl) (ym rfl)) gInt_) gInt_)
  (ss_cons (ss_set nd (i := 2) rfl (loc_of rfl) (.inl rfl) (nm rfl) (xDiv (xIdxS (by intro o i; rfl) (se_varO (i := 0) rfl (vis_of rfl) (by decide) (by decide) (ym rfl) (ym rfl)) gInt_) (se_var (i := 1) rfl (vis_of rfl) (by decide) (by decide) (nm rfl))) rfl)
  (ss_cons (ss_set nd (i := 3) rfl (loc_of rfl) (.inl rfl) (nm rfl) (xSub (xIdxS (by intro o i; rfl) (se_varO (i := 0) rfl (vis_of rfl) (by decide) (by decide) (ym rfl) (ym rfl)) gInt_) (xMul (se_var (i := 2) rfl (vis_of rfl) (by decide) (by decide) (nm rfl)) (se_var (i := 1) rfl (vis_of rfl) (by decide) (by decide) (nm rfl)))) rfl)
  (ss_cons (ss_setIx (i := 0) rfl (vis_of rfl) (by decide) (by decide) (ym rfl) (ym rfl) (se_var (i := 2) rfl (vis_of rfl) (by decide) (by decide) (nm rfl)) gInt_ (by intro _; rfl) rfl rfl rfl)
  (ss_cons (ss_ret (se_var (i := 3) rfl (vis_of rfl) (by decide) (by decide) (nm rfl)))
  ss_nil))))
  ss_nil)
  (ss_cons (ss_setIx (i := 0) rfl (vis_of rfl) (by decide) (by decide) (ym rfl) (ym rfl) (xAdd (xIdxS (by intro o i; rfl) (se_varO (i := 0) rfl (vis_of rfl) (by decide) (by decide) (ym rfl) (ym rfl)) gInt_) gInt_) gInt_ (by intro _; rfl) rfl rfl rfl)
  (ss_cons (ss_set nd (i := 4) rfl (loc_of rfl) (.inl rfl) (nm rfl) (xAdd (xIdxS (by intro o i; rfl) (se_varO (i := 0) rfl (vis_of rfl) (by decide) (by decide) (ym rfl) (ym rfl)) gInt_) (xMul gInt_ (xIdxS (by intro o i; rfl) (se_varO (i := 0) rfl (vis_of rfl) (by decide) (by decide) (ym rfl) (ym rfl)) gInt_))) rfl)
  (ss_cons (ss_set nd (i := 4) rfl (loc_of rfl) (.inl rfl) (nm rfl) (xMod (bInt (by rfl) (G.b_int) (xAdd (xMul (xMul (se_var (i := 4) rfl (vis_of rfl) (by decide) (by decide) (nm rfl)) (se_var (i := 4) rfl (vis_of rfl) (by decide) (by decide) (nm rfl))) (se_var (i := 4) rfl (vis_of rfl) (by decide) (by decide) (nm rfl))) (xMul gInt_ (xIdxS (by intro o i; rfl) (se_varO (i := 0) rfl (vis_of rfl) (by decide) (by decide) (ym rfl) (ym rfl)) gInt_)))) (xAdd (xPow gInt_ gInt_) gInt_)) rfl)
  (ss_cons (ss_set nd (i := 4) rfl (loc_of rfl) (.inl rfl) (nm rfl) (xMod (bInt (by rfl) (G.b_int) (xAdd (xMul (se_var (i := 4) rfl (vis_of rfl) (by decide) (by decide) (nm rfl)) (se_var (i := 4) rfl (vis_of rfl) (by decide) (by decide) (nm rfl))) gInt_)) (xAdd (xPow gInt_ gInt_) gInt_)) rfl)
  (ss_cons (ss_ret (xMod (bInt (by rfl) (G.b_int) (xDiv (se_var (i := 4) rfl (vis_of rfl) (by decide) (by decide) (nm rfl)) (xPow gInt_ gInt_))) (se_var (i := 1) rfl (vis_of rfl) (by decide) (by decide) (nm rfl))))
  ss_nil)))))) (am rfl) (am rfl)
theorem k__law_draw {P : Program} {w : World} {K : PySem.W.Frag} {mg : Str → Option Value} {base : Heap} {f : Addr} {fd : FuncData} (G : Gm mg) (m : mg ("_law_draw" : Str) = some (.ref f)) (F : FunD K ("_law_draw" : Str) ("_law_draw" : Str) (defArgs st__law_draw) (defBody st__law_draw) (defScope st__law_draw) [] [] f fd) : FnG P w K mg base 1 f fd [("feed" : Str), ("many" : Str)] (spF 2 [0] false g__law_draw) :=
  fn_rule (N := [("feed" : Str), ("many" : Str), ("rest" : Str), ("got" : Str), ("stir" : Str)]) (ps := [("feed" : Str), ("many" : Str)]) F ⟨rfl, rfl, rfl, by decide +kernel, rfl, by decide +kernel, by decide +kernel⟩ (b__law_draw G) (by decide) (by decide) (by decide)
theorem n__law_draw {K : PySem.W.Frag} {f : Addr} {fd : FuncData} (F : FunD K ("_law_draw" : Str) ("_law_draw" : Str) (defArgs st__law_draw) (defBody st__law_draw) (defScope st__law_draw) [] [] f fd) : Binds K fd [("feed" : Str), ("many" : Str)] [] :=
  F.bindsN (fun _ _ _ _ _ _ us hl => match us, hl with | [_, _], _ => rfl)
theorem o__law_draw {P : Program} {w : World} {K : PySem.W.Frag} {mg : Str → Option Value} {base : Heap} {f : Addr} {fd : FuncData} (G : Gm mg) (m : mg ("_law_draw" : Str) = some (.ref f)) (F : FunD K ("_law_draw" : Str) ("_law_draw" : Str) (defArgs st__law_draw) (defBody st__law_draw) (defScope st__law_draw) [] [] f fd) : Ct P w K mg base 1 ("_law_draw" : Str) st__law_draw [("feed" : Str), ("many" : Str)] (spF 2 [0] false g__law_draw) :=
  ⟨f, fd, m, F, n__law_draw F, k__law_draw G m F⟩
/-! ### _law_one -/
abbrev st__law_one : Stmt := top 30
def s__law_one : CM := (cSeq (cRet (m2 gIdx (mVar 1) (mCall1 0 g__law_draw (mCons (mL (g1 gLen) (mCons (mVar 1) mNil)) mNil)))) cNx)
def g__law_one : SM := gFn false [0] 0 s__law_one
theorem b__law_one {P : Program} {w : World} {K : PySem.W.Frag} {mg : Str → Option Value} {base : Heap} {f : Addr} (G : Gm mg) (c__law_draw : Ct P w K mg base 1 ("_law_draw" : Str) st__law_draw [("feed" : Str), ("many" : Str)] (spF 2 [0] false g__law_draw)) (Fa : Addr → Prop) (cd : Value) (A : Around) (outer : List Env) (s : Shared) (H : Hp)
    (hr : Room 1 (A.deeper (envOfC ("_law_one" : Str) (defScope st__law_one) s.heap.objs.size f cd))) (hgd : A.guards = some []) : SSs ⟨[0] ++ [], [0] ++ [], Fa, []⟩ (cxG P w K mg base [("feed" : Str), ("things" : Str)] ("_law_one" : Str) (defScope st__law_one) f cd A outer s H) (defBody st__law_one) [0, 1] [1] [] false s__law_one := by
  obtain ⟨f__law_draw, fd__law_draw, m__law_draw, F__law_draw, B__law_draw, G__law_draw⟩ := c__law_draw.ex
  have hu100 : (A.deeper (envOfC ("_law_one" : Str) (defScope st__law_one) s.heap.objs.size f cd)).units + 100 < cLine := by have := hr.un; omega
  have hu64 : (A.deeper (envOfC ("_law_one" : Str) (defScope st__law_one) s.heap.objs.size f cd)).units + 64 < cLine := by omega
  have hu1 : (A.deeper (envOfC ("_law_one" : Str) (defScope st__law_one) s.heap.objs.size f cd)).units + 1 < cLine := by omega
  have nd : ([("feed" : Str), ("things" : Str)] : List Str).Nodup := by decide +kernel
  exact sss_wide (ss_cons (ss_ret (xIdx (by intro o i; rfl) (se_var (i := 1) rfl (vis_of rfl) (by decide) (by decide) (nm rfl)) (se_call1 G__law_draw (hr.mono (by omega)) hgd (by rfl) m__law_draw F__law_draw.kp B__law_draw (i := 0) rfl (vis_of rfl) (by decide) (by decide) (ym rfl) (ym rfl) (by rfl) (by rfl) (xCons (bLen (by rfl) (G.b_len) (se_var (i := 1) rfl (vis_of rfl) (by decide) (by decide) (nm rfl))) sa_nil) (by decide) (by rfl) (by rfl))))
  ss_nil) (am rfl) (am rfl)
theorem k__law_one {P : Program} {w : World} {K : PySem.W.Frag} {mg : Str → Option Value} {base : Heap} {f : Addr} {fd : FuncData} (G : Gm mg) (c__law_draw : Ct P w K mg base 1 ("_law_draw" : Str) st__law_draw [("feed" : Str), ("many" : Str)] (spF 2 [0] false g__law_draw)) (m : mg ("_law_one" : Str) = some (.ref f)) (F : FunD K ("_law_one" : Str) ("_law_one" : Str) (defArgs st__law_one) (defBody st__law_one) (defScope st__law_one) [] [] f fd) : FnG P w K mg base 2 f fd [("feed" : Str), ("things" : Str)] (spF 2 [0] false g__law_one) :=
  fn_rule (N := [("feed" : Str), ("things" : Str)]) (ps := [("feed" : Str), ("things" : Str)]) F ⟨rfl, rfl, rfl, by decide +kernel, rfl, by decide +kernel, by decide +kernel⟩ (b__law_one G c__law_draw) (by decide) (by decide) (by decide)
theorem n__law_one {K : PySem.W.Frag} {f : Addr} {fd : FuncData} (F : FunD K ("_law_one" : Str) ("_law_one" : Str) (defArgs st__law_one) (defBody st__law_one) (defScope st__law_one) [] [] f fd) : Binds K fd [("feed" : Str), ("things" : Str)] [] :=
  F.bindsN (fun _ _ _ _ _ _ us hl => match us, hl with | [_, _], _ => rfl)
theorem o__law_one {P : Program} {w : World} {K : PySem.W.Frag} {mg : Str → Option Value} {base : Heap} {f : Addr} {fd : FuncData} (G : Gm mg) (c__law_draw : Ct P w K mg base 1 ("_law_draw" : Str) st__law_draw [("feed" : Str), ("many" : Str)] (spF 2 [0] false g__law_draw)) (m : mg ("_law_one" : Str) = some (.ref f)) (F : FunD K ("_law_one" : Str) ("_law_one" : Str) (defArgs st__law_one) (defBody st__law_one) (defScope st__law_one) [] [] f fd) : Ct P w K mg base 2 ("_law_one" : Str) st__law_one [("feed" : Str), ("things" : Str)] (spF 2 [0] false g__law_one) :=
  ⟨f, fd, m, F, n__law_one F, k__law_one G c__law_draw m F⟩
/-! ### _law_mixed -/
abbrev st__law_mixed : Stmt := top 31
def s__law_mixed : CM := (cSeq (cPar [2, 3] (mCons (mL (g1 gList) (mCons (mVar 1) mNil)) (mCons (mL gLst mNil) mNil))) (cSeq (cForS (mRg gR1 (mCons (mL (g1 gLen) (mCons (mVar 1) mNil)) mNil)) (bName 4) (cSeq (cDrop (mApp 3 (mPopAt 2 (mCall1 0 g__law_draw (mCons (mL (g1 gLen) (mCons (mVarO 2) mNil)) mNil))))) cNx)) (cSeq (cRetO 3) cNx)))
def g__law_mixed : SM := gFn true [0] 3 s__law_mixed
theorem b__law_mixed {P : Program} {w : World} {K : PySem.W.Frag} {mg : Str → Option Value} {base : Heap} {f : Addr} (G : Gm mg) (c__law_draw : Ct P w K mg base 1 ("_law_draw" : Str) st__law_draw [("feed" : Str), ("many" : Str)] (spF 2 [0] false g__law_draw)) (Fa : Addr → Prop) (cd : Value) (A : Around) (outer : List Env) (s : Shared) (H : Hp)
    (hr : Room 1 (A.deeper (envOfC ("_law_mixed" : Str) (defScope st__law_mixed) s.heap.objs.size f cd))) (hgd : A.guards = some []) : SSs ⟨[0] ++ [2, 3], [0] ++ [2, 3], Fa, [2, 3]⟩ (cxG P w K mg base [("feed" : Str), ("things" : Str), ("pool" : Str), ("got" : Str), ("turn" : Str)] ("_law_mixed" : Str) (defScope st__law_mixed) f cd A outer s H) (defBody st__law_mixed) [0, 1, 2, 3, 4] [1, 2, 3, 4] [2, 3] true s__law_mixed := by
  obtain ⟨f__law_draw, fd__law_draw, m__law_draw, F__law_draw, B__law_draw, G__law_draw⟩ := c__law_draw.ex
  have hu100 : (A.deeper (envOfC ("_law_mixed" : Str) (defScope st__law_mixed) s.heap.objs.size f cd)).units + 100 < cLine := by have := hr.un; omega
  have hu64 : (A.deeper (envOfC ("_law_mixed" : Str) (defScope st__law_mixed) s.heap.objs.size f cd)).units + 64 < cLine := by omega
  have hu1 : (A.deeper (envOfC ("_law_mixed" : Str) (defScope st__law_mixed) s.heap.objs.size f cd)).units + 1 < cLine := by omega
  have nd : ([("feed" : Str), ("things" : Str), ("pool" : Str), ("got" : Str), ("turn" : Str)] : List Str).Nodup := by decide +kernel
  exact sss_wide (ss_cons (ss_par2 (i := 2) (j := 3) rfl nd rfl rfl (by decide) rfl rfl (san_nw (nList (by decide) (by rfl) (G.b_list) (se_var (i := 1) rfl (vis_of rfl) (by decide) (by decide) (nm rfl))) (fun _ => (san_nw (sn_lst sa_nil rfl) (fun _ => san_nil) rfl)) rfl) (by simp [kOk]) rfl rfl)
  (ss_cons (ss_for PassesOwn.never rfl (si_range1 (lk := []) (by rfl) (G.b_range) rfl (xCons (bLen (by rfl) (G.b_len) (se_var (i := 1) rfl (vis_of rfl) (by decide) (by decide) (nm rfl))) sa_nil)) (sg_name nd (i := 4) rfl (loc_of rfl) (by first | exact .inl rfl | exact .inr rfl) (nm rfl))
  (ss_cons (ss_expr (se_append (i := 3) rfl (vis_of rfl) (by decide) (by decide) (ym rfl) (ym rfl) (se_popAt (i := 2) rfl (vis_of rfl) (by decide) (by decide) (ym rfl) (ym rfl) (se_call1 G__law_draw (hr.mono (by omega)) hgd (by rfl) m__law_draw F__law_draw.kp B__law_draw (i := 0) rfl (vis_of rfl) (by decide) (by decide) (ym rfl) (ym rfl) (by rfl) (by rfl) (xCons (bLen (by rfl) (G.b_len) (se_varO (i := 2) rfl (vis_of rfl) (by decide) (by decide) (ym rfl) (ym rfl))) sa_nil) (by decide) (by rfl) (by rfl)) rfl rfl rfl rfl rfl) rfl rfl rfl rfl rfl) rfl)
  ss_nil) (an rfl) (by intro _; rfl))
  (ss_cons (ss_retOwn (i := 3) rfl (vis_of rfl) (by decide) (by decide) (ym rfl) (ym rfl) (ym rfl))
  ss_nil))) (am rfl) (am rfl)
theorem k__law_mixed {P : Program} {w : World} {K : PySem.W.Frag} {mg : Str → Option Value} {base : Heap} {f : Addr} {fd : FuncData} (G : Gm mg) (c__law_draw : Ct P w K mg base 1 ("_law_draw" : Str) st__law_draw [("feed" : Str), ("many" : Str)] (spF 2 [0] false g__law_draw)) (m : mg ("_law_mixed" : Str) = some (.ref f)) (F : FunD K ("_law_mixed" : Str) ("_law_mixed" : Str) (defArgs st__law_mixed) (defBody st__law_mixed) (defScope st__law_mixed) [] [] f fd) : FnG P w K mg base 2 f fd [("feed" : Str), ("things" : Str)] (spF 2 [0] true g__law_mixed) :=
  fn_rule (N := [("feed" : Str), ("things" : Str), ("pool" : Str), ("got" : Str), ("turn" : Str)]) (ps := [("feed" : Str), ("things" : Str)]) F ⟨rfl, rfl, rfl, by decide +kernel, rfl, by decide +kernel, by decide +kernel⟩ (b__law_mixed G c__law_draw) (by decide) (by decide) (by decide)
theorem n__law_mixed {K : PySem.W.Frag} {f : Addr} {fd : FuncData} (F : FunD K ("_law_mixed" : Str) ("_law_mixed" : Str) (defArgs st__law_mixed) (defBody st__law_mixed) (defScope st__law_mixed) [] [] f fd) : Binds K fd [("feed" : Str), ("things" : Str)] [] :=
  F.bindsN (fun _ _ _ _ _ _ us hl => match us, hl with | [_, _], _ => rfl)
theorem o__law_mixed {P : Program} {w : World} {K : PySem.W.Frag} {mg : Str → Option Value} {base : Heap} {f : Addr} {fd : FuncData} (G : Gm mg) (c__law_draw : Ct P w K mg base 1 ("_law_draw" : Str) st__law_draw [("feed" : Str), ("many" : Str)] (spF 2 [0] false g__law_draw)) (m : mg ("_law_mixed" : Str) = some (.ref f)) (F : FunD K ("_law_mixed" : Str) ("_law_mixed" : Str) (defArgs st__law_mixed) (defBody st__law_mixed) (defScope st__law_mixed) [] [] f fd) : Ct P w K mg base 2 ("_law_mixed" : Str) st__law_mixed [("feed" : Str), ("things" : Str)] (spF 2 [0] true g__law_mixed) :=
  ⟨f, fd, m, F, n__law_mixed F, k__law_mixed G c__law_draw m F⟩
/-! ### _law_shape -/
abbrev st__law_shape : Stmt := top 32
def s__law_shape : CM := (cSeq (cPar [2, 3, 4] (mCons (mCall1 0 g__law_one (mCons (mL gLst (mCons (mC (.int 0)) (mCons (mC (.int 1)) (mCons (mC (.int 2)) (mCons (mC (.int 3)) (mCons (mC (.int 4)) (mCons (mC (.int 5)) (mCons (mC (.int 6)) (mCons (mC (.int 8)) (mCons (mC (.int 10)) (mCons (mC (.int 12)) (mCons (mVar 1) (mCons (mCall1 0 g__law_draw (mCons (m2 gAdd (mVar 1) (mC (.int 1))) mNil)) mNil))))))))))))) mNil)) (mCons (mVar 1) (mCons (mL gLst mNil) mNil)))) (cSeq (cSet 2 (mL (g2 gMin2) (mCons (mVar 2) (mCons (mVar 1) mNil)))) (cSeq (cForS (mRg gR1 (mCons (mC (.int 9)) mNil)) (bName 5) (cSeq (cIf (m2 gEq (mVar 2) (mC (.int 0))) (cSeq cBk cNx) cNx) (cSeq (cSet 3 (m2 gAdd (mC (.int 1)) (mCall1 0 g__law_draw (mCons (mL gMin3 (mCons (mVar 2) (mCons (mVar 3) (mCons (mCall1 0 g__law_one (mCons (mL gLst (mCons (mC (.int 2)) (mCons (mC (.int 4)) (mCons (mC (.int 30)) mNil)))) mNil)) mNil)))) mNil)))) (cSeq (cDrop (mApp 4 (mVar 3))) (cSeq (cSet 2 (m2 gSub (mVar 2) (mVar 3))) cNx))))) (cSeq (cRet (mL (g1 gTuple) (mCons (mVarO 4) mNil))) cNx))))
def g__law_shape : SM := gFn false [0] 4 s__law_shape
theorem b__law_shape {P : Program} {w : World} {K : PySem.W.Frag} {mg : Str → Option Value} {base : Heap} {f : Addr} (G : Gm mg) (c__law_draw : Ct P w K mg base 1 ("_law_draw" : Str) st__law_draw [("feed" : Str), ("many" : Str)] (spF 2 [0] false g__law_draw)) (c__law_one : Ct P w K mg base 2 ("_law_one" : Str) st__law_one [("feed" : Str), ("things" : Str)] (spF 2 [0] false g__law_one)) (Fa : Addr → Prop) (cd : Value) (A : Around) (outer : List Env) (s : Shared) (H : Hp)
    (hr : Room 2 (A.deeper (envOfC ("_law_shape" : Str) (defScope st__law_shape) s.heap.objs.size f cd))) (hgd : A.guards = some []) : SSs ⟨[0] ++ [4], [0] ++ [4], Fa, [4]⟩ (cxG P w K mg base [("feed" : Str), ("most" : Str), ("left" : Str), ("length" : Str), ("found" : Str), ("turn" : Str)] ("_law_shape" : Str) (defScope st__law_shape) f cd A outer s H) (defBody st__law_shape) [0, 1, 2, 3, 4, 5] [1, 2, 3, 4, 5] [4] false s__law_shape := by
  obtain ⟨f__law_draw, fd__law_draw, m__law_draw, F__law_draw, B__law_draw, G__law_draw⟩ := c__law_draw.ex
  obtain ⟨f__law_one, fd__law_one, m__law_one, F__law_one, B__law_one, G__law_one⟩ := c__law_one.ex
  have hu100 : (A.deeper (envOfC ("_law_shape" : Str) (defScope st__law_shape) s.heap.objs.size f cd)).units + 100 < cLine := by have := hr.un; omega
  have hu64 : (A.deeper (envOfC ("_law_shape" : Str) (defScope st__law_shape) s.heap.objs.size f cd)).units + 64 < cLine := by omega
  have hu1 : (A.deeper (envOfC ("_law_shape" : Str) (defScope st__law_shape) s.heap.objs.size f cd)).units + 1 < cLine := by omega
  have nd : ([("feed" : Str), ("most" : Str), ("left" : Str), ("length" : Str), ("found" : Str), ("turn" : Str)] : List Str).Nodup := by decide +kernel
  exact sss_wide (ss_cons (ss_par3 (i := 2) (j := 3) (l := 4) rfl nd rfl rfl rfl (by decide) (by decide) (by decide) rfl rfl rfl (san_fz (se_call1 G__law_one (hr.mono (by omega)) hgd (by rfl) m__law_one F__law_one.kp B__law_one (i := 0) rfl (vis_of rfl) (by decide) (by decide) (ym rfl) (ym rfl) (by rfl) (by rfl) (xCons (xLst (xCons gInt_ (xCons gInt_ (xCons gInt_ (xCons gInt_ (xCons gInt_ (xCons gInt_ (xCons gInt_ (xCons gInt_ (xCons gInt_ (xCons gInt_ (xCons (se_var (i := 1) rfl (vis_of rfl) (by decide) (by decide) (nm rfl)) (xCons (se_call1 G__law_draw (hr.mono (by omega)) hgd (by rfl) m__law_draw F__law_draw.kp B__law_draw (i := 0) rfl (vis_of rfl) (by decide) (by decide) (ym rfl) (ym rfl) (by rfl) (by rfl) (xCons (xAdd (se_var (i := 1) rfl (vis_of rfl) (by decide) (by decide) (nm rfl)) gInt_) sa_nil) (by decide) (by rfl) (by rfl)) sa_nil)))))))))))) rfl) sa_nil) (by decide) (by rfl) (by rfl)) (san_fz (se_var (i := 1) rfl (vis_of rfl) (by decide) (by decide) (nm rfl)) (san_nw (sn_lst sa_nil rfl) (fun _ => san_nil) rfl) rfl) rfl) (by simp [kOk]) rfl rfl)
  (ss_cons (ss_set nd (i := 2) rfl (loc_of rfl) (.inl rfl) (nm rfl) (bMin2 (by rfl) (by rfl) (G.b_min) (xCons (se_var (i := 2) rfl (vis_of rfl) (by decide) (by decide) (nm rfl)) (xCons (se_var (i := 1) rfl (vis_of rfl) (by decide) (by decide) (nm rfl)) sa_nil))) rfl)
  (ss_cons (ss_for PassesOwn.never rfl (si_range1 (lk := []) (by rfl) (G.b_range) rfl (xCons gInt_ sa_nil)) (sg_name nd (i := 5) rfl (loc_of rfl) (by first | exact .inl rfl | exact .inr rfl) (nm rfl))
  (ss_cons (ss_if (tEq_ hu64 (.inl rfl) (se_var (i := 2) rfl (vis_of rfl) (by decide) (by decide) (nm rfl)) gInt_)
  (ss_cons ss_break
  ss_nil)
  ss_nil)
  (ss_cons (ss_set nd (i := 3) rfl (loc_of rfl) (.inl rfl) (nm rfl) (xAdd gInt_ (se_call1 G__law_draw (hr.mono (by omega)) hgd (by rfl) m__law_draw F__law_draw.kp B__law_draw (i := 0) rfl (vis_of rfl) (by decide) (by decide) (ym rfl) (ym rfl) (by rfl) (by rfl) (xCons (bMin3 (by rfl) (by rfl) (G.b_min) (xCons (se_var (i := 2) rfl (vis_of rfl) (by decide) (by decide) (nm rfl)) (xCons (se_var (i := 3) rfl (vis_of rfl) (by decide) (by decide) (nm rfl)) (xCons (se_call1 G__law_one (hr.mono (by omega)) hgd (by rfl) m__law_one F__law_one.kp B__law_one (i := 0) rfl (vis_of rfl) (by decide) (by decide) (ym rfl) (ym rfl) (by rfl) (by rfl) (xCons (xLst (xCons gInt_ (xCons gInt_ (xCons gInt_ sa_nil))) rfl) sa_nil) (by decide) (by rfl) (by rfl)) sa_nil)))) sa_nil) (by decide) (by rfl) (by rfl))) rfl)
  (ss_cons (ss_expr (se_append (i := 4) rfl (vis_of rfl) (by decide) (by decide) (ym rfl) (ym rfl) (se_var (i := 3) rfl (vis_of rfl) (by decide) (by decide) (nm rfl)) rfl rfl rfl rfl rfl) rfl)
  (ss_cons (ss_set nd (i := 2) rfl (loc_of rfl) (.inl rfl) (nm rfl) (xSub (se_var (i := 2) rfl (vis_of rfl) (by decide) (by decide) (nm rfl)) (se_var (i := 3) rfl (vis_of rfl) (by decide) (by decide) (nm rfl))) rfl)
  ss_nil)))) (an rfl) (by intro _; rfl))
  (ss_cons (ss_ret (bTuple (by decide) (by rfl) (G.b_tuple) (se_varO (i := 4) rfl (vis_of rfl) (by decide) (by decide) (ym rfl) (ym rfl))))
  ss_nil)))) (am rfl) (am rfl)
theorem k__law_shape {P : Program} {w : World} {K : PySem.W.Frag} {mg : Str → Option Value} {base : Heap} {f : Addr} {fd : FuncData} (G : Gm mg) (c__law_draw : Ct P w K mg base 1 ("_law_draw" : Str) st__law_draw [("feed" : Str), ("many" : Str)] (spF 2 [0] false g__law_draw)) (c__law_one : Ct P w K mg base 2 ("_law_one" : Str) st__law_one [("feed" : Str), ("things" : Str)] (spF 2 [0] false g__law_one)) (m : mg ("_law_shape" : Str) = some (.ref f)) (F : FunD K ("_law_shape" : Str) ("_law_shape" : Str) (defArgs st__law_shape) (defBody st__law_shape) (defScope st__law_shape) [] [] f fd) : FnG P w K mg base 3 f fd [("feed" : Str), ("most" : Str)] (spF 2 [0] false g__law_shape) :=
  fn_rule (N := [("feed" : Str), ("most" : Str), ("left" : Str), ("length" : Str), ("found" : Str), ("turn" : Str)]) (ps := [("feed" : Str), ("most" : Str)]) F ⟨rfl, rfl, rfl, by decide +kernel, rfl, by decide +kernel, by decide +kernel⟩ (b__law_shape G c__law_draw c__law_one) (by decide) (by decide) (by decide)
theorem n__law_shape {K : PySem.W.Frag} {f : Addr} {fd : FuncData} (F : FunD K ("_law_shape" : Str) ("_law_shape" : Str) (defArgs st__law_shape) (defBody st__law_shape) (defScope st__law_shape) [] [] f fd) : Binds K fd [("feed" : Str), ("most" : Str)] [] :=
  F.bindsN (fun _ _ _ _ _ _ us hl => match us, hl with | [_, _], _ => rfl)
theorem o__law_shape {P : Program} {w : World} {K : PySem.W.Frag} {mg : Str → Option Value} {base : Heap} {f : Addr} {fd : FuncData} (G : Gm mg) (c__law_draw : Ct P w K mg base 1 ("_law_draw" : Str) st__law_draw [("feed" : Str), ("many" : Str)] (spF 2 [0] false g__law_draw)) (c__law_one : Ct P w K mg base 2 ("_law_one" : Str) st__law_one [("feed" : Str), ("things" : Str)] (spF 2 [0] false g__law_one)) (m : mg ("_law_shape" : Str) = some (.ref f)) (F : FunD K ("_law_shape" : Str) ("_law_shape" : Str) (defArgs st__law_shape) (defBody st__law_shape) (defScope st__law_shape) [] [] f fd) : Ct P w K mg base 3 ("_law_shape" : Str) st__law_shape [("feed" : Str), ("most" : Str)] (spF 2 [0] false g__law_shape) :=
  ⟨f, fd, m, F, n__law_shape F, k__law_shape G c__law_draw c__law_one m F⟩
/-! ### _law_falls -/
abbrev st__law_falls : Stmt := top 33
def s__law_falls : CM := (cSeq (cRet (m2 gEq (mLc [1, 2] [] (bTup 2 (bCons (bName 1) (bCons (bName 2) bNil))) (m2 gLt (mVar 1) (mVar 2)) (mC (.int 1)) (mZip (mIt (mVar 0)) (mIt (mCut (mVar 0) (oSome (mC (.int 1))) oNone)))) (mL gLst mNil))) cNx)
def g__law_falls : SM := gFn false [] 2 s__law_falls
theorem b__law_falls {P : Program} {w : World} {K : PySem.W.Frag} {mg : Str → Option Value} {base : Heap} {f : Addr} (G : Gm mg) (Fa : Addr → Prop) (cd : Value) (A : Around) (outer : List Env) (s : Shared) (H : Hp)
    (hr : Room 0 (A.deeper (envOfC ("_law_falls" : Str) (defScope st__law_falls) s.heap.objs.size f cd))) (hgd : A.guards = some []) : SSs ⟨[] ++ [], [] ++ [], Fa, []⟩ (cxG P w K mg base [("lengths" : Str), ("one" : Str), ("other" : Str)] ("_law_falls" : Str) (defScope st__law_falls) f cd A outer s H) (defBody st__law_falls) [0, 1, 2] [0, 1, 2] [] false s__law_falls := by
  have hu100 : (A.deeper (envOfC ("_law_falls" : Str) (defScope st__law_falls) s.heap.objs.size f cd)).units + 100 < cLine := by have := hr.un; omega
  have hu64 : (A.deeper (envOfC ("_law_falls" : Str) (defScope st__law_falls) s.heap.objs.size f cd)).units + 64 < cLine := by omega
  have hu1 : (A.deeper (envOfC ("_law_falls" : Str) (defScope st__law_falls) s.heap.objs.size f cd)).units + 1 < cLine := by omega
  have nd : ([("lengths" : Str), ("one" : Str), ("other" : Str)] : List Str).Nodup := by decide +kernel
  exact sss_wide (ss_cons (ss_ret (xEq hu64 (.inl rfl) (se_new (sn_lc (own := [(("one" : Str), 1), (("other" : Str), 2)]) (wb := []) (ws := [1, 2]) rfl nd (si_zip (by rfl) (G.b_zip) rfl rfl rfl (an rfl) (sq_of (se_var (i := 0) rfl (vis_of rfl) (by decide) (by decide) (nm rfl))) (sq_of (xCut (se_var (i := 0) rfl (vis_of rfl) (by decide) (by decide) (nm rfl)) (so_some gInt_) so_none))) (blkOk_by (by kernel_rfl)) (fun _ _ _ _ _ _ => (sg_tup rfl (sgs_cons (sg_name nd (i := 1) rfl (loc_of rfl) (by first | exact .inl rfl | exact .inr rfl) (nm rfl)) (sgs_cons (sg_name nd (i := 2) rfl (loc_of rfl) (by first | exact .inl rfl | exact .inr rfl) (nm rfl)) sgs_nil rfl) rfl) rfl rfl)) (fun _ _ _ _ _ _ => (sts_one (st_wide (w1 := []) (tLt_ (se_var (i := 1) rfl (vis_of rfl) (by decide) (by decide) (nm rfl)) (se_var (i := 2) rfl (vis_of rfl) (by decide) (by decide) (nm rfl))) (am rfl)))) (fun _ _ _ _ _ _ => (se_wide (w1 := []) gInt_ (am rfl))) (an rfl) (am rfl) (am rfl) (an rfl) (by intro _; rfl))) (xLst sa_nil rfl)))
  ss_nil) (am rfl) (am rfl)
theorem k__law_falls {P : Program} {w : World} {K : PySem.W.Frag} {mg : Str → Option Value} {base : Heap} {f : Addr} {fd : FuncData} (G : Gm mg) (m : mg ("_law_falls" : Str) = some (.ref f)) (F : FunD K ("_law_falls" : Str) ("_law_falls" : Str) (defArgs st__law_falls) (defBody st__law_falls) (defScope st__law_falls) [] [] f fd) : FnG P w K mg base 1 f fd [("lengths" : Str)] (spF 1 [] false g__law_falls) :=
  fn_rule (N := [("lengths" : Str), ("one" : Str), ("other" : Str)]) (ps := [("lengths" : Str)]) F ⟨rfl, rfl, rfl, by decide +kernel, rfl, by decide +kernel, by decide +kernel⟩ (b__law_falls G) (by decide) (by decide) (by decide)
theorem n__law_falls {K : PySem.W.Frag} {f : Addr} {fd : FuncData} (F : FunD K ("_law_falls" : Str) ("_law_falls" : Str) (defArgs st__law_falls) (defBody st__law_falls) (defScope st__law_falls) [] [] f fd) : Binds K fd [("lengths" : Str)] [] :=
  F.bindsN (fun _ _ _ _ _ _ us hl => match us, hl with | [_], _ => rfl)
theorem o__law_falls {P : Program} {w : World} {K : PySem.W.Frag} {mg : Str → Option Value} {base : Heap} {f : Addr} {fd : FuncData} (G : Gm mg) (m : mg ("_law_falls" : Str) = some (.ref f)) (F : FunD K ("_law_falls" : Str) ("_law_falls" : Str) (defArgs st__law_falls) (defBody st__law_falls) (defScope st__law_falls) [] [] f fd) : Ct P w K mg base 1 ("_law_falls" : Str) st__law_falls [("lengths" : Str)] (spF 1 [] false g__law_falls) :=
  ⟨f, fd, m, F, n__law_falls F, k__law_falls G m F⟩
/-! ### _law_columns -/
abbrev st__law_columns : Stmt := top 34
def s__law_columns : CM := (cSeq (cSet 1 (mL gLst mNil)) (cSeq (cForS (mIt (mVar 0)) (bName 2) (cSeq (cSet 1 (m2 gAddL (mVarO 1) (m2 gRep (mL gLst (mCons (mC (.int 0)) mNil)) (m2 gSub (mVar 2) (mL (g1 gLen) (mCons (mVarO 1) mNil)))))) (cSeq (cForS (mRg gR1 (mCons (mVar 2) mNil)) (bName 3) (cSeq (cSetIx 1 (m2 gAdd (m2 gIdx (mVarO 1) (mVar 3)) (mC (.int 1))) (mVar 3)) cNx)) cNx))) (cSeq (cRet (mL (g1 gTuple) (mCons (mVarO 1) mNil))) cNx)))
def g__law_columns : SM := gFn false [] 3 s__law_columns
theorem b__law_columns {P : Program} {w : World} {K : PySem.W.Frag} {mg : Str → Option Value} {base : Heap} {f : Addr} (G : Gm mg) (Fa : Addr → Prop) (cd : Value) (A : Around) (outer : List Env) (s : Shared) (H : Hp)
    (hr : Room 0 (A.deeper (envOfC ("_law_columns" : Str) (defScope st__law_columns) s.heap.objs.size f cd))) (hgd : A.guards = some []) : SSs ⟨[] ++ [1], [] ++ [1], Fa, [1]⟩ (cxG P w K mg base [("shape" : Str), ("found" : Str), ("length" : Str), ("at" : Str)] ("_law_columns" : Str) (defScope st__law_columns) f cd A outer s H) (defBody st__law_columns) [0, 1, 2, 3] [0, 1, 2, 3] [1] false s__law_columns := by
  have hu100 : (A.deeper (envOfC ("_law_columns" : Str) (defScope st__law_columns) s.heap.objs.size f cd)).units + 100 < cLine := by have := hr.un; omega
  have hu64 : (A.deeper (envOfC ("_law_columns" : Str) (defScope st__law_columns) s.heap.objs.size f cd)).units + 64 < cLine := by omega
  have hu1 : (A.deeper (envOfC ("_law_columns" : Str) (defScope st__law_columns) s.heap.objs.size f cd)).units + 1 < cLine := by omega
  have nd : ([("shape" : Str), ("found" : Str), ("length" : Str), ("at" : Str)] : List Str).Nodup := by decide +kernel
  exact sss_wide (ss_cons (ss_setN nd (i := 1) rfl (loc_of rfl) (.inl rfl) (ym rfl) (sn_lst sa_nil rfl) rfl)
  (ss_cons (ss_for PassesOwn.never rfl (si_seq (sq_of (se_var (i := 0) rfl (vis_of rfl) (by decide) (by decide) (nm rfl)))) (sg_name nd (i := 2) rfl (loc_of rfl) (by first | exact .inl rfl | exact .inr rfl) (nm rfl))
  (ss_cons (ss_setN nd (i := 1) rfl (loc_of rfl) (.inl rfl) (ym rfl) (sn_add (ma := .sh) (mb := .fz) (by decide) (by decide) (.inr rfl) (se_varO (i := 1) rfl (vis_of rfl) (by decide) (by decide) (ym rfl) (ym rfl)) (se_new (sn_rep (sn_lst (xCons gInt_ sa_nil) rfl) (fun _ => (xSub (se_var (i := 2) rfl (vis_of rfl) (by decide) (by decide) (nm rfl)) (bLen (by rfl) (G.b_len) (se_varO (i := 1) rfl (vis_of rfl) (by decide) (by decide) (ym rfl) (ym rfl)))))))) rfl)
  (ss_cons (ss_for PassesOwn.never rfl (si_range1 (lk := []) (by rfl) (G.b_range) rfl (xCons (se_var (i := 2) rfl (vis_of rfl) (by decide) (by decide) (nm rfl)) sa_nil)) (sg_name nd (i := 3) rfl (loc_of rfl) (by first | exact .inl rfl | exact .inr rfl) (nm rfl))
  (ss_cons (ss_setIx (i := 1) rfl (vis_of rfl) (by decide) (by decide) (ym rfl) (ym rfl) (xAdd (xIdxS (by intro o i; rfl) (se_varO (i := 1) rfl (vis_of rfl) (by decide) (by decide) (ym rfl) (ym rfl)) (se_var (i := 3) rfl (vis_of rfl) (by decide) (by decide) (nm rfl))) gInt_) (se_var (i := 3) rfl (vis_of rfl) (by decide) (by decide) (nm rfl)) (by intro _; rfl) rfl rfl rfl)
  ss_nil) (an rfl) (by intro _; rfl))
  ss_nil)) (an rfl) (by intro _; rfl))
  (ss_cons (ss_ret (bTuple (by decide) (by rfl) (G.b_tuple) (se_varO (i := 1) rfl (vis_of rfl) (by decide) (by decide) (ym rfl) (ym rfl))))
  ss_nil))) (am rfl) (am rfl)
theorem k__law_columns {P : Program} {w : World} {K : PySem.W.Frag} {mg : Str → Option Value} {base : Heap} {f : Addr} {fd : FuncData} (G : Gm mg) (m : mg ("_law_columns" : Str) = some (.ref f)) (F : FunD K ("_law_columns" : Str) ("_law_columns" : Str) (defArgs st__law_columns) (defBody st__law_columns) (defScope st__law_columns) [] [] f fd) : FnG P w K mg base 1 f fd [("shape" : Str)] (spF 1 [] false g__law_columns) :=
  fn_rule (N := [("shape" : Str), ("found" : Str), ("length" : Str), ("at" : Str)]) (ps := [("shape" : Str)]) F ⟨rfl, rfl, rfl, by decide +kernel, rfl, by decide +kernel, by decide +kernel⟩ (b__law_columns G) (by decide) (by decide) (by decide)
theorem n__law_columns {K : PySem.W.Frag} {f : Addr} {fd : FuncData} (F : FunD K ("_law_columns" : Str) ("_law_columns" : Str) (defArgs st__law_columns) (defBody st__law_columns) (defScope st__law_columns) [] [] f fd) : Binds K fd [("shape" : Str)] [] :=
  F.bindsN (fun _ _ _ _ _ _ us hl => match us, hl with | [_], _ => rfl)
theorem o__law_columns {P : Program} {w : World} {K : PySem.W.Frag} {mg : Str → Option Value} {base : Heap} {f : Addr} {fd : FuncData} (G : Gm mg) (m : mg ("_law_columns" : Str) = some (.ref f)) (F : FunD K ("_law_columns" : Str) ("_law_columns" : Str) (defArgs st__law_columns) (defBody st__law_columns) (defScope st__law_columns) [] [] f fd) : Ct P w K mg base 1 ("_law_columns" : Str) st__law_columns [("shape" : Str)] (spF 1 [] false g__law_columns) :=
  ⟨f, fd, m, F, n__law_columns F, k__law_columns G m F⟩
/-! ### _law_without -/
abbrev st__law_without : Stmt := top 35
def s__law_without : CM := (cSeq (cRet (mL (g1 gTuple) (mCons (mLc [2] [] (bName 2) (m2 gGt (mVar 2) (mC (.int 0))) (mVar 2) (mIt (m2 gAdd (m2 gAdd (mCut (mVar 0) oNone (oSome (mVar 1))) (mL gTup (mCons (m2 gSub (m2 gIdx (mVar 0) (mVar 1)) (mC (.int 1))) mNil))) (mCut (mVar 0) (oSome (m2 gAdd (mVar 1) (mC (.int 1)))) oNone)))) mNil))) cNx)
def g__law_without : SM := gFn false [] 1 s__law_without
theorem b__law_without {P : Program} {w : World} {K : PySem.W.Frag} {mg : Str → Option Value} {base : Heap} {f : Addr} (G : Gm mg) (Fa : Addr → Prop) (cd : Value) (A : Around) (outer : List Env) (s : Shared) (H : Hp)
    (hr : Room 0 (A.deeper (envOfC ("_law_without" : Str) (defScope st__law_without) s.heap.objs.size f cd))) (hgd : A.guards = some []) : SSs ⟨[] ++ [], [] ++ [], Fa, []⟩ (cxG P w K mg base [("shape" : Str), ("row" : Str), ("length" : Str)] ("_law_without" : Str) (defScope st__law_without) f cd A outer s H) (defBody st__law_without) [0, 1, 2] [0, 1, 2] [] false s__law_without := by
  have hu100 : (A.deeper (envOfC ("_law_without" : Str) (defScope st__law_without) s.heap.objs.size f cd)).units + 100 < cLine := by have := hr.un; omega
  have hu64 : (A.deeper (envOfC ("_law_without" : Str) (defScope st__law_without) s.heap.objs.size f cd)).units + 64 < cLine := by omega
  have hu1 : (A.deeper (envOfC ("_law_without" : Str) (defScope st__law_without) s.heap.objs.size f cd)).units + 1 < cLine := by omega
  have nd : ([("shape" : Str), ("row" : Str), ("length" : Str)] : List Str).Nodup := by decide +kernel
  exact sss_wide (ss_cons (ss_ret (bTuple (by decide) (by rfl) (G.b_tuple) (se_new (sn_lc (own := [(("length" : Str), 2)]) (wb := []) (ws := [2]) rfl nd (si_seq (sq_of (xAdd (xAdd (xCut (se_var (i := 0) rfl (vis_of rfl) (by decide) (by decide) (nm rfl)) so_none (so_some (se_var (i := 1) rfl (vis_of rfl) (by decide) (by decide) (nm rfl)))) (xTup (xCons (xSub (xIdx (by intro o i; rfl) (se_var (i := 0) rfl (vis_of rfl) (by decide) (by decide) (nm rfl)) (se_var (i := 1) rfl (vis_of rfl) (by decide) (by decide) (nm rfl))) gInt_) sa_nil) rfl)) (xCut (se_var (i := 0) rfl (vis_of rfl) (by decide) (by decide) (nm rfl)) (so_some (xAdd (se_var (i := 1) rfl (vis_of rfl) (by decide) (by decide) (nm rfl)) gInt_)) so_none)))) (blkOk_by (by kernel_rfl)) (fun _ _ _ _ _ _ => (sg_name nd (i := 2) rfl (loc_of rfl) (by first | exact .inl rfl | exact .inr rfl) (nm rfl))) (fun _ _ _ _ _ _ => (sts_one (st_wide (w1 := []) (tGt_ (se_var (i := 2) rfl (vis_of rfl) (by decide) (by decide) (nm rfl)) gInt_) (am rfl)))) (fun _ _ _ _ _ _ => (se_wide (w1 := []) (se_var (i := 2) rfl (vis_of rfl) (by decide) (by decide) (nm rfl)) (am rfl))) (an rfl) (am rfl) (am rfl) (an rfl) (by intro _; rfl)))))
  ss_nil) (am rfl) (am rfl)
theorem k__law_without {P : Program} {w : World} {K : PySem.W.Frag} {mg : Str → Option Value} {base : Heap} {f : Addr} {fd : FuncData} (G : Gm mg) (m : mg ("_law_without" : Str) = some (.ref f)) (F : FunD K ("_law_without" : Str) ("_law_without" : Str) (defArgs st__law_without) (defBody st__law_without) (defScope st__law_without) [] [] f fd) : FnG P w K mg base 1 f fd [("shape" : Str), ("row" : Str)] (spF 2 [] false g__law_without) :=
  fn_rule (N := [("shape" : Str), ("row" : Str), ("length" : Str)]) (ps := [("shape" : Str), ("row" : Str)]) F ⟨rfl, rfl, rfl, by decide +kernel, rfl, by decide +kernel, by decide +kernel⟩ (b__law_without G) (by decide) (by decide) (by decide)
theorem n__law_without {K : PySem.W.Frag} {f : Addr} {fd : FuncData} (F : FunD K ("_law_without" : Str) ("_law_without" : Str) (defArgs st__law_without) (defBody st__law_without) (defScope st__law_without) [] [] f fd) : Binds K fd [("shape" : Str), ("row" : Str)] [] :=
  F.bindsN (fun _ _ _ _ _ _ us hl => match us, hl with | [_, _], _ => rfl)
theorem o__law_without {P : Program} {w : World} {K : PySem.W.Frag} {mg : Str → Option Value} {base : Heap} {f : Addr} {fd : FuncData} (G : Gm mg) (m : mg ("_law_without" : Str) = some (.ref f)) (F : FunD K ("_law_without" : Str) ("_law_without" : Str) (defArgs st__law_without) (defBody st__law_without) (defScope st__law_without) [] [] f fd) : Ct P w K mg base 1 ("_law_without" : Str) st__law_without [("shape" : Str), ("row" : Str)] (spF 2 [] false g__law_without) :=
  ⟨f, fd, m, F, n__law_without F, k__law_without G m F⟩
/-! ### _law_with -/
abbrev st__law_with : Stmt := top 36
def s__law_with : CM := (cSeq (cRet (mIf (m2 gLt (mVar 1) (mL (g1 gLen) (mCons (mVar 0) mNil))) (m2 gAdd (m2 gAdd (mCut (mVar 0) oNone (oSome (mVar 1))) (mL gTup (mCons (m2 gAdd (m2 gIdx (mVar 0) (mVar 1)) (mC (.int 1))) mNil))) (mCut (mVar 0) (oSome (m2 gAdd (mVar 1) (mC (.int 1)))) oNone)) (m2 gAdd (mVar 0) (mL gTup (mCons (mC (.int 1)) mNil))))) cNx)
def g__law_with : SM := gFn false [] 0 s__law_with
theorem b__law_with {P : Program} {w : World} {K : PySem.W.Frag} {mg : Str → Option Value} {base : Heap} {f : Addr} (G : Gm mg) (Fa : Addr → Prop) (cd : Value) (A : Around) (outer : List Env) (s : Shared) (H : Hp)
    (hr : Room 0 (A.deeper (envOfC ("_law_with" : Str) (defScope st__law_with) s.heap.objs.size f cd))) (hgd : A.guards = some []) : SSs ⟨[] ++ [], [] ++ [], Fa, []⟩ (cxG P w K mg base [("shape" : Str), ("row" : Str)] ("_law_with" : Str) (defScope st__law_with) f cd A outer s H) (defBody st__law_with) [0, 1] [0, 1] [] false s__law_with := by
  have hu100 : (A.deeper (envOfC ("_law_with" : Str) (defScope st__law_with) s.heap.objs.size f cd)).units + 100 < cLine := by have := hr.un; omega
  have hu64 : (A.deeper (envOfC ("_law_with" : Str) (defScope st__law_with) s.heap.objs.size f cd)).units + 64 < cLine := by omega
  have hu1 : (A.deeper (envOfC ("_law_with" : Str) (defScope st__law_with) s.heap.objs.size f cd)).units + 1 < cLine := by omega
  have nd : ([("shape" : Str), ("row" : Str)] : List Str).Nodup := by decide +kernel
  exact sss_wide (ss_cons (ss_ret (se_if (tLt_ (se_var (i := 1) rfl (vis_of rfl) (by decide) (by decide) (nm rfl)) (bLen (by rfl) (G.b_len) (se_var (i := 0) rfl (vis_of rfl) (by decide) (by decide) (nm rfl)))) (xAdd (xAdd (xCut (se_var (i := 0) rfl (vis_of rfl) (by decide) (by decide) (nm rfl)) so_none (so_some (se_var (i := 1) rfl (vis_of rfl) (by decide) (by decide) (nm rfl)))) (xTup (xCons (xAdd (xIdx (by intro o i; rfl) (se_var (i := 0) rfl (vis_of rfl) (by decide) (by decide) (nm rfl)) (se_var (i := 1) rfl (vis_of rfl) (by decide) (by decide) (nm rfl))) gInt_) sa_nil) rfl)) (xCut (se_var (i := 0) rfl (vis_of rfl) (by decide) (by decide) (nm rfl)) (so_some (xAdd (se_var (i := 1) rfl (vis_of rfl) (by decide) (by decide) (nm rfl)) gInt_)) so_none)) (xAdd (se_var (i := 0) rfl (vis_of rfl) (by decide) (by decide) (nm rfl)) (xTup (xCons gInt_ sa_nil) rfl))))
  ss_nil) (am rfl) (am rfl)
theorem k__law_with {P : Program} {w : World} {K : PySem.W.Frag} {mg : Str → Option Value} {base : Heap} {f : Addr} {fd : FuncData} (G : Gm mg) (m : mg ("_law_with" : Str) = some (.ref f)) (F : FunD K ("_law_with" : Str) ("_law_with" : Str) (defArgs st__law_with) (defBody st__law_with) (defScope st__law_with) [] [] f fd) : FnG P w K mg base 1 f fd [("shape" : Str), ("row" : Str)] (spF 2 [] false g__law_with) :=
  fn_rule (N := [("shape" : Str), ("row" : Str)]) (ps := [("shape" : Str), ("row" : Str)]) F ⟨rfl, rfl, rfl, by decide +kernel, rfl, by decide +kernel, by decide +kernel⟩ (b__law_with G) (by decide) (by decide) (by decide)
theorem n__law_with {K : PySem.W.Frag} {f : Addr} {fd : FuncData} (F : FunD K ("_law_with" : Str) ("_law_with" : Str) (defArgs st__law_with) (defBody st__law_with) (defScope st__law_with) [] [] f fd) : Binds K fd [("shape" : Str), ("row" : Str)] [] :=
  F.bindsN (fun _ _ _ _ _ _ us hl => match us, hl with | [_, _], _ => rfl)
theorem o__law_with {P : Program} {w : World} {K : PySem.W.Frag} {mg : Str → Option Value} {base : Heap} {f : Addr} {fd : FuncData} (G : Gm mg) (m : mg ("_law_with" : Str) = some (.ref f)) (F : FunD K ("_law_with" : Str) ("_law_with" : Str) (defArgs st__law_with) (defBody st__law_with) (defScope st__law_with) [] [] f fd) : Ct P w K mg base 1 ("_law_with" : Str) st__law_with [("shape" : Str), ("row" : Str)] (spF 2 [] false g__law_with) :=
  ⟨f, fd, m, F, n__law_with F, k__law_with G m F⟩
/-! ### _law_corners -/
abbrev st__law_corners : Stmt := top 37
def s__law_corners : CM := (cSeq (cRet (mL (g1 gTuple) (mCons (mLc [1] [] (bName 1) (mCall0 g__law_falls (mCons (m2 gAdd (m2 gAdd (mCut (mVar 0) oNone (oSome (mVar 1))) (mL gTup (mCons (m2 gSub (m2 gIdx (mVar 0) (mVar 1)) (mC (.int 1))) mNil))) (mCut (mVar 0) (oSome (m2 gAdd (mVar 1) (mC (.int 1)))) oNone)) mNil)) (mVar 1) (mRg gR1 (mCons (mL (g1 gLen) (mCons (mVar 0) mNil)) mNil))) mNil))) cNx)
def g__law_corners : SM := gFn false [] 1 s__law_corners
theorem b__law_corners {P : Program} {w : World} {K : PySem.W.Frag} {mg : Str → Option Value} {base : Heap} {f : Addr} (G : Gm mg) (c__law_falls : Ct P w K mg base 1 ("_law_falls" : Str) st__law_falls [("lengths" : Str)] (spF 1 [] false g__law_falls)) (Fa : Addr → Prop) (cd : Value) (A : Around) (outer : List Env) (s : Shared) (H : Hp)
    (hr : Room 1 (A.deeper (envOfC ("_law_corners" : Str) (defScope st__law_corners) s.heap.objs.size f cd))) (hgd : A.guards = some []) : SSs ⟨[] ++ [], [] ++ [], Fa, []⟩ (cxG P w K mg base [("shape" : Str), ("row" : Str)] ("_law_corners" : Str) (defScope st__law_corners) f cd A outer s H) (defBody st__law_corners) [0, 1] [0, 1] [] false s__law_corners := by
  obtain ⟨f__law_falls, fd__law_falls, m__law_falls, F__law_falls, B__law_falls, G__law_falls⟩ := c__law_falls.ex
  have hu100 : (A.deeper (envOfC ("_law_corners" : Str) (defScope st__law_corners) s.heap.objs.size f cd)).units + 100 < cLine := by have := hr.un; omega
  have hu64 : (A.deeper (envOfC ("_law_corners" : Str) (defScope st__law_corners) s.heap.objs.size f cd)).units + 64 < cLine := by omega
  have hu1 : (A.deeper (envOfC ("_law_corners" : Str) (defScope st__law_corners) s.heap.objs.size f cd)).units + 1 < cLine := by omega
  have nd : ([("shape" : Str), ("row" : Str)] : List Str).Nodup := by decide +kernel
  exact sss_wide (ss_cons (ss_ret (bTuple (by decide) (by rfl) (G.b_tuple) (se_new (sn_lc (own := [(("row" : Str), 1)]) (wb := []) (ws := [1]) rfl nd (si_range1 (lk := []) (by rfl) (G.b_range) rfl (xCons (bLen (by rfl) (G.b_len) (se_var (i := 0) rfl (vis_of rfl) (by decide) (by decide) (nm rfl))) sa_nil)) (blkOk_by (by kernel_rfl)) (fun _ _ _ _ _ _ => (sg_name nd (i := 1) rfl (loc_of rfl) (by first | exact .inl rfl | exact .inr rfl) (nm rfl))) (fun _ _ _ _ _ _ => (sts_one (st_wide (w1 := []) (gVal (se_call G__law_falls (hr.mono (by omega)) hgd (by rfl) m__law_falls F__law_falls.kp B__law_falls (by rfl) (by rfl) (xCons (xAdd (xAdd (xCut (se_var (i := 0) rfl (vis_of rfl) (by decide) (by decide) (nm rfl)) so_none (so_some (se_var (i := 1) rfl (vis_of rfl) (by decide) (by decide) (nm rfl)))) (xTup (xCons (xSub (xIdx (by intro o i; rfl) (se_var (i := 0) rfl (vis_of rfl) (by decide) (by decide) (nm rfl)) (se_var (i := 1) rfl (vis_of rfl) (by decide) (by decide) (nm rfl))) gInt_) sa_nil) rfl)) (xCut (se_var (i := 0) rfl (vis_of rfl) (by decide) (by decide) (nm rfl)) (so_some (xAdd (se_var (i := 1) rfl (vis_of rfl) (by decide) (by decide) (nm rfl)) gInt_)) so_none)) sa_nil) (by decide) (by rfl) (by rfl))) (am rfl)))) (fun _ _ _ _ _ _ => (se_wide (w1 := []) (se_var (i := 1) rfl (vis_of rfl) (by decide) (by decide) (nm rfl)) (am rfl))) (an rfl) (am rfl) (am rfl) (an rfl) (by intro _; rfl)))))
  ss_nil) (am rfl) (am rfl)
theorem k__law_corners {P : Program} {w : World} {K : PySem.W.Frag} {mg : Str → Option Value} {base : Heap} {f : Addr} {fd : FuncData} (G : Gm mg) (c__law_falls : Ct P w K mg base 1 ("_law_falls" : Str) st__law_falls [("lengths" : Str)] (spF 1 [] false g__law_falls)) (m : mg ("_law_corners" : Str) = some (.ref f)) (F : FunD K ("_law_corners" : Str) ("_law_corners" : Str) (defArgs st__law_corners) (defBody st__law_corners) (defScope st__law_corners) [] [] f fd) : FnG P w K mg base 2 f fd [("shape" : Str)] (spF 1 [] false g__law_corners) :=
  fn_rule (N := [("shape" : Str), ("row" : Str)]) (ps := [("shape" : Str)]) F ⟨rfl, rfl, rfl, by decide +kernel, rfl, by decide +kernel, by decide +kernel⟩ (b__law_corners G c__law_falls) (by decide) (by decide) (by decide)
theorem n__law_corners {K : PySem.W.Frag} {f : Addr} {fd : FuncData} (F : FunD K ("_law_corners" : Str) ("_law_corners" : Str) (defArgs st__law_corners) (defBody st__law_corners) (defScope st__law_corners) [] [] f fd) : Binds K fd [("shape" : Str)] [] :=
  F.bindsN (fun _ _ _ _ _ _ us hl => match us, hl with | [_], _ => rfl)
theorem o__law_corners {P : Program} {w : World} {K : PySem.W.Frag} {mg : Str → Option Value} {base : Heap} {f : Addr} {fd : FuncData} (G : Gm mg) (c__law_falls : Ct P w K mg base 1 ("_law_falls" : Str) st__law_falls [("lengths" : Str)] (spF 1 [] false g__law_falls)) (m : mg ("_law_corners" : Str) = some (.ref f)) (F : FunD K ("_law_corners" : Str) ("_law_corners" : Str) (defArgs st__law_corners) (defBody st__law_corners) (defScope st__law_corners) [] [] f fd) : Ct P w K mg base 2 ("_law_corners" : Str) st__law_corners [("shape" : Str)] (spF 1 [] false g__law_corners) :=
  ⟨f, fd, m, F, n__law_corners F, k__law_corners G c__law_falls m F⟩
/-! ### _law_spots -/
abbrev st__law_spots : Stmt := top 38
def s__law_spots : CM := (cSeq (cRet (mL (g1 gTuple) (mCons (mLc [1] [] (bName 1) (mCall0 g__law_falls (mCons (mCall0 g__law_with (mCons (mVar 0) (mCons (mVar 1) mNil))) mNil)) (mVar 1) (mRg gR1 (mCons (mL (g2 gMin2) (mCons (mC (.int 9)) (mCons (m2 gAdd (mL (g1 gLen) (mCons (mVar 0) mNil)) (mC (.int 1))) mNil))) mNil))) mNil))) cNx)
def g__law_spots : SM := gFn false [] 1 s__law_spots
theorem b__law_spots {P : Program} {w : World} {K : PySem.W.Frag} {mg : Str → Option Value} {base : Heap} {f : Addr} (G : Gm mg) (c__law_falls : Ct P w K mg base 1 ("_law_falls" : Str) st__law_falls [("lengths" : Str)] (spF 1 [] false g__law_falls)) (c__law_with : Ct P w K mg base 1 ("_law_with" : Str) st__law_with [("shape" : Str), ("row" : Str)] (spF 2 [] false g__law_with)) (Fa : Addr → Prop) (cd : Value) (A : Around) (outer : List Env) (s : Shared) (H : Hp)
    (hr : Room 1 (A.deeper (envOfC ("_law_spots" : Str) (defScope st__law_spots) s.heap.objs.size f cd))) (hgd : A.guards = some []) : SSs ⟨[] ++ [], [] ++ [], Fa, []⟩ (cxG P w K mg base [("shape" : Str), ("row" : Str)] ("_law_spots" : Str) (defScope st__law_spots) f cd A outer s H) (defBody st__law_spots) [0, 1] [0, 1] [] false s__law_spots := by
  obtain ⟨f__law_falls, fd__law_falls, m__law_falls, F__law_falls, B__law_falls, G__law_falls⟩ := c__law_falls.ex
  obtain ⟨f__law_with, fd__law_with, m__law_with, F__law_with, B__law_with, G__law_with⟩ := c__law_with.ex
  have hu100 : (A.deeper (envOfC ("_law_spots" : Str) (defScope st__law_spots) s.heap.objs.size f cd)).units + 100 < cLine := by have := hr.un; omega
  have hu64 : (A.deeper (envOfC ("_law_spots" : Str) (defScope st__law_spots) s.heap.objs.size f cd)).units + 64 < cLine := by omega
  have hu1 : (A.deeper (envOfC ("_law_spots" : Str) (defScope st__law_spots) s.heap.objs.size f cd)).units + 1 < cLine := by omega
  have nd : ([("shape" : Str), ("row" : Str)] : List Str).Nodup := by decide +kernel
  exact sss_wide (ss_cons (ss_ret (bTuple (by decide) (by rfl) (G.b_tuple) (se_new (sn_lc (own := [(("row" : Str), 1)]) (wb := []) (ws := [1]) rfl nd (si_range1 (lk := []) (by rfl) (G.b_range) rfl (xCons (bMin2 (by rfl) (by rfl) (G.b_min) (xCons gInt_ (xCons (xAdd (bLen (by rfl) (G.b_len) (se_var (i := 0) rfl (vis_of rfl) (by decide) (by decide) (nm rfl))) gInt_) sa_nil))) sa_nil)) (blkOk_by (by kernel_rfl)) (fun _ _ _ _ _ _ => (sg_name nd (i := 1) rfl (loc_of rfl) (by first | exact .inl rfl | exact .inr rfl) (nm rfl))) (fun _ _ _ _ _ _ => (sts_one (st_wide (w1 := []) (gVal (se_call G__law_falls (hr.mono (by omega)) hgd (by rfl) m__law_falls F__law_falls.kp B__law_falls (by rfl) (by rfl) (xCons (se_call G__law_with (hr.mono (by omega)) hgd (by rfl) m__law_with F__law_with.kp B__law_with (by rfl) (by rfl) (xCons (se_var (i := 0) rfl (vis_of rfl) (by decide) (by decide) (nm rfl)) (xCons (se_var (i := 1) rfl (vis_of rfl) (by decide) (by decide) (nm rfl)) sa_nil)) (by decide) (by rfl) (by rfl)) sa_nil) (by decide) (by rfl) (by rfl))) (am rfl)))) (fun _ _ _ _ _ _ => (se_wide (w1 := []) (se_var (i := 1) rfl (vis_of rfl) (by decide) (by decide) (nm rfl)) (am rfl))) (an rfl) (am rfl) (am rfl) (an rfl) (by intro _; rfl)))))
  ss_nil) (am rfl) (am rfl)
theorem k__law_spots {P : Program} {w : World} {K : PySem.W.Frag} {mg : Str → Option Value} {base : Heap} {f : Addr} {fd : FuncData} (G : Gm mg) (c__law_falls : Ct P w K mg base 1 ("_law_falls" : Str) st__law_falls [("lengths" : Str)] (spF 1 [] false g__law_falls)) (c__law_with : Ct P w K mg base 1 ("_law_with" : Str) st__law_with [("shape" : Str), ("row" : Str)] (spF 2 [] false g__law_with)) (m : mg ("_law_spots" : Str) = some (.ref f)) (F : FunD K ("_law_spots" : Str) ("_law_spots" : Str) (defArgs st__law_spots) (defBody st__law_spots) (defScope st__law_spots) [] [] f fd) : FnG P w K mg base 2 f fd [("shape" : Str)] (spF 1 [] false g__law_spots) :=
  fn_rule (N := [("shape" : Str), ("row" : Str)]) (ps := [("shape" : Str)]) F ⟨rfl, rfl, rfl, by decide +kernel, rfl, by decide +kernel, by decide +kernel⟩ (b__law_spots G c__law_falls c__law_with) (by decide) (by decide) (by decide)
theorem n__law_spots {K : PySem.W.Frag} {f : Addr} {fd : FuncData} (F : FunD K ("_law_spots" : Str) ("_law_spots" : Str) (defArgs st__law_spots) (defBody st__law_spots) (defScope st__law_spots) [] [] f fd) : Binds K fd [("shape" : Str)] [] :=
  F.bindsN (fun _ _ _ _ _ _ us hl => match us, hl with | [_], _ => rfl)
theorem o__law_spots {P : Program} {w : World} {K : PySem.W.Frag} {mg : Str → Option Value} {base : Heap} {f : Addr} {fd : FuncData} (G : Gm mg) (c__law_falls : Ct P w K mg base 1 ("_law_falls" : Str) st__law_falls [("lengths" : Str)] (spF 1 [] false g__law_falls)) (c__law_with : Ct P w K mg base 1 ("_law_with" : Str) st__law_with [("shape" : Str), ("row" : Str)] (spF 2 [] false g__law_with)) (m : mg ("_law_spots" : Str) = some (.ref f)) (F : FunD K ("_law_spots" : Str) ("_law_spots" : Str) (defArgs st__law_spots) (defBody st__law_spots) (defScope st__law_spots) [] [] f fd) : Ct P w K mg base 2 ("_law_spots" : Str) st__law_spots [("shape" : Str)] (spF 1 [] false g__law_spots) :=
  ⟨f, fd, m, F, n__law_spots F, k__law_spots G c__law_falls c__law_with m F⟩
/-! ### _law_all -/
abbrev st__law_all : Stmt := top 39
def s__law_all : CM := (cSeq (cSet 1 (mDisp1 (mL gTup mNil) (mC (.bool true)))) (cSeq (cForS (mRg gR1 (mCons (mVar 0) mNil)) (bName 2) (cSeq (cSet 3 (mE true [])) (cSeq (cForS (mIt (mKeys 1)) (bName 4) (cSeq (cForS (mIt (mCall0 g__law_spots (mCons (mVar 4) mNil))) (bName 5) (cSeq (cDPut 3 (mC (.bool true)) (mCall0 g__law_with (mCons (mVar 4) (mCons (mVar 5) mNil)))) cNx)) cNx)) (cSeq (cMove 1 3) cNx)))) (cSeq (cRet (mL (g1 gSorted) (mCons (mKeys 1) mNil))) cNx)))
def g__law_all : SM := gFn true [] 5 s__law_all
theorem b__law_all {P : Program} {w : World} {K : PySem.W.Frag} {mg : Str → Option Value} {base : Heap} {f : Addr} (G : Gm mg) (c__law_spots : Ct P w K mg base 2 ("_law_spots" : Str) st__law_spots [("shape" : Str)] (spF 1 [] false g__law_spots)) (c__law_with : Ct P w K mg base 1 ("_law_with" : Str) st__law_with [("shape" : Str), ("row" : Str)] (spF 2 [] false g__law_with)) (Fa : Addr → Prop) (cd : Value) (A : Around) (outer : List Env) (s : Shared) (H : Hp)
    (hr : Room 2 (A.deeper (envOfC ("_law_all" : Str) (defScope st__law_all) s.heap.objs.size f cd))) (hgd : A.guards = some []) : SSs ⟨[] ++ [1, 3], [] ++ [1, 3], Fa, [1, 3]⟩ (cxG P w K mg base [("size" : Str), ("found" : Str), ("turn" : Str), ("later" : Str), ("shape" : Str), ("row" : Str)] ("_law_all" : Str) (defScope st__law_all) f cd A outer s H) (defBody st__law_all) [0, 1, 2, 3, 4, 5] [0, 1, 2, 3, 4, 5] [1, 3] true s__law_all := by
  obtain ⟨f__law_spots, fd__law_spots, m__law_spots, F__law_spots, B__law_spots, G__law_spots⟩ := c__law_spots.ex
  obtain ⟨f__law_with, fd__law_with, m__law_with, F__law_with, B__law_with, G__law_with⟩ := c__law_with.ex
  have hu100 : (A.deeper (envOfC ("_law_all" : Str) (defScope st__law_all) s.heap.objs.size f cd)).units + 100 < cLine := by have := hr.un; omega
  have hu64 : (A.deeper (envOfC ("_law_all" : Str) (defScope st__law_all) s.heap.objs.size f cd)).units + 64 < cLine := by omega
  have hu1 : (A.deeper (envOfC ("_law_all" : Str) (defScope st__law_all) s.heap.objs.size f cd)).units + 1 < cLine := by omega
  have nd : ([("size" : Str), ("found" : Str), ("turn" : Str), ("later" : Str), ("shape" : Str), ("row" : Str)] : List Str).Nodup := by decide +kernel
  exact sss_wide (ss_cons (ss_setD nd (i := 1) rfl (loc_of rfl) (.inl rfl) (ym rfl) (sd_disp1 hu1 (fun _ => (xTup sa_nil rfl)) (fun _ => gBl_)) rfl)
  (ss_cons (ss_for PassesOwn.never rfl (si_range1 (lk := []) (by rfl) (G.b_range) rfl (xCons (se_var (i := 0) rfl (vis_of rfl) (by decide) (by decide) (nm rfl)) sa_nil)) (sg_name nd (i := 2) rfl (loc_of rfl) (by first | exact .inl rfl | exact .inr rfl) (nm rfl))
  (ss_cons (ss_setD nd (i := 3) rfl (loc_of rfl) (.inl rfl) (ym rfl) sd_emptyT rfl)
  (ss_cons (ss_for PassesOwn.never rfl (si_seq (sq_of (se_new (sn_keys (i := 1) (by rfl) (by rfl) (vis_of rfl) (by decide) (by decide) (ym rfl) (by rfl) (G.b_list) (by rfl) (by rfl))))) (sg_name nd (i := 4) rfl (loc_of rfl) (by first | exact .inl rfl | exact .inr rfl) (nm rfl))
  (ss_cons (ss_for PassesOwn.never rfl (si_seq (sq_of (se_call G__law_spots (hr.mono (by omega)) hgd (by rfl) m__law_spots F__law_spots.kp B__law_spots (by rfl) (by rfl) (xCons (se_var (i := 4) rfl (vis_of rfl) (by decide) (by decide) (nm rfl)) sa_nil) (by decide) (by rfl) (by rfl)))) (sg_name nd (i := 5) rfl (loc_of rfl) (by first | exact .inl rfl | exact .inr rfl) (nm rfl))
  (ss_cons (ss_dput hu1 (i := 3) rfl (vis_of rfl) (by decide) (by decide) (ym rfl) gBl_ (se_call G__law_with (hr.mono (by omega)) hgd (by rfl) m__law_with F__law_with.kp B__law_with (by rfl) (by rfl) (xCons (se_var (i := 4) rfl (vis_of rfl) (by decide) (by decide) (nm rfl)) (xCons (se_var (i := 5) rfl (vis_of rfl) (by decide) (by decide) (nm rfl)) sa_nil)) (by decide) (by rfl) (by rfl)) rfl)
  ss_nil) (an rfl) (by intro _; rfl))
  ss_nil) (an rfl) (by intro _; rfl))
  (ss_cons (ss_move nd (i := 1) rfl (loc_of rfl) (.inl rfl) (j := 3) rfl (vis_of rfl) (by decide) (by decide) (ym rfl) (ym rfl) (by decide) ⟨fun _ => ym rfl, fun _ => ym rfl⟩ (ym rfl) (ym rfl) rfl)
  ss_nil))) (an rfl) (by intro _; rfl))
  (ss_cons (ss_retNew (nSorted (by decide) hu100 (by rfl) (G.b_sorted) (se_new (sn_keys (i := 1) (by rfl) (by rfl) (vis_of rfl) (by decide) (by decide) (ym rfl) (by rfl) (G.b_list) (by rfl) (by rfl)))))
  ss_nil))) (am rfl) (am rfl)
theorem k__law_all {P : Program} {w : World} {K : PySem.W.Frag} {mg : Str → Option Value} {base : Heap} {f : Addr} {fd : FuncData} (G : Gm mg) (c__law_spots : Ct P w K mg base 2 ("_law_spots" : Str) st__law_spots [("shape" : Str)] (spF 1 [] false g__law_spots)) (c__law_with : Ct P w K mg base 1 ("_law_with" : Str) st__law_with [("shape" : Str), ("row" : Str)] (spF 2 [] false g__law_with)) (m : mg ("_law_all" : Str) = some (.ref f)) (F : FunD K ("_law_all" : Str) ("_law_all" : Str) (defArgs st__law_all) (defBody st__law_all) (defScope st__law_all) [] [] f fd) : FnG P w K mg base 3 f fd [("size" : Str)] (spF 1 [] true g__law_all) :=
  fn_rule (N := [("size" : Str), ("found" : Str), ("turn" : Str), ("later" : Str), ("shape" : Str), ("row" : Str)]) (ps := [("size" : Str)]) F ⟨rfl, rfl, rfl, by decide +kernel, rfl, by decide +kernel, by decide +kernel⟩ (b__law_all G c__law_spots c__law_with) (by decide) (by decide) (by decide)
theorem n__law_all {K : PySem.W.Frag} {f : Addr} {fd : FuncData} (F : FunD K ("_law_all" : Str) ("_law_all" : Str) (defArgs st__law_all) (defBody st__law_all) (defScope st__law_all) [] [] f fd) : Binds K fd [("size" : Str)] [] :=
  F.bindsN (fun _ _ _ _ _ _ us hl => match us, hl with | [_], _ => rfl)
theorem o__law_all {P : Program} {w : World} {K : PySem.W.Frag} {mg : Str → Option Value} {base : Heap} {f : Addr} {fd : FuncData} (G : Gm mg) (c__law_spots : Ct P w K mg base 2 ("_law_spots" : Str) st__law_spots [("shape" : Str)] (spF 1 [] false g__law_spots)) (c__law_with : Ct P w K mg base 1 ("_law_with" : Str) st__law_with [("shape" : Str), ("row" : Str)] (spF 2 [] false g__law_with)) (m : mg ("_law_all" : Str) = some (.ref f)) (F : FunD K ("_law_all" : Str) ("_law_all" : Str) (defArgs st__law_all) (defBody st__law_all) (defScope st__law_all) [] [] f fd) : Ct P w K mg base 3 ("_law_all" : Str) st__law_all [("size" : Str)] (spF 1 [] true g__law_all) :=
  ⟨f, fd, m, F, n__law_all F, k__law_all G c__law_spots c__law_with m F⟩
/-! ### _law_near -/
abbrev st__law_near : Stmt := top 40
def s__law_near : CM := (cSeq (cSet 2 (mCall1 0 g__law_draw (mCons (mC (.int 4)) mNil))) (cSeq (cIf (mAnd (m2 gEq (mVar 2) (mC (.int 0))) (m2 gNe (mVar 1) (mL gTup mNil))) (cSeq (cRet (mCall0 g__law_without (mCons (mVar 1) (mCons (mCall1 0 g__law_one (mCons (mL (g1 gList) (mCons (mCall0 g__law_corners (mCons (mVar 1) mNil)) mNil)) mNil)) mNil)))) cNx) cNx) (cSeq (cIf (mAnd (m2 gEq (mVar 2) (mC (.int 1))) (mAnd (m2 gLt (mL (g1 gSum) (mCons (mVar 1) mNil)) (mC (.int 30))) (m2 gNe (mCall0 g__law_spots (mCons (mVar 1) mNil)) (mL gTup mNil)))) (cSeq (cRet (mCall0 g__law_with (mCons (mVar 1) (mCons (mCall1 0 g__law_one (mCons (mL (g1 gList) (mCons (mCall0 g__law_spots (mCons (mVar 1) mNil)) mNil)) mNil)) mNil)))) cNx) cNx) (cSeq (cRet (mIf (m2 gEq (mVar 2) (mC (.int 2))) (mCut (mVar 1) (oSome (mC (.int 1))) oNone) (mCall1 0 g__law_shape (mCons (mC (.int 30)) mNil)))) cNx))))
def g__law_near : SM := gFn false [0] 1 s__law_near
theorem b__law_near {P : Program} {w : World} {K : PySem.W.Frag} {mg : Str → Option Value} {base : Heap} {f : Addr} (G : Gm mg) (c__law_corners : Ct P w K mg base 2 ("_law_corners" : Str) st__law_corners [("shape" : Str)] (spF 1 [] false g__law_corners)) (c__law_draw : Ct P w K mg base 1 ("_law_draw" : Str) st__law_draw [("feed" : Str), ("many" : Str)] (spF 2 [0] false g__law_draw)) (c__law_one : Ct P w K mg base 2 ("_law_one" : Str) st__law_one [("feed" : Str), ("things" : Str)] (spF 2 [0] false g__law_one)) (c__law_shape : Ct P w K mg base 3 ("_law_shape" : Str) st__law_shape [("feed" : Str), ("most" : Str)] (spF 2 [0] false g__law_shape)) (c__law_spots : Ct P w K mg base 2 ("_law_spots" : Str) st__law_spots [("shape" : Str)] (spF 1 [] false g__law_spots)) (c__law_with : Ct P w K mg base 1 ("_law_with" : Str) st__law_with [("shape" : Str), ("row" : Str)] (spF 2 [] false g__law_with)) (c__law_without : Ct P w K mg base 1 ("_law_without" : Str) st__law_without [("shape" : Str), ("row" : Str)] (spF 2 [] false g__law_without)) (Fa : Addr → Prop) (cd : Value) (A : Around) (outer : List Env) (s : Shared) (H : Hp)
    (hr : Room 3 (A.deeper (envOfC ("_law_near" : Str) (defScope st__law_near) s.heap.objs.size f cd))) (hgd : A.guards = some []) : SSs ⟨[0] ++ [], [0] ++ [], Fa, []⟩ (cxG P w K mg base [("feed" : Str), ("shape" : Str), ("way" : Str)] ("_law_near" : Str) (defScope st__law_near) f cd A outer s H) (defBody st__law_near) [0, 1, 2] [1, 2] [] false s__law_near := by
  obtain ⟨f__law_corners, fd__law_corners, m__law_corners, F__law_corners, B__law_corners, G__law_corners⟩ := c__law_corners.ex
  obtain ⟨f__law_draw, fd__law_draw, m__law_draw, F__law_draw, B__law_draw, G__law_draw⟩ := c__law_draw.ex
  obtain ⟨f__law_one, fd__law_one, m__law_one, F__law_one, B__law_one, G__law_one⟩ := c__law_one.ex
  obtain ⟨f__law_shape, fd__law_shape, m__law_shape, F__law_shape, B__law_shape, G__law_shape⟩ := c__law_shape.ex
  obtain ⟨f__law_spots, fd__law_spots, m__law_spots, F__law_spots, B__law_spots, G__law_spots⟩ := c__law_spots.ex
  obtain ⟨f__law_with, fd__law_with, m__law_with, F__law_with, B__law_with, G__law_with⟩ := c__law_with.ex
  obtain ⟨f__law_without, fd__law_without, m__law_without, F__law_without, B__law_without, G__law_without⟩ := c__law_without.ex
  have hu100 : (A.deeper (envOfC ("_law_near" : Str) (defScope st__law_near) s.heap.objs.size f cd)).units + 100 < cLine := by have := hr.un; omega
  have hu64 : (A.deeper (envOfC ("_law_near" : Str) (defScope st__law_near) s.heap.objs.size f cd)).units + 64 < cLine := by omega
  have hu1 : (A.deeper (envOfC ("_law_near" : Str) (defScope st__law_near) s.heap.objs.size f cd)).units + 1 < cLine := by omega
  have nd : ([("feed" : Str), ("shape" : Str), ("way" : Str)] : List Str).Nodup := by decide +kernel
  exact sss_wide (ss_cons (ss_set nd (i := 2) rfl (loc_of rfl) (.inl rfl) (nm rfl) (se_call1 G__law_draw (hr.mono (by omega)) hgd (by rfl) m__law_draw F__law_draw.kp B__law_draw (i := 0) rfl (vis_of rfl) (by decide) (by decide) (ym rfl) (ym rfl) (by rfl) (by rfl) (xCons gInt_ sa_nil) (by decide) (by rfl) (by rfl)) rfl)
  (ss_cons (ss_if (PW.pt (sw_and (tEq_ hu64 (.inl rfl) (se_var (i := 2) rfl (vis_of rfl) (by decide) (by decide) (nm rfl)) gInt_) (pw_and1 (tNe_ hu64 (.inl rfl) (se_var (i := 1) rfl (vis_of rfl) (by decide) (by decide) (nm rfl)) (xTup sa_nil rfl)))))
  (ss_cons (ss_ret (se_call G__law_without (hr.mono (by omega)) hgd (by rfl) m__law_without F__law_without.kp B__law_without (by rfl) (by rfl) (xCons (se_var (i := 1) rfl (vis_of rfl) (by decide) (by decide) (nm rfl)) (xCons (se_call1 G__law_one (hr.mono (by omega)) hgd (by rfl) m__law_one F__law_one.kp B__law_one (i := 0) rfl (vis_of rfl) (by decide) (by decide) (ym rfl) (ym rfl) (by rfl) (by rfl) (xCons (se_new (nList (by decide) (by rfl) (G.b_list) (se_call G__law_corners (hr.mono (by omega)) hgd (by rfl) m__law_corners F__law_corners.kp B__law_corners (by rfl) (by rfl) (xCons (se_var (i := 1) rfl (vis_of rfl) (by decide) (by decide) (nm rfl)) sa_nil) (by decide) (by rfl) (by rfl)))) sa_nil) (by decide) (by rfl) (by rfl)) sa_nil)) (by decide) (by rfl) (by rfl)))
  ss_nil)
  ss_nil)
  (ss_cons (ss_if (PW.pt (sw_and (tEq_ hu64 (.inl rfl) (se_var (i := 2) rfl (vis_of rfl) (by decide) (by decide) (nm rfl)) gInt_) (sw_and (tLt_ (bSum (by rfl) (by rfl) (G.b_sum) (se_var (i := 1) rfl (vis_of rfl) (by decide) (by decide) (nm rfl))) gInt_) (pw_and1 (tNe_ hu64 (.inl rfl) (se_call G__law_spots (hr.mono (by omega)) hgd (by rfl) m__law_spots F__law_spots.kp B__law_spots (by rfl) (by rfl) (xCons (se_var (i := 1) rfl (vis_of rfl) (by decide) (by decide) (nm rfl)) sa_nil) (by decide) (by rfl) (by rfl)) (xTup sa_nil rfl))))))
  (ss_cons (ss_ret (se_call G__law_with (hr.mono (by omega)) hgd (by rfl) m__law_with F__law_with.kp B__law_with (by rfl) (by rfl) (xCons (se_var (i := 1) rfl (vis_of rfl) (by decide) (by decide) (nm rfl)) (xCons (se_call1 G__law_one (hr.mono (by omega)) hgd (by rfl) m__law_one F__law_one.kp B__law_one (i := 0) rfl (vis_of rfl) (by decide) (by decide) (ym rfl) (ym rfl) (by rfl) (by rfl) (xCons (se_new (nList (by decide) (by rfl) (G.b_list) (se_call G__law_spots (hr.mono (by omega)) hgd (by rfl) m__law_spots F__law_spots.kp B__law_spots (by rfl) (by rfl) (xCons (se_var (i := 1) rfl (vis_of rfl) (by decide) (by decide) (nm rfl)) sa_nil) (by decide) (by rfl) (by rfl)))) sa_nil) (by decide) (by rfl) (by rfl)) sa_nil)) (by decide) (by rfl) (by rfl)))
  ss_nil)
  ss_nil)
  (ss_cons (ss_ret (se_if (tEq_ hu64 (.inl rfl) (se_var (i := 2) rfl (vis_of rfl) (by decide) (by decide) (nm rfl)) gInt_) (xCut (se_var (i := 1) rfl (vis_of rfl) (by decide) (by decide) (nm rfl)) (so_some gInt_) so_none) (se_call1 G__law_shape (hr.mono (by omega)) hgd (by rfl) m__law_shape F__law_shape.kp B__law_shape (i := 0) rfl (vis_of rfl) (by decide) (by decide) (ym rfl) (ym rfl) (by rfl) (by rfl) (xCons gInt_ sa_nil) (by decide) (by rfl) (by rfl))))
  ss_nil)))) (am rfl) (am rfl)
theorem k__law_near {P : Program} {w : World} {K : PySem.W.Frag} {mg : Str → Option Value} {base : Heap} {f : Addr} {fd : FuncData} (G : Gm mg) (c__law_corners : Ct P w K mg base 2 ("_law_corners" : Str) st__law_corners [("shape" : Str)] (spF 1 [] false g__law_corners)) (c__law_draw : Ct P w K mg base 1 ("_law_draw" : Str) st__law_draw [("feed" : Str), ("many" : Str)] (spF 2 [0] false g__law_draw)) (c__law_one : Ct P w K mg base 2 ("_law_one" : Str) st__law_one [("feed" : Str), ("things" : Str)] (spF 2 [0] false g__law_one)) (c__law_shape : Ct P w K mg base 3 ("_law_shape" : Str) st__law_shape [("feed" : Str), ("most" : Str)] (spF 2 [0] false g__law_shape)) (c__law_spots : Ct P w K mg base 2 ("_law_spots" : Str) st__law_spots [("shape" : Str)] (spF 1 [] false g__law_spots)) (c__law_with : Ct P w K mg base 1 ("_law_with" : Str) st__law_with [("shape" : Str), ("row" : Str)] (spF 2 [] false g__law_with)) (c__law_without : Ct P w K mg base 1 ("_law_without" : Str) st__law_without [("shape" : Str), ("row" : Str)] (spF 2 [] false g__law_without)) (m : mg ("_law_near" : Str) = some (.ref f)) (F : FunD K ("_law_near" : Str) ("_law_near" : Str) (defArgs st__law_near) (defBody st__law_near) (defScope st__law_near) [] [] f fd) : FnG P w K mg base 4 f fd [("feed" : Str), ("shape" : Str)] (spF 2 [0] false g__law_near) :=
  fn_rule (N := [("feed" : Str), ("shape" : Str), ("way" : Str)]) (ps := [("feed" : Str), ("shape" : Str)]) F ⟨rfl, rfl, rfl, by decide +kernel, rfl, by decide +kernel, by decide +kernel⟩ (b__law_near G c__law_corners c__law_draw c__law_one c__law_shape c__law_spots c__law_with c__law_without) (by decide) (by decide) (by decide)
theorem n__law_near {K : PySem.W.Frag} {f : Addr} {fd : FuncData} (F : FunD K ("_law_near" : Str) ("_law_near" : Str) (defArgs st__law_near) (defBody st__law_near) (defScope st__law_near) [] [] f fd) : Binds K fd [("feed" : Str), ("shape" : Str)] [] :=
  F.bindsN (fun _ _ _ _ _ _ us hl => match us, hl with | [_, _], _ => rfl)
theorem o__law_near {P : Program} {w : World} {K : PySem.W.Frag} {mg : Str → Option Value} {base : Heap} {f : Addr} {fd : FuncData} (G : Gm mg) (c__law_corners : Ct P w K mg base 2 ("_law_corners" : Str) st__law_corners [("shape" : Str)] (spF 1 [] false g__law_corners)) (c__law_draw : Ct P w K mg base 1 ("_law_draw" : Str) st__law_draw [("feed" : Str), ("many" : Str)] (spF 2 [0] false g__law_draw)) (c__law_one : Ct P w K mg base 2 ("_law_one" : Str) st__law_one [("feed" : Str), ("things" : Str)] (spF 2 [0] false g__law_one)) (c__law_shape : Ct P w K mg base 3 ("_law_shape" : Str) st__law_shape [("feed" : Str), ("most" : Str)] (spF 2 [0] false g__law_shape)) (c__law_spots : Ct P w K mg base 2 ("_law_spots" : Str) st__law_spots [("shape" : Str)] (spF 1 [] false g__law_spots)) (c__law_with : Ct P w K mg base 1 ("_law_with" : Str) st__law_with [("shape" : Str), ("row" : Str)] (spF 2 [] false g__law_with)) (c__law_without : Ct P w K mg base 1 ("_law_without" : Str) st__law_without [("shape" : Str), ("row" : Str)] (spF 2 [] false g__law_without)) (m : mg ("_law_near" : Str) = some (.ref f)) (F : FunD K ("_law_near" : Str) ("_law_near" : Str) (defArgs st__law_near) (defBody st__law_near) (defScope st__law_near) [] [] f fd) : Ct P w K mg base 4 ("_law_near" : Str) st__law_near [("feed" : Str), ("shape" : Str)] (spF 2 [0] false g__law_near) :=
  ⟨f, fd, m, F, n__law_near F, k__law_near G c__law_corners c__law_draw c__law_one c__law_shape c__law_spots c__law_with c__law_without m F⟩
/-! ### _law_two_right -/
abbrev st__law_two_right : Stmt := top 41
def s__law_two_right : CM := (cSeq (cSet 2 (mAnd (m2 gLe (mL (g1 gLen) (mCons (mVar 0) mNil)) (mL (g1 gLen) (mCons (mVar 1) mNil))) (m2 gEq (mLc [7, 8] [] (bTup 2 (bCons (bName 7) (bCons (bName 8) bNil))) (m2 gGt (mVar 8) (m2 gIdx (mVar 1) (mVar 7))) (mC (.int 1)) (mEnum (mIt (mVar 0)))) (mL gLst mNil)))) (cSeq (cAsg (bTup 2 (bCons (bName 3) (bCons (bName 4) bNil))) (mL gTup (mCons (mCall0 g__law_columns (mCons (mVar 0) mNil)) (mCons (mCall0 g__law_columns (mCons (mVar 1) mNil)) mNil)))) (cSeq (cSet 5 (mAnd (m2 gLe (mL (g1 gLen) (mCons (mVar 3) mNil)) (mL (g1 gLen) (mCons (mVar 4) mNil))) (m2 gEq (mLc [7, 8] [] (bTup 2 (bCons (bName 7) (bCons (bName 8) bNil))) (m2 gGt (mVar 8) (m2 gIdx (mVar 4) (mVar 7))) (mC (.int 1)) (mEnum (mIt (mVar 3)))) (mL gLst mNil)))) (cSeq (cSet 6 (mL gLst (mCons (mCall0 g_is_within_shape (mCons (mVar 0) (mCons (mVar 1) mNil))) (mCons (mCall0 g_is_within_shape (mPick [1, 0] mNil (mCons (mVar 1) (mCons (mVar 0) mNil)))) mNil)))) (cSeq (cRet (mAnd (m2 gEq (mL (g1 gRepr) (mCons (mVar 6) mNil)) (mL (g1 gRepr) (mCons (mL gLst (mCons (mVar 2) (mCons (mVar 2) mNil))) mNil))) (mAnd (m2 gEq (mVar 2) (mVar 5)) (mOr (m1 gNot (mAnd (mVar 2) (mCall0 g_is_within_shape (mCons (mVar 1) (mCons (mVar 0) mNil))))) (m2 gEq (mVar 0) (mVar 1)))))) cNx)))))
def g__law_two_right : SM := gFn false [] 7 s__law_two_right
theorem b__law_two_right {P : Program} {w : World} {K : PySem.W.Frag} {mg : Str → Option Value} {base : Heap} {f : Addr} (G : Gm mg) (c__law_columns : Ct P w K mg base 1 ("_law_columns" : Str) st__law_columns [("shape" : Str)] (spF 1 [] false g__law_columns)) (c_is_within_shape : Ct P w K mg base 5 ("is_within_shape" : Str) st_is_within_shape [("shape" : Str), ("other" : Str)] (spF 2 [] false g_is_within_shape)) (Fa : Addr → Prop) (cd : Value) (A : Around) (outer : List Env) (s : Shared) (H : Hp)
    (hr : Room 5 (A.deeper (envOfC ("_law_two_right" : Str) (defScope st__law_two_right) s.heap.objs.size f cd))) (hgd : A.guards = some []) : SSs ⟨[] ++ [], [] ++ [], Fa, []⟩ (cxG P w K mg base [("one" : Str), ("other" : Str), ("rows" : Str), ("first" : Str), ("second" : Str), ("columns" : Str), ("told" : Str), ("at" : Str), ("length" : Str)] ("_law_two_right" : Str) (defScope st__law_two_right) f cd A outer s H) (defBody st__law_two_right) [0, 1, 2, 3, 4, 5, 6, 7, 8] [0, 1, 2, 3, 4, 5, 6, 7, 8] [] false s__law_two_right := by
  obtain ⟨f__law_columns, fd__law_columns, m__law_columns, F__law_columns, B__law_columns, G__law_columns⟩ := c__law_columns.ex
  obtain ⟨f_is_within_shape, fd_is_within_shape, m_is_within_shape, F_is_within_shape, B_is_within_shape, G_is_within_shape⟩ := c_is_within_shape.ex
  have hu100 : (A.deeper (envOfC ("_law_two_right" : Str) (defScope st__law_two_right) s.heap.objs.size f cd)).units + 100 < cLine := by have := hr.un; omega
  have hu64 : (A.deeper (envOfC ("_law_two_right" : Str) (defScope st__law_two_right) s.heap.objs.size f cd)).units + 64 < cLine := by omega
  have hu1 : (A.deeper (envOfC ("_law_two_right" : Str) (defScope st__law_two_right) s.heap.objs.size f cd)).units + 1 < cLine := by omega
  have nd : ([("one" : Str), ("other" : Str), ("rows" : Str), ("first" : Str), ("second" : Str), ("columns" : Str), ("told" : Str), ("at" : Str), ("length" : Str)] : List Str).Nodup := by decide +kernel
  exact sss_wide (ss_cons (ss_set nd (i := 2) rfl (loc_of rfl) (.inl rfl) (nm rfl) (se_and (xLe (bLen (by rfl) (G.b_len) (se_var (i := 0) rfl (vis_of rfl) (by decide) (by decide) (nm rfl))) (bLen (by rfl) (G.b_len) (se_var (i := 1) rfl (vis_of rfl) (by decide) (by decide) (nm rfl)))) (pe_one (xEq hu64 (.inl rfl) (se_new (sn_lc (own := [(("at" : Str), 7), (("length" : Str), 8)]) (wb := []) (ws := [7, 8]) rfl nd (si_enum (by rfl) (G.b_enumerate) rfl (sq_of (se_var (i := 0) rfl (vis_of rfl) (by decide) (by decide) (nm rfl)))) (blkOk_by (by kernel_rfl)) (fun _ _ _ _ _ _ => (sg_tup rfl (sgs_cons (sg_name nd (i := 7) rfl (loc_of rfl) (by first | exact .inl rfl | exact .inr rfl) (nm rfl)) (sgs_cons (sg_name nd (i := 8) rfl (loc_of rfl) (by first | exact .inl rfl | exact .inr rfl) (nm rfl)) sgs_nil rfl) rfl) rfl rfl)) (fun _ _ _ _ _ _ => (sts_one (st_wide (w1 := []) (tGt_ (se_var (i := 8) rfl (vis_of rfl) (by decide) (by decide) (nm rfl)) (xIdx (by intro o i; rfl) (se_var (i := 1) rfl (vis_of rfl) (by decide) (by decide) (nm rfl)) (se_var (i := 7) rfl (vis_of rfl) (by decide) (by decide) (nm rfl)))) (am rfl)))) (fun _ _ _ _ _ _ => (se_wide (w1 := []) gInt_ (am rfl))) (an rfl) (am rfl) (am rfl) (an rfl) (by intro _; rfl))) (xLst sa_nil rfl)))) rfl)
  (ss_cons (ss_asg (xTup (xCons (se_call G__law_columns (hr.mono (by omega)) hgd (by rfl) m__law_columns F__law_columns.kp B__law_columns (by rfl) (by rfl) (xCons (se_var (i := 0) rfl (vis_of rfl) (by decide) (by decide) (nm rfl)) sa_nil) (by decide) (by rfl) (by rfl)) (xCons (se_call G__law_columns (hr.mono (by omega)) hgd (by rfl) m__law_columns F__law_columns.kp B__law_columns (by rfl) (by rfl) (xCons (se_var (i := 1) rfl (vis_of rfl) (by decide) (by decide) (nm rfl)) sa_nil) (by decide) (by rfl) (by rfl)) sa_nil)) rfl) (sg_tup rfl (sgs_cons (sg_name nd (i := 3) rfl (loc_of rfl) (by first | exact .inl rfl | exact .inr rfl) (nm rfl)) (sgs_cons (sg_name nd (i := 4) rfl (loc_of rfl) (by first | exact .inl rfl | exact .inr rfl) (nm rfl)) sgs_nil rfl) rfl) rfl rfl) rfl rfl rfl)
  (ss_cons (ss_set nd (i := 5) rfl (loc_of rfl) (.inl rfl) (nm rfl) (se_and (xLe (bLen (by rfl) (G.b_len) (se_var (i := 3) rfl (vis_of rfl) (by decide) (by decide) (nm rfl))) (bLen (by rfl) (G.b_len) (se_var (i := 4) rfl (vis_of rfl) (by decide) (by decide) (nm rfl)))) (pe_one (xEq hu64 (.inl rfl) (se_new (sn_lc (own := [(("at" : Str), 7), (("length" : Str), 8)]) (wb := []) (ws := [7, 8]) rfl nd (si_enum (by rfl) (G.b_enumerate) rfl (sq_of (se_var (i := 3) rfl (vis_of rfl) (by decide) (by decide) (nm rfl)))) (blkOk_by (by kernel_rfl)) (fun _ _ _ _ _ _ => (sg_tup rfl (sgs_cons (sg_name nd (i := 7) rfl (loc_of rfl) (by first | exact .inl rfl | exact .inr rfl) (nm rfl)) (sgs_cons (sg_name nd (i := 8) rfl (loc_of rfl) (by first | exact .inl rfl | exact .inr rfl) (nm rfl)) sgs_nil rfl) rfl) rfl rfl)) (fun _ _ _ _ _ _ => (sts_one (st_wide (w1 := []) (tGt_ (se_var (i := 8) rfl (vis_of rfl) (by decide) (by decide) (nm rfl)) (xIdx (by intro o i; rfl) (se_var (i := 4) rfl (vis_of rfl) (by decide) (by decide) (nm rfl)) (se_var (i := 7) rfl (vis_of rfl) (by decide) (by decide) (nm rfl)))) (am rfl)))) (fun _ _ _ _ _ _ => (se_wide (w1 := []) gInt_ (am rfl))) (an rfl) (am rfl) (am rfl) (an rfl) (by intro _; rfl))) (xLst sa_nil rfl)))) rfl)
  (ss_cons (ss_set nd (i := 6) rfl (loc_of rfl) (.inl rfl) (nm rfl) (xLst (xCons (se_call G_is_within_shape (hr.mono (by omega)) hgd (by rfl) m_is_within_shape F_is_within_shape.kp B_is_within_shape (by rfl) (by rfl) (xCons (se_var (i := 0) rfl (vis_of rfl) (by decide) (by decide) (nm rfl)) (xCons (se_var (i := 1) rfl (vis_of rfl) (by decide) (by decide) (nm rfl)) sa_nil)) (by decide) (by rfl) (by rfl)) (xCons (se_callK0 G_is_within_shape (hr.mono (by omega)) hgd (by rfl) m_is_within_shape F_is_within_shape.kp (kwB (ks := [("other" : Str), ("shape" : Str)]) (ix := [1, 0]) F_is_within_shape (fun _ _ _ _ _ _ us ws h1 h2 => match us, ws, h1, h2 with | [], [_, _], _, _ => rfl)) (by rfl) (by rfl) (fun ds es h1 h2 => match ds, es, h1, h2 with | [], [_, _], _, _ => rfl) (sk_cons (se_var (i := 1) rfl (vis_of rfl) (by decide) (by decide) (nm rfl)) (sk_cons (se_var (i := 0) rfl (vis_of rfl) (by decide) (by decide) (nm rfl)) sk_nil (.inl rfl)) (.inl rfl)) (by rfl) (by rfl) (by decide) (by rfl)) sa_nil)) rfl) rfl)
  (ss_cons (ss_ret (se_and (xEq hu64 (.inl rfl) (bRepr hgd hu100 (by rfl) (G.b_repr) (se_var (i := 6) rfl (vis_of rfl) (by decide) (by decide) (nm rfl))) (bRepr hgd hu100 (by rfl) (G.b_repr) (xLst (xCons (se_var (i := 2) rfl (vis_of rfl) (by decide) (by decide) (nm rfl)) (xCons (se_var (i := 2) rfl (vis_of rfl) (by decide) (by decide) (nm rfl)) sa_nil)) rfl))) (se_and (xEq hu64 (.inl rfl) (se_var (i := 2) rfl (vis_of rfl) (by decide) (by decide) (nm rfl)) (se_var (i := 5) rfl (vis_of rfl) (by decide) (by decide) (nm rfl))) (pe_one (se_or (se_not (se_and (se_var (i := 2) rfl (vis_of rfl) (by decide) (by decide) (nm rfl)) (pe_one (se_call G_is_within_shape (hr.mono (by omega)) hgd (by rfl) m_is_within_shape F_is_within_shape.kp B_is_within_shape (by rfl) (by rfl) (xCons (se_var (i := 1) rfl (vis_of rfl) (by decide) (by decide) (nm rfl)) (xCons (se_var (i := 0) rfl (vis_of rfl) (by decide) (by decide) (nm rfl)) sa_nil)) (by decide) (by rfl) (by rfl))))) (pe_one (xEq hu64 (.inl rfl) (se_var (i := 0) rfl (vis_of rfl) (by decide) (by decide) (nm rfl)) (se_var (i := 1) rfl (vis_of rfl) (by decide) (by decide) (nm rfl)))))))))
  ss_nil))))) (am rfl) (am rfl)
theorem k__law_two_right {P : Program} {w : World} {K : PySem.W.Frag} {mg : Str → Option Value} {base : Heap} {f : Addr} {fd : FuncData} (G : Gm mg) (c__law_columns : Ct P w K mg base 1 ("_law_columns" : Str) st__law_columns [("shape" : Str)] (spF 1 [] false g__law_columns)) (c_is_within_shape : Ct P w K mg base 5 ("is_within_shape" : Str) st_is_within_shape [("shape" : Str), ("other" : Str)] (spF 2 [] false g_is_within_shape)) (m : mg ("_law_two_right" : Str) = some (.ref f)) (F : FunD K ("_law_two_right" : Str) ("_law_two_right" : Str) (defArgs st__law_two_right) (defBody st__law_two_right) (defScope st__law_two_right) [] [] f fd) : FnG P w K mg base 6 f fd [("one" : Str), ("other" : Str)] (spF 2 [] false g__law_two_right) :=
  fn_rule (N := [("one" : Str), ("other" : Str), ("rows" : Str), ("first" : Str), ("second" : Str), ("columns" : Str), ("told" : Str), ("at" : Str), ("length" : Str)]) (ps := [("one" : Str), ("other" : Str)]) F ⟨rfl, rfl, rfl, by decide +kernel, rfl, by decide +kernel, by decide +kernel⟩ (b__law_two_right G c__law_columns c_is_within_shape) (by decide) (by decide) (by decide)
theorem n__law_two_right {K : PySem.W.Frag} {f : Addr} {fd : FuncData} (F : FunD K ("_law_two_right" : Str) ("_law_two_right" : Str) (defArgs st__law_two_right) (defBody st__law_two_right) (defScope st__law_two_right) [] [] f fd) : Binds K fd [("one" : Str), ("other" : Str)] [] :=
  F.bindsN (fun _ _ _ _ _ _ us hl => match us, hl with | [_, _], _ => rfl)
theorem o__law_two_right {P : Program} {w : World} {K : PySem.W.Frag} {mg : Str → Option Value} {base : Heap} {f : Addr} {fd : FuncData} (G : Gm mg) (c__law_columns : Ct P w K mg base 1 ("_law_columns" : Str) st__law_columns [("shape" : Str)] (spF 1 [] false g__law_columns)) (c_is_within_shape : Ct P w K mg base 5 ("is_within_shape" : Str) st_is_within_shape [("shape" : Str), ("other" : Str)] (spF 2 [] false g_is_within_shape)) (m : mg ("_law_two_right" : Str) = some (.ref f)) (F : FunD K ("_law_two_right" : Str) ("_law_two_right" : Str) (defArgs st__law_two_right) (defBody st__law_two_right) (defScope st__law_two_right) [] [] f fd) : Ct P w K mg base 6 ("_law_two_right" : Str) st__law_two_right [("one" : Str), ("other" : Str)] (spF 2 [] false g__law_two_right) :=
  ⟨f, fd, m, F, n__law_two_right F, k__law_two_right G c__law_columns c_is_within_shape m F⟩
/-! ### _law_right -/
abbrev st__law_right : Stmt := top 42
def s__law_right : CM := (cSeq (cSet 1 (mCall1 0 g__law_shape (mCons (mC (.int 30)) mNil))) (cSeq (cAsg (bTup 4 (bCons (bName 2) (bCons (bName 3) (bCons (bName 4) (bCons (bName 5) bNil))))) (mL gTup (mCons (mC (.int 0)) (mCons (mCall0 g__law_columns (mCons (mVar 1) mNil)) (mCons (mCall0 g__law_corners (mCons (mVar 1) mNil)) (mCons (mCall0 g__law_spots (mCons (mVar 1) mNil)) mNil)))))) (cSeq (cForS (mIt (mVar 1)) (bName 6) (cSeq (cForS (mRg gR1 (mCons (mVar 6) mNil)) (bName 7) (cSeq (cSet 2 (m2 gAdd (mVar 2) (mC (.int 1)))) cNx)) cNx)) (cSeq (cIf (m2 gNe (mL (g1 gRepr) (mCons (mL gLst (mCons (mCall0 g_size_of (mCons (mVar 1) mNil)) (mCons (mCall0 g_turned_shape (mCons (mVar 1) mNil)) (mCons (mCall0 g_corners_of (mCons (mVar 1) mNil)) (mCons (mCall0 g_spots_of (mCons (mVar 1) mNil)) mNil))))) mNil)) (mL (g1 gRepr) (mCons (mL gLst (mCons (mVar 2) (mCons (mVar 3) (mCons (mVar 4) (mCons (mVar 5) mNil))))) mNil))) (cSeq (cRet (mC (.bool false))) cNx) cNx) (cSeq (cIf (m2 gNe (mL (g1 gRepr) (mCons (mL gLst (mCons (mCall0 g_size_of (mPick [0] mNil (mCons (mVar 1) mNil))) (mCons (mCall0 g_turned_shape (mPick [0] mNil (mCons (mVar 1) mNil))) (mCons (mCall0 g_corners_of (mPick [0] mNil (mCons (mVar 1) mNil))) (mCons (mCall0 g_spots_of (mPick [0] mNil (mCons (mVar 1) mNil))) mNil))))) mNil)) (mL (g1 gRepr) (mCons (mL gLst (mCons (mVar 2) (mCons (mVar 3) (mCons (mVar 4) (mCons (mVar 5) mNil))))) mNil))) (cSeq (cRet (mC (.bool false))) cNx) cNx) (cSeq (cIf (mOr (mAnd (m2 gIs (mCall0 g_is_shape (mCons (mVar 3) mNil)) (mC (.bool true))) (m2 gNe (mCall0 g_turned_shape (mCons (mVar 3) mNil)) (mVar 1))) (m2 gNe (m2 gIsN (mCall0 g_is_shape (mCons (mVar 3) mNil)) (mC (.bool true))) (m2 gGt (mL (g1 gLen) (mCons (mVar 3) mNil)) (mC (.int 9))))) (cSeq (cRet (mC (.bool false))) cNx) cNx) (cSeq (cIf (mOr (m2 gNe (mL (g1 gLen) (mCons (mVar 4) mNil)) (m1 gLenSet (mVar 1))) (m2 gNe (mL (g1 gLen) (mCons (mVar 5) mNil)) (m2 gSub (m2 gAdd (mL (g1 gLen) (mCons (mVar 4) mNil)) (mC (.int 1))) (mL (g1 FV.gInt) (mCons (m2 gEq (mL (g1 gLen) (mCons (mVar 1) mNil)) (mC (.int 9))) mNil))))) (cSeq (cRet (mC (.bool false))) cNx) cNx) (cSeq (cForS (mIt (mVar 4)) (bName 8) (cSeq (cSet 9 (mCall0 g__law_without (mCons (mVar 1) (mCons (mVar 8) mNil)))) (cSeq (cIf (mOr (m2 gIsN (mCall0 g_is_shape (mCons (mVar 9) mNil)) (mC (.bool true))) (mOr (m2 (gIn true) (mVar 8) (mCall0 g_spots_of (mCons (mVar 9) mNil))) (mOr (m2 gNe (mCall0 g_size_of (mCons (mVar 9) mNil)) (m2 gSub (mVar 2) (mC (.int 1)))) (m1 gNot (mCall0 g_is_within_shape (mCons (mVar 9) (mCons (mVar 1) mNil))))))) (cSeq (cRet (mC (.bool false))) cNx) cNx) cNx))) (cSeq (cForS (mIt (mIf (m2 gLt (mVar 2) (mC (.int 30))) (mVar 5) (mL gTup mNil))) (bName 8) (cSeq (cSet 10 (mCall0 g__law_with (mCons (mVar 1) (mCons (mVar 8) mNil)))) (cSeq (cIf (mOr (m2 gIsN (mCall0 g_is_shape (mCons (mVar 10) mNil)) (mC (.bool true))) (mOr (m2 (gIn true) (mVar 8) (mCall0 g_corners_of (mCons (mVar 10) mNil))) (m1 gNot (mCall0 g_is_within_shape (mCons (mVar 1) (mCons (mVar 10) mNil)))))) (cSeq (cRet (mC (.bool false))) cNx) cNx) cNx))) (cSeq (cSet 11 (mCall1 0 g__law_near (mCons (mVar 1) mNil))) (cSeq (cRet (mAnd (mCall0 g__law_two_right (mCons (mVar 1) (mCons (mVar 11) mNil))) (mAnd (mCall0 g__law_two_right (mCons (mVar 11) (mCons (mVar 1) mNil))) (mAnd (mCall0 g__law_two_right (mCons (mVar 1) (mCons (mVar 1) mNil))) (m2 gIs (mCall0 g_is_within_shape (mCons (mL gTup mNil) (mCons (mVar 1) mNil))) (mC (.bool true))))))) cNx)))))))))))
def g__law_right : SM := gFn false [0] 11 s__law_right
theorem b__law_right {P : Program} {w : World} {K : PySem.W.Frag} {mg : Str → Option Value} {base : Heap} {f : Addr} (G : Gm mg) (c__law_columns : Ct P w K mg base 1 ("_law_columns" : Str) st__law_columns [("shape" : Str)] (spF 1 [] false g__law_columns)) (c__law_corners : Ct P w K mg base 2 ("_law_corners" : Str) st__law_corners [("shape" : Str)] (spF 1 [] false g__law_corners)) (c__law_near : Ct P w K mg base 4 ("_law_near" : Str) st__law_near [("feed" : Str), ("shape" : Str)] (spF 2 [0] false g__law_near)) (c__law_shape : Ct P w K mg base 3 ("_law_shape" : Str) st__law_shape [("feed" : Str), ("most" : Str)] (spF 2 [0] false g__law_shape)) (c__law_spots : Ct P w K mg base 2 ("_law_spots" : Str) st__law_spots [("shape" : Str)] (spF 1 [] false g__law_spots)) (c__law_two_right : Ct P w K mg base 6 ("_law_two_right" : Str) st__law_two_right [("one" : Str), ("other" : Str)] (spF 2 [] false g__law_two_right)) (c__law_with : Ct P w K mg base 1 ("_law_with" : Str) st__law_with [("shape" : Str), ("row" : Str)] (spF 2 [] false g__law_with)) (c__law_without : Ct P w K mg base 1 ("_law_without" : Str) st__law_without [("shape" : Str), ("row" : Str)] (spF 2 [] false g__law_without)) (c_corners_of : Ct P w K mg base 5 ("corners_of" : Str) st_corners_of [("shape" : Str)] (spF 1 [] false g_corners_of)) (c_is_shape : Ct P w K mg base 4 ("is_shape" : Str) st_is_shape [("thing" : Str)] (spF 1 [] false g_is_shape)) (c_is_within_shape : Ct P w K mg base 5 ("is_within_shape" : Str) st_is_within_shape [("shape" : Str), ("other" : Str)] (spF 2 [] false g_is_within_shape)) (c_size_of : Ct P w K mg base 5 ("size_of" : Str) st_size_of [("shape" : Str)] (spF 1 [] false g_size_of)) (c_spots_of : Ct P w K mg base 5 ("spots_of" : Str) st_spots_of [("shape" : Str)] (spF 1 [] false g_spots_of)) (c_turned_shape : Ct P w K mg base 5 ("turned_shape" : Str) st_turned_shape [("shape" : Str)] (spF 1 [] false g_turned_shape)) (Fa : Addr → Prop) (cd : Value) (A : Around) (outer : List Env) (s : Shared) (H : Hp)
    (hr : Room 6 (A.deeper (envOfC ("_law_right" : Str) (defScope st__law_right) s.heap.objs.size f cd))) (hgd : A.guards = some []) : SSs ⟨[0] ++ [], [0] ++ [], Fa, []⟩ (cxG P w K mg base [("feed" : Str), ("shape" : Str), ("total" : Str), ("columns" : Str), ("corners" : Str), ("spots" : Str), ("length" : Str), ("place" : Str), ("row" : Str), ("less" : Str), ("more" : Str), ("other" : Str)] ("_law_right" : Str) (defScope st__law_right) f cd A outer s H) (defBody st__law_right) [0, 1, 2, 3, 4, 5, 6, 7, 8, 9, 10, 11] [1, 2, 3, 4, 5, 6, 7, 8, 9, 10, 11] [] false s__law_right := by
  obtain ⟨f__law_columns, fd__law_columns, m__law_columns, F__law_columns, B__law_columns, G__law_columns⟩ := c__law_columns.ex
  obtain ⟨f__law_corners, fd__law_corners, m__law_corners, F__law_corners, B__law_corners, G__law_corners⟩ := c__law_corners.ex
  obtain ⟨f__law_near, fd__law_near, m__law_near, F__law_near, B__law_near, G__law_near⟩ := c__law_near.ex
  obtain ⟨f__law_shape, fd__law_shape, m__law_shape, F__law_shape, B__law_shape, G__law_shape⟩ := c__law_shape.ex
  obtain ⟨f__law_spots, fd__law_spots, m__law_spots, F__law_spots, B__law_spots, G__law_spots⟩ := c__law_spots.ex
  obtain ⟨f__law_two_right, fd__law_two_right, m__law_two_right, F__law_two_right, B__law_two_right, G__law_two_right⟩ := c__law_two_right.ex
  obtain ⟨f__law_with, fd__law_with, m__law_with, F__law_with, B__law_with, G__law_with⟩ := c__law_with.ex
  obtain ⟨f__law_without, fd__law_without, m__law_without, F__law_without, B__law_without, G__law_without⟩ := c__law_without.ex
  obtain ⟨f_corners_of, fd_corners_of, m_corners_of, F_corners_of, B_corners_of, G_corners_of⟩ := c_corners_of.ex
  obtain ⟨f_is_shape, fd_is_shape, m_is_shape, F_is_shape, B_is_shape, G_is_shape⟩ := c_is_shape.ex
  obtain ⟨f_is_within_shape, fd_is_within_shape, m_is_within_shape, F_is_within_shape, B_is_within_shape, G_is_within_shape⟩ := c_is_within_shape.ex
  obtain ⟨f_size_of, fd_size_of, m_size_of, F_size_of, B_size_of, G_size_of⟩ := c_size_of.ex
  obtain ⟨f_spots_of, fd_spots_of, m_spots_of, F_spots_of, B_spots_of, G_spots_of⟩ := c_spots_of.ex
  obtain ⟨f_turned_shape, fd_turned_shape, m_turned_shape, F_turned_shape, B_turned_shape, G_turned_shape⟩ := c_turned_shape.ex
  have hu100 : (A.deeper (envOfC ("_law_right" : Str) (defScope st__law_right) s.heap.objs.size f cd)).units + 100 < cLine := by have := hr.un; omega
  have hu64 : (A.deeper (envOfC ("_law_right" : Str) (defScope st__law_right) s.heap.objs.size f cd)).units + 64 < cLine := by omega
  have hu1 : (A.deeper (envOfC ("_law_right" : Str) (defScope st__law_right) s.heap.objs.size f cd)).units + 1 < cLine := by omega
  have nd : ([("feed" : Str), ("shape" : Str), ("total" : Str), ("columns" : Str), ("corners" : Str), ("spots" : Str), ("length" : Str), ("place" : Str), ("row" : Str), ("less" : Str), ("more" : Str), ("other" : Str)] : List Str).Nodup := by decide +kernel
  exact sss_wide (ss_cons (ss_set nd (i := 1) rfl (loc_of rfl) (.inl rfl) (nm rfl) (se_call1 G__law_shape (hr.mono (by omega)) hgd (by rfl) m__law_shape F__law_shape.kp B__law_shape (i := 0) rfl (vis_of rfl) (by decide) (by decide) (ym rfl) (ym rfl) (by rfl) (by rfl) (xCons gInt_ sa_nil) (by decide) (by rfl) (by rfl)) rfl)
  (ss_cons (ss_asg (xTup (xCons gInt_ (xCons (se_call G__law_columns (hr.mono (by omega)) hgd (by rfl) m__law_columns F__law_columns.kp B__law_columns (by rfl) (by rfl) (xCons (se_var (i := 1) rfl (vis_of rfl) (by decide) (by decide) (nm rfl)) sa_nil) (by decide) (by rfl) (by rfl)) (xCons (se_call G__law_corners (hr.mono (by omega)) hgd (by rfl) m__law_corners F__law_corners.kp B__law_corners (by rfl) (by rfl) (xCons (se_var (i := 1) rfl (vis_of rfl) (by decide) (by decide) (nm rfl)) sa_nil) (by decide) (by rfl) (by rfl)) (xCons (se_call G__law_spots (hr.mono (by omega)) hgd (by rfl) m__law_spots F__law_spots.kp B__law_spots (by rfl) (by rfl) (xCons (se_var (i := 1) rfl (vis_of rfl) (by decide) (by decide) (nm rfl)) sa_nil) (by decide) (by rfl) (by rfl)) sa_nil)))) rfl) (sg_tup rfl (sgs_cons (sg_name nd (i := 2) rfl (loc_of rfl) (by first | exact .inl rfl | exact .inr rfl) (nm rfl)) (sgs_cons (sg_name nd (i := 3) rfl (loc_of rfl) (by first | exact .inl rfl | exact .inr rfl) (nm rfl)) (sgs_cons (sg_name nd (i := 4) rfl (loc_of rfl) (by first | exact .inl rfl | exact .inr rfl) (nm rfl)) (sgs_cons (sg_name nd (i := 5) rfl (loc_of rfl) (by first | exact .inl rfl | exact .inr rfl) (nm rfl)) sgs_nil rfl) rfl) rfl) rfl) rfl rfl) rfl rfl rfl)
  (ss_cons (ss_for PassesOwn.never rfl (si_seq (sq_of (se_var (i := 1) rfl (vis_of rfl) (by decide) (by decide) (nm rfl)))) (sg_name nd (i := 6) rfl (loc_of rfl) (by first | exact .inl rfl | exact .inr rfl) (nm rfl))
  (ss_cons (ss_for PassesOwn.never rfl (si_range1 (lk := []) (by rfl) (G.b_range) rfl (xCons (se_var (i := 6) rfl (vis_of rfl) (by decide) (by decide) (nm rfl)) sa_nil)) (sg_name nd (i := 7) rfl (loc_of rfl) (by first | exact .inl rfl | exact .inr rfl) (nm rfl))
  (ss_cons (ss_set nd (i := 2) rfl (loc_of rfl) (.inl rfl) (nm rfl) (xAdd (se_var (i := 2) rfl (vis_of rfl) (by decide) (by decide) (nm rfl)) gInt_) rfl)
  ss_nil) (an rfl) (by intro _; rfl))
  ss_nil) (an rfl) (by intro _; rfl))
  (ss_cons (ss_if (tNe_ hu64 (.inl rfl) (bRepr hgd hu100 (by rfl) (G.b_repr) (xLst (xCons (se_call G_size_of (hr.mono (by omega)) hgd (by rfl) m_size_of F_size_of.kp B_size_of (by rfl) (by rfl) (xCons (se_var (i := 1) rfl (vis_of rfl) (by decide) (by decide) (nm rfl)) sa_nil) (by decide) (by rfl) (by rfl)) (xCons (se_call G_turned_shape (hr.mono (by omega)) hgd (by rfl) m_turned_shape F_turned_shape.kp B_turned_shape (by rfl) (by rfl) (xCons (se_var (i := 1) rfl (vis_of rfl) (by decide) (by decide) (nm rfl)) sa_nil) (by decide) (by rfl) (by rfl)) (xCons (se_call G_corners_of (hr.mono (by omega)) hgd (by rfl) m_corners_of F_corners_of.kp B_corners_of (by rfl) (by rfl) (xCons (se_var (i := 1) rfl (vis_of rfl) (by decide) (by decide) (nm rfl)) sa_nil) (by decide) (by rfl) (by rfl)) (xCons (se_call G_spots_of (hr.mono (by omega)) hgd (by rfl) m_spots_of F_spots_of.kp B_spots_of (by rfl) (by rfl) (xCons (se_var (i := 1) rfl (vis_of rfl) (by decide) (by decide) (nm rfl)) sa_nil) (by decide) (by rfl) (by rfl)) sa_nil)))) rfl)) (bRepr hgd hu100 (by rfl) (G.b_repr) (xLst (xCons (se_var (i := 2) rfl (vis_of rfl) (by decide) (by decide) (nm rfl)) (xCons (se_var (i := 3) rfl (vis_of rfl) (by decide) (by decide) (nm rfl)) (xCons (se_var (i := 4) rfl (vis_of rfl) (by decide) (by decide) (nm rfl)) (xCons (se_var (i := 5) rfl (vis_of rfl) (by decide) (by decide) (nm rfl)) sa_nil)))) rfl)))
  (ss_cons (ss_ret gBl_)
  ss_nil)
  ss_nil)
  (ss_cons (ss_if (tNe_ hu64 (.inl rfl) (bRepr hgd hu100 (by rfl) (G.b_repr) (xLst (xCons (se_callK0 G_size_of (hr.mono (by omega)) hgd (by rfl) m_size_of F_size_of.kp (kwB (ks := [("shape" : Str)]) (ix := [0]) F_size_of (fun _ _ _ _ _ _ us ws h1 h2 => match us, ws, h1, h2 with | [], [_], _, _ => rfl)) (by rfl) (by rfl) (fun ds es h1 h2 => match ds, es, h1, h2 with | [], [_], _, _ => rfl) (sk_cons (se_var (i := 1) rfl (vis_of rfl) (by decide) (by decide) (nm rfl)) sk_nil (.inl rfl)) (by rfl) (by rfl) (by decide) (by rfl)) (xCons (se_callK0 G_turned_shape (hr.mono (by omega)) hgd (by rfl) m_turned_shape F_turned_shape.kp (kwB (ks := [("shape" : Str)]) (ix := [0]) F_turned_shape (fun _ _ _ _ _ _ us ws h1 h2 => match us, ws, h1, h2 with | [], [_], _, _ => rfl)) (by rfl) (by rfl) (fun ds es h1 h2 => match ds, es, h1, h2 with | [], [_], _, _ => rfl) (sk_cons (se_var (i := 1) rfl (vis_of rfl) (by decide) (by decide) (nm rfl)) sk_nil (.inl rfl)) (by rfl) (by rfl) (by decide) (by rfl)) (xCons (se_callK0 G_corners_of (hr.mono (by omega)) hgd (by rfl) m_corners_of F_corners_of.kp (kwB (ks := [("shape" : Str)]) (ix := [0]) F_corners_of (fun _ _ _ _ _ _ us ws h1 h2 => match us, ws, h1, h2 with | [], [_], _, _ => rfl)) (by rfl) (by rfl) (fun ds es h1 h2 => match ds, es, h1, h2 with | [], [_], _, _ => rfl) (sk_cons (se_var (i := 1) rfl (vis_of rfl) (by decide) (by decide) (nm rfl)) sk_nil (.inl rfl)) (by rfl) (by rfl) (by decide) (by rfl)) (xCons (se_callK0 G_spots_of (hr.mono (by omega)) hgd (by rfl) m_spots_of F_spots_of.kp (kwB (ks := [("shape" : Str)]) (ix := [0]) F_spots_of (fun _ _ _ _ _ _ us ws h1 h2 => match us, ws, h1, h2 with | [], [_], _, _ => rfl)) (by rfl) (by rfl) (fun ds es h1 h2 => match ds, es, h1, h2 with | [], [_], _, _ => rfl) (sk_cons (se_var (i := 1) rfl (vis_of rfl) (by decide) (by decide) (nm rfl)) sk_nil (.inl rfl)) (by rfl) (by rfl) (by decide) (by rfl)) sa_nil)))) rfl)) (bRepr hgd hu100 (by rfl) (G.b_repr) (xLst (xCons (se_var (i := 2) rfl (vis_of rfl) (by decide) (by decide) (nm rfl)) (xCons (se_var (i := 3) rfl (vis_of rfl) (by decide) (by decide) (nm rfl)) (xCons (se_var (i := 4) rfl (vis_of rfl) (by decide) (by decide) (nm rfl)) (xCons (se_var (i := 5) rfl (vis_of rfl) (by decide) (by decide) (nm rfl)) sa_nil)))) rfl)))
  (ss_cons (ss_ret gBl_)
  ss_nil)
  ss_nil)
  (ss_cons (ss_if (PW.pt (sw_or (PW.pt (sw_and (tIs_ (.inl rfl) (se_call G_is_shape (hr.mono (by omega)) hgd (by rfl) m_is_shape F_is_shape.kp B_is_shape (by rfl) (by rfl) (xCons (se_var (i := 3) rfl (vis_of rfl) (by decide) (by decide) (nm rfl)) sa_nil) (by decide) (by rfl) (by rfl)) gBl_) (pw_and1 (tNe_ hu64 (.inl rfl) (se_call G_turned_shape (hr.mono (by omega)) hgd (by rfl) m_turned_shape F_turned_shape.kp B_turned_shape (by rfl) (by rfl) (xCons (se_var (i := 3) rfl (vis_of rfl) (by decide) (by decide) (nm rfl)) sa_nil) (by decide) (by rfl) (by rfl)) (se_var (i := 1) rfl (vis_of rfl) (by decide) (by decide) (nm rfl)))))) (pw_or1 (tNe_ hu64 (.inl rfl) (xIsN (.inl rfl) (se_call G_is_shape (hr.mono (by omega)) hgd (by rfl) m_is_shape F_is_shape.kp B_is_shape (by rfl) (by rfl) (xCons (se_var (i := 3) rfl (vis_of rfl) (by decide) (by decide) (nm rfl)) sa_nil) (by decide) (by rfl) (by rfl)) gBl_) (xGt (bLen (by rfl) (G.b_len) (se_var (i := 3) rfl (vis_of rfl) (by decide) (by decide) (nm rfl))) gInt_)))))
  (ss_cons (ss_ret gBl_)
  ss_nil)
  ss_nil)
  (ss_cons (ss_if (PW.pt (sw_or (tNe_ hu64 (.inl rfl) (bLen (by rfl) (G.b_len) (se_var (i := 4) rfl (vis_of rfl) (by decide) (by decide) (nm rfl))) (se_lenSet (by rfl) (by rfl) (G.b_len) (by rfl) (G.b_set) (by rfl) (se_var (i := 1) rfl (vis_of rfl) (by decide) (by decide) (nm rfl)))) (pw_or1 (tNe_ hu64 (.inl rfl) (bLen (by rfl) (G.b_len) (se_var (i := 5) rfl (vis_of rfl) (by decide) (by decide) (nm rfl))) (xSub (xAdd (bLen (by rfl) (G.b_len) (se_var (i := 4) rfl (vis_of rfl) (by decide) (by decide) (nm rfl))) gInt_) (bInt (by rfl) (G.b_int) (xEq hu64 (.inl rfl) (bLen (by rfl) (G.b_len) (se_var (i := 1) rfl (vis_of rfl) (by decide) (by decide) (nm rfl))) gInt_)))))))
  (ss_cons (ss_ret gBl_)
  ss_nil)
  ss_nil)
  (ss_cons (ss_for PassesOwn.never rfl (si_seq (sq_of (se_var (i := 4) rfl (vis_of rfl) (by decide) (by decide) (nm rfl)))) (sg_name nd (i := 8) rfl (loc_of rfl) (by first | exact .inl rfl | exact .inr rfl) (nm rfl))
  (ss_cons (ss_set nd (i := 9) rfl (loc_of rfl) (.inl rfl) (nm rfl) (se_call G__law_without (hr.mono (by omega)) hgd (by rfl) m__law_without F__law_without.kp B__law_without (by rfl) (by rfl) (xCons (se_var (i := 1) rfl (vis_of rfl) (by decide) (by decide) (nm rfl)) (xCons (se_var (i := 8) rfl (vis_of rfl) (by decide) (by decide) (nm rfl)) sa_nil)) (by decide) (by rfl) (by rfl)) rfl)
  (ss_cons (ss_if (PW.pt (sw_or (tIsN_ (.inl rfl) (se_call G_is_shape (hr.mono (by omega)) hgd (by rfl) m_is_shape F_is_shape.kp B_is_shape (by rfl) (by rfl) (xCons (se_var (i := 9) rfl (vis_of rfl) (by decide) (by decide) (nm rfl)) sa_nil) (by decide) (by rfl) (by rfl)) gBl_) (sw_or (tNin_ (by with_unfolding_all rfl) (.inl rfl) (se_var (i := 8) rfl (vis_of rfl) (by decide) (by decide) (nm rfl)) (se_call G_spots_of (hr.mono (by omega)) hgd (by rfl) m_spots_of F_spots_of.kp B_spots_of (by rfl) (by rfl) (xCons (se_var (i := 9) rfl (vis_of rfl) (by decide) (by decide) (nm rfl)) sa_nil) (by decide) (by rfl) (by rfl))) (sw_or (tNe_ hu64 (.inl rfl) (se_call G_size_of (hr.mono (by omega)) hgd (by rfl) m_size_of F_size_of.kp B_size_of (by rfl) (by rfl) (xCons (se_var (i := 9) rfl (vis_of rfl) (by decide) (by decide) (nm rfl)) sa_nil) (by decide) (by rfl) (by rfl)) (xSub (se_var (i := 2) rfl (vis_of rfl) (by decide) (by decide) (nm rfl)) gInt_)) (pw_or1 (st_not (gVal (se_call G_is_within_shape (hr.mono (by omega)) hgd (by rfl) m_is_within_shape F_is_within_shape.kp B_is_within_shape (by rfl) (by rfl) (xCons (se_var (i := 9) rfl (vis_of rfl) (by decide) (by decide) (nm rfl)) (xCons (se_var (i := 1) rfl (vis_of rfl) (by decide) (by decide) (nm rfl)) sa_nil)) (by decide) (by rfl) (by rfl)))))))))
  (ss_cons (ss_ret gBl_)
  ss_nil)
  ss_nil)
  ss_nil)) (an rfl) (by intro _; rfl))
  (ss_cons (ss_for PassesOwn.never rfl (si_seq (sq_of (se_if (tLt_ (se_var (i := 2) rfl (vis_of rfl) (by decide) (by decide) (nm rfl)) gInt_) (se_var (i := 5) rfl (vis_of rfl) (by decide) (by decide) (nm rfl)) (xTup sa_nil rfl)))) (sg_name nd (i := 8) rfl (loc_of rfl) (by first | exact .inl rfl | exact .inr rfl) (nm rfl))
  (ss_cons (ss_set nd (i := 10) rfl (loc_of rfl) (.inl rfl) (nm rfl) (se_call G__law_with (hr.mono (by omega)) hgd (by rfl) m__law_with F__law_with.kp B__law_with (by rfl) (by rfl) (xCons (se_var (i := 1) rfl (vis_of rfl) (by decide) (by decide) (nm rfl)) (xCons (se_var (i := 8) rfl (vis_of rfl) (by decide) (by decide) (nm rfl)) sa_nil)) (by decide) (by rfl) (by rfl)) rfl)
  (ss_cons (ss_if (PW.pt (sw_or (tIsN_ (.inl rfl) (se_call G_is_shape (hr.mono (by omega)) hgd (by rfl) m_is_shape F_is_shape.kp B_is_shape (by rfl) (by rfl) (xCons (se_var (i := 10) rfl (vis_of rfl) (by decide) (by decide) (nm rfl)) sa_nil) (by decide) (by rfl) (by rfl)) gBl_) (sw_or (tNin_ (by with_unfolding_all rfl) (.inl rfl) (se_var (i := 8) rfl (vis_of rfl) (by decide) (by decide) (nm rfl)) (se_call G_corners_of (hr.mono (by omega)) hgd (by rfl) m_corners_of F_corners_of.kp B_corners_of (by rfl) (by rfl) (xCons (se_var (i := 10) rfl (vis_of rfl) (by decide) (by decide) (nm rfl)) sa_nil) (by decide) (by rfl) (by rfl))) (pw_or1 (st_not (gVal (se_call G_is_within_shape (hr.mono (by omega)) hgd (by rfl) m_is_within_shape F_is_within_shape.kp B_is_within_shape (by rfl) (by rfl) (xCons (se_var (i := 1) rfl (vis_of rfl) (by decide) (by decide) (nm rfl)) (xCons (se_var (i := 10) rfl (vis_of rfl) (by decide) (by decide) (nm rfl)) sa_nil)) (by decide) (by rfl) (by rfl))))))))
  (ss_cons (ss_ret gBl_)
  ss_nil)
  ss_nil)
  ss_nil)) (an rfl) (by intro _; rfl))
  (ss_cons (ss_set nd (i := 11) rfl (loc_of rfl) (.inl rfl) (nm rfl) (se_call1 G__law_near (hr.mono (by omega)) hgd (by rfl) m__law_near F__law_near.kp B__law_near (i := 0) rfl (vis_of rfl) (by decide) (by decide) (ym rfl) (ym rfl) (by rfl) (by rfl) (xCons (se_var (i := 1) rfl (vis_of rfl) (by decide) (by decide) (nm rfl)) sa_nil) (by decide) (by rfl) (by rfl)) rfl)
  (ss_cons (ss_ret (se_and (se_call G__law_two_right (hr.mono (by omega)) hgd (by rfl) m__law_two_right F__law_two_right.kp B__law_two_right (by rfl) (by rfl) (xCons (se_var (i := 1) rfl (vis_of rfl) (by decide) (by decide) (nm rfl)) (xCons (se_var (i := 11) rfl (vis_of rfl) (by decide) (by decide) (nm rfl)) sa_nil)) (by decide) (by rfl) (by rfl)) (se_and (se_call G__law_two_right (hr.mono (by omega)) hgd (by rfl) m__law_two_right F__law_two_right.kp B__law_two_right (by rfl) (by rfl) (xCons (se_var (i := 11) rfl (vis_of rfl) (by decide) (by decide) (nm rfl)) (xCons (se_var (i := 1) rfl (vis_of rfl) (by decide) (by decide) (nm rfl)) sa_nil)) (by decide) (by rfl) (by rfl)) (se_and (se_call G__law_two_right (hr.mono (by omega)) hgd (by rfl) m__law_two_right F__law_two_right.kp B__law_two_right (by rfl) (by rfl) (xCons (se_var (i := 1) rfl (vis_of rfl) (by decide) (by decide) (nm rfl)) (xCons (se_var (i := 1) rfl (vis_of rfl) (by decide) (by decide) (nm rfl)) sa_nil)) (by decide) (by rfl) (by rfl)) (pe_one (xIs (.inl rfl) (se_call G_is_within_shape (hr.mono (by omega)) hgd (by rfl) m_is_within_shape F_is_within_shape.kp B_is_within_shape (by rfl) (by rfl) (xCons (xTup sa_nil rfl) (xCons (se_var (i := 1) rfl (vis_of rfl) (by decide) (by decide) (nm rfl)) sa_nil)) (by decide) (by rfl) (by rfl)) gBl_))))))
  ss_nil))))))))))) (am rfl) (am rfl)
theorem k__law_right {P : Program} {w : World} {K : PySem.W.Frag} {mg : Str → Option Value} {base : Heap} {f : Addr} {fd : FuncData} (G : Gm mg) (c__law_columns : Ct P w K mg base 1 ("_law_columns" : Str) st__law_columns [("shape" : Str)] (spF 1 [] false g__law_columns)) (c__law_corners : Ct P w K mg base 2 ("_law_corners" : Str) st__law_corners [("shape" : Str)] (spF 1 [] false g__law_corners)) (c__law_near : Ct P w K mg base 4 ("_law_near" : Str) st__law_near [("feed" : Str), ("shape" : Str)] (spF 2 [0] false g__law_near)) (c__law_shape : Ct P w K mg base 3 ("_law_shape" : Str) st__law_shape [("feed" : Str), ("most" : Str)] (spF 2 [0] false g__law_shape)) (c__law_spots : Ct P w K mg base 2 ("_law_spots" : Str) st__law_spots [("shape" : Str)] (spF 1 [] false g__law_spots)) (c__law_two_right : Ct P w K mg base 6 ("_law_two_right" : Str) st__law_two_right [("one" : Str), ("other" : Str)] (spF 2 [] false g__law_two_right)) (c__law_with : Ct P w K mg base 1 ("_law_with" : Str) st__law_with [("shape" : Str), ("row" : Str)] (spF 2 [] false g__law_with)) (c__law_without : Ct P w K mg base 1 ("_law_without" : Str) st__law_without [("shape" : Str), ("row" : Str)] (spF 2 [] false g__law_without)) (c_corners_of : Ct P w K mg base 5 ("corners_of" : Str) st_corners_of [("shape" : Str)] (spF 1 [] false g_corners_of)) (c_is_shape : Ct P w K mg base 4 ("is_shape" : Str) st_is_shape [("thing" : Str)] (spF 1 [] false g_is_shape)) (c_is_within_shape : Ct P w K mg base 5 ("is_within_shape" : Str) st_is_within_shape [("shape" : Str), ("other" : Str)] (spF 2 [] false g_is_within_shape)) (c_size_of : Ct P w K mg base 5 ("size_of" : Str) st_size_of [("shape" : Str)] (spF 1 [] false g_size_of)) (c_spots_of : Ct P w K mg base 5 ("spots_of" : Str) st_spots_of [("shape" : Str)] (spF 1 [] false g_spots_of)) (c_turned_shape : Ct P w K mg base 5 ("turned_shape" : Str) st_turned_shape [("shape" : Str)] (spF 1 [] false g_turned_shape)) (m : mg ("_law_right" : Str) = some (.ref f)) (F : FunD K ("_law_right" : Str) ("_law_right" : Str) (defArgs st__law_right) (defBody st__law_right) (defScope st__law_right) [] [] f fd) : FnG P w K mg base 7 f fd [("feed" : Str)] (spF 1 [0] false g__law_right) :=
  fn_rule (N := [("feed" : Str), ("shape" : Str), ("total" : Str), ("columns" : Str), ("corners" : Str), ("spots" : Str), ("length" : Str), ("place" : Str), ("row" : Str), ("less" : Str), ("more" : Str), ("other" : Str)]) (ps := [("feed" : Str)]) F ⟨rfl, rfl, rfl, by decide +kernel, rfl, by decide +kernel, by decide +kernel⟩ (b__law_right G c__law_columns c__law_corners c__law_near c__law_shape c__law_spots c__law_two_right c__law_with c__law_without c_corners_of c_is_shape c_is_within_shape c_size_of c_spots_of c_turned_shape) (by decide) (by decide) (by decide)
theorem n__law_right {K : PySem.W.Frag} {f : Addr} {fd : FuncData} (F : FunD K ("_law_right" : Str) ("_law_right" : Str) (defArgs st__law_right) (defBody st__law_right) (defScope st__law_right) [] [] f fd) : Binds K fd [("feed" : Str)] [] :=
  F.bindsN (fun _ _ _ _ _ _ us hl => match us, hl with | [_], _ => rfl)
theorem o__law_right {P : Program} {w : World} {K : PySem.W.Frag} {mg : Str → Option Value} {base : Heap} {f : Addr} {fd : FuncData} (G : Gm mg) (c__law_columns : Ct P w K mg base 1 ("_law_columns" : Str) st__law_columns [("shape" : Str)] (spF 1 [] false g__law_columns)) (c__law_corners : Ct P w K mg base 2 ("_law_corners" : Str) st__law_corners [("shape" : Str)] (spF 1 [] false g__law_corners)) (c__law_near : Ct P w K mg base 4 ("_law_near" : Str) st__law_near [("feed" : Str), ("shape" : Str)] (spF 2 [0] false g__law_near)) (c__law_shape : Ct P w K mg base 3 ("_law_shape" : Str) st__law_shape [("feed" : Str), ("most" : Str)] (spF 2 [0] false g__law_shape)) (c__law_spots : Ct P w K mg base 2 ("_law_spots" : Str) st__law_spots [("shape" : Str)] (spF 1 [] false g__law_spots)) (c__law_two_right : Ct P w K mg base 6 ("_law_two_right" : Str) st__law_two_right [("one" : Str), ("other" : Str)] (spF 2 [] false g__law_two_right)) (c__law_with : Ct P w K mg base 1 ("_law_with" : Str) st__law_with [("shape" : Str), ("row" : Str)] (spF 2 [] false g__law_with)) (c__law_without : Ct P w K mg base 1 ("_law_without" : Str) st__law_without [("shape" : Str), ("row" : Str)] (spF 2 [] false g__law_without)) (c_corners_of : Ct P w K mg base 5 ("corners_of" : Str) st_corners_of [("shape" : Str)] (spF 1 [] false g_corners_of)) (c_is_shape : Ct P w K mg base 4 ("is_shape" : Str) st_is_shape [("thing" : Str)] (spF 1 [] false g_is_shape)) (c_is_within_shape : Ct P w K mg base 5 ("is_within_shape" : Str) st_is_within_shape [("shape" : Str), ("other" : Str)] (spF 2 [] false g_is_within_shape)) (c_size_of : Ct P w K mg base 5 ("size_of" : Str) st_size_of [("shape" : Str)] (spF 1 [] false g_size_of)) (c_spots_of : Ct P w K mg base 5 ("spots_of" : Str) st_spots_of [("shape" : Str)] (spF 1 [] false g_spots_of)) (c_turned_shape : Ct P w K mg base 5 ("turned_shape" : Str) st_turned_shape [("shape" : Str)] (spF 1 [] false g_turned_shape)) (m : mg ("_law_right" : Str) = some (.ref f)) (F : FunD K ("_law_right" : Str) ("_law_right" : Str) (defArgs st__law_right) (defBody st__law_right) (defScope st__law_right) [] [] f fd) : Ct P w K mg base 7 ("_law_right" : Str) st__law_right [("feed" : Str)] (spF 1 [0] false g__law_right) :=
  ⟨f, fd, m, F, n__law_right F, k__law_right G c__law_columns c__law_corners c__law_near c__law_shape c__law_spots c__law_two_right c__law_with c__law_without c_corners_of c_is_shape c_is_within_shape c_size_of c_spots_of c_turned_shape m F⟩
/-! ### law -/
abbrev st_law : Stmt := top 43
def s_law : CM := (cSeq (cForS (mRg gR1 (mCons (mL (g2 gMax2) (mCons (mC (.int 1)) (mCons (mL (g2 gMin2) (mCons (mL (g1 gLen) (mCons (mVar 0) mNil)) (mCons (mC (.int 4)) mNil))) mNil))) mNil)) (bName 1) (cSeq (cSet 2 (mCall0 g__law_feed (mCons (mVar 0) (mCons (mVar 1) mNil)))) (cSeq (cForS (mRg gR1 (mCons (mC (.int 4)) mNil)) (bName 3) (cSeq (cIf (m1 gNot (mCall1 2 g__law_right mNil)) (cSeq (cRet (mC (.bool false))) cNx) cNx) cNx)) (cSeq (cSet 4 (mCall1 2 g__law_draw (mCons (mC (.int 13)) mNil))) (cSeq (cSet 5 (mCall0 g__law_all (mCons (mVar 4) mNil))) (cSeq (cIf (m2 gNe (mL (g1 gRepr) (mCons (mL gLst (mCons (mCall0 g_shapes_of (mCons (mVar 4) mNil)) (mCons (mCall0 g_shapes_of (mPick [0] mNil (mCons (mVar 4) mNil))) mNil))) mNil)) (mL (g1 gRepr) (mCons (mL gLst (mCons (mVar 5) (mCons (mVar 5) mNil))) mNil))) (cSeq (cRet (mC (.bool false))) cNx) cNx) (cSeq (cAppT (mCall0 g_shapes_of (mCons (mVar 4) mNil)) (mC (.str ("spoilt" : Str)))) (cSeq (cIf (mOr (m2 gNe (mCall0 g_shapes_of (mCons (mVar 4) mNil)) (mVar 5)) (m2 gNe (mLc [6] [] (bName 6) (mOr (m2 gNe (mCall0 g_size_of (mCons (mVar 6) mNil)) (mVar 4)) (m2 gIsN (mCall0 g_is_shape (mCons (mVar 6) mNil)) (mC (.bool true)))) (mVar 6) (mIt (mVar 5))) (mL gLst mNil))) (cSeq (cRet (mC (.bool false))) cNx) cNx) cNx)))))))) (cSeq (cRet (mC (.bool true))) cNx))
def g_law : SM := gFn false [] 6 s_law
theorem b_law {P : Program} {w : World} {K : PySem.W.Frag} {mg : Str → Option Value} {base : Heap} {f : Addr} (G : Gm mg) (c__law_all : Ct P w K mg base 3 ("_law_all" : Str) st__law_all [("size" : Str)] (spF 1 [] true g__law_all)) (c__law_draw : Ct P w K mg base 1 ("_law_draw" : Str) st__law_draw [("feed" : Str), ("many" : Str)] (spF 2 [0] false g__law_draw)) (c__law_feed : Ct P w K mg base 1 ("_law_feed" : Str) st__law_feed [("script" : Str), ("k" : Str)] (spF 2 [] true g__law_feed)) (c__law_right : Ct P w K mg base 7 ("_law_right" : Str) st__law_right [("feed" : Str)] (spF 1 [0] false g__law_right)) (c_is_shape : Ct P w K mg base 4 ("is_shape" : Str) st_is_shape [("thing" : Str)] (spF 1 [] false g_is_shape)) (c_shapes_of : Ct P w K mg base 16 ("shapes_of" : Str) st_shapes_of [("size" : Str)] (spF 1 [] true g_shapes_of)) (c_size_of : Ct P w K mg base 5 ("size_of" : Str) st_size_of [("shape" : Str)] (spF 1 [] false g_size_of)) (Fa : Addr → Prop) (cd : Value) (A : Around) (outer : List Env) (s : Shared) (H : Hp)
    (hr : Room 16 (A.deeper (envOfC ("law" : Str) (defScope st_law) s.heap.objs.size f cd))) (hgd : A.guards = some []) : SSs ⟨[] ++ [2], [] ++ [2], Fa, [2]⟩ (cxG P w K mg base [("script" : Str), ("k" : Str), ("feed" : Str), ("turn" : Str), ("size" : Str), ("due" : Str), ("shape" : Str)] ("law" : Str) (defScope st_law) f cd A outer s H) (defBody st_law) [0, 1, 2, 3, 4, 5, 6] [0, 1, 2, 3, 4, 5, 6] [2] false s_law := by
  obtain ⟨f__law_all, fd__law_all, m__law_all, F__law_all, B__law_all, G__law_all⟩ := c__law_all.ex
  obtain ⟨f__law_draw, fd__law_draw, m__law_draw, F__law_draw, B__law_draw, G__law_draw⟩ := c__law_draw.ex
  obtain ⟨f__law_feed, fd__law_feed, m__law_feed, F__law_feed, B__law_feed, G__law_feed⟩ := c__law_feed.ex
  obtain ⟨f__law_right, fd__law_right, m__law_right, F__law_right, B__law_right, G__law_right⟩ := c__law_right.ex
  obtain ⟨f_is_shape, fd_is_shape, m_is_shape, F_is_shape, B_is_shape, G_is_shape⟩ := c_is_shape.ex
  obtain ⟨f_shapes_of, fd_shapes_of, m_shapes_of, F_shapes_of, B_shapes_of, G_shapes_of⟩ := c_shapes_of.ex
  obtain ⟨f_size_of, fd_size_of, m_size_of, F_size_of, B_size_of, G_size_of⟩ := c_size_of.ex
  have hu100 : (A.deeper (envOfC ("law" : Str) (defScope st_law) s.heap.objs.size f cd)).units + 100 < cLine := by have := hr.un; omega
  have hu64 : (A.deeper (envOfC ("law" : Str) (defScope st_law) s.heap.objs.size f cd)).units + 64 < cLine := by omega
  have hu1 : (A.deeper (envOfC ("law" : Str) (defScope st_law) s.heap.objs.size f cd)).units + 1 < cLine := by omega
  have nd : ([("script" : Str), ("k" : Str), ("feed" : Str), ("turn" : Str), ("size" : Str), ("due" : Str), ("shape" : Str)] : List Str).Nodup := by decide +kernel
  exact sss_wide (ss_cons (ss_for PassesOwn.never rfl (si_range1 (lk := []) (by rfl) (G.b_range) rfl (xCons (bMax2 (by rfl) (by rfl) (G.b_max) (xCons gInt_ (xCons (bMin2 (by rfl) (by rfl) (G.b_min) (xCons (bLen (by rfl) (G.b_len) (se_var (i := 0) rfl (vis_of rfl) (by decide) (by decide) (nm rfl))) (xCons gInt_ sa_nil))) sa_nil))) sa_nil)) (sg_name nd (i := 1) rfl (loc_of rfl) (by first | exact .inl rfl | exact .inr rfl) (nm rfl))
  (ss_cons (ss_setN nd (i := 2) rfl (loc_of rfl) (.inl rfl) (ym rfl) (sn_call G__law_feed (hr.mono (by omega)) hgd (by rfl) m__law_feed F__law_feed.kp B__law_feed (by rfl) (by rfl) (xCons (se_var (i := 0) rfl (vis_of rfl) (by decide) (by decide) (nm rfl)) (xCons (se_var (i := 1) rfl (vis_of rfl) (by decide) (by decide) (nm rfl)) sa_nil)) (by decide) (by rfl) (by rfl)) rfl)
  (ss_cons (ss_for PassesOwn.never rfl (si_range1 (lk := []) (by rfl) (G.b_range) rfl (xCons gInt_ sa_nil)) (sg_name nd (i := 3) rfl (loc_of rfl) (by first | exact .inl rfl | exact .inr rfl) (nm rfl))
  (ss_cons (ss_if (st_not (gVal (se_call1 G__law_right (hr.mono (by omega)) hgd (by rfl) m__law_right F__law_right.kp B__law_right (i := 2) rfl (vis_of rfl) (by decide) (by decide) (ym rfl) (ym rfl) (by rfl) (by rfl) sa_nil (by decide) (by rfl) (by rfl))))
  (ss_cons (ss_ret gBl_)
  ss_nil)
  ss_nil)
  ss_nil) (an rfl) (by intro _; rfl))
  (ss_cons (ss_set nd (i := 4) rfl (loc_of rfl) (.inl rfl) (nm rfl) (se_call1 G__law_draw (hr.mono (by omega)) hgd (by rfl) m__law_draw F__law_draw.kp B__law_draw (i := 2) rfl (vis_of rfl) (by decide) (by decide) (ym rfl) (ym rfl) (by rfl) (by rfl) (xCons gInt_ sa_nil) (by decide) (by rfl) (by rfl)) rfl)
  (ss_cons (ss_set nd (i := 5) rfl (loc_of rfl) (.inl rfl) (nm rfl) (se_call G__law_all (hr.mono (by omega)) hgd (by rfl) m__law_all F__law_all.kp B__law_all (by rfl) (by rfl) (xCons (se_var (i := 4) rfl (vis_of rfl) (by decide) (by decide) (nm rfl)) sa_nil) (by decide) (by rfl) (by rfl)) rfl)
  (ss_cons (ss_if (tNe_ hu64 (.inl rfl) (bRepr hgd hu100 (by rfl) (G.b_repr) (xLst (xCons (se_call G_shapes_of (hr.mono (by omega)) hgd (by rfl) m_shapes_of F_shapes_of.kp B_shapes_of (by rfl) (by rfl) (xCons (se_var (i := 4) rfl (vis_of rfl) (by decide) (by decide) (nm rfl)) sa_nil) (by decide) (by rfl) (by rfl)) (xCons (se_callK0 G_shapes_of (hr.mono (by omega)) hgd (by rfl) m_shapes_of F_shapes_of.kp (kwB (ks := [("size" : Str)]) (ix := [0]) F_shapes_of (fun _ _ _ _ _ _ us ws h1 h2 => match us, ws, h1, h2 with | [], [_], _, _ => rfl)) (by rfl) (by rfl) (fun ds es h1 h2 => match ds, es, h1, h2 with | [], [_], _, _ => rfl) (sk_cons (se_var (i := 4) rfl (vis_of rfl) (by decide) (by decide) (nm rfl)) sk_nil (.inl rfl)) (by rfl) (by rfl) (by decide) (by rfl)) sa_nil)) rfl)) (bRepr hgd hu100 (by rfl) (G.b_repr) (xLst (xCons (se_var (i := 5) rfl (vis_of rfl) (by decide) (by decide) (nm rfl)) (xCons (se_var (i := 5) rfl (vis_of rfl) (by decide) (by decide) (nm rfl)) sa_nil)) rfl)))
  (ss_cons (ss_ret gBl_)
  ss_nil)
  ss_nil)
  (ss_cons (ss_appT (sn_call G_shapes_of (hr.mono (by omega)) hgd (by rfl) m_shapes_of F_shapes_of.kp B_shapes_of (by rfl) (by rfl) (xCons (se_var (i := 4) rfl (vis_of rfl) (by decide) (by decide) (nm rfl)) sa_nil) (by decide) (by rfl) (by rfl)) (fun _ => gStr_) rfl rfl rfl rfl rfl rfl)
  (ss_cons (ss_if (PW.pt (sw_or (tNe_ hu64 (.inl rfl) (se_call G_shapes_of (hr.mono (by omega)) hgd (by rfl) m_shapes_of F_shapes_of.kp B_shapes_of (by rfl) (by rfl) (xCons (se_var (i := 4) rfl (vis_of rfl) (by decide) (by decide) (nm rfl)) sa_nil) (by decide) (by rfl) (by rfl)) (se_var (i := 5) rfl (vis_of rfl) (by decide) (by decide) (nm rfl))) (pw_or1 (tNe_ hu64 (.inl rfl) (se_new (sn_lc (own := [(("shape" : Str), 6)]) (wb := []) (ws := [6]) rfl nd (si_seq (sq_of (se_var (i := 5) rfl (vis_of rfl) (by decide) (by decide) (nm rfl)))) (blkOk_by (by kernel_rfl)) (fun _ _ _ _ _ _ => (sg_name nd (i := 6) rfl (loc_of rfl) (by first | exact .inl rfl | exact .inr rfl) (nm rfl))) (fun _ _ _ _ _ _ => (sts_one (st_wide (w1 := []) (PW.pt (sw_or (tNe_ hu64 (.inl rfl) (se_call G_size_of (hr.mono (by omega)) hgd (by rfl) m_size_of F_size_of.kp B_size_of (by rfl) (by rfl) (xCons (se_var (i := 6) rfl (vis_of rfl) (by decide) (by decide) (nm rfl)) sa_nil) (by decide) (by rfl) (by rfl)) (se_var (i := 4) rfl (vis_of rfl) (by decide) (by decide) (nm rfl))) (pw_or1 (tIsN_ (.inl rfl) (se_call G_is_shape (hr.mono (by omega)) hgd (by rfl) m_is_shape F_is_shape.kp B_is_shape (by rfl) (by rfl) (xCons (se_var (i := 6) rfl (vis_of rfl) (by decide) (by decide) (nm rfl)) sa_nil) (by decide) (by rfl) (by rfl)) gBl_)))) (am rfl)))) (fun _ _ _ _ _ _ => (se_wide (w1 := []) (se_var (i := 6) rfl (vis_of rfl) (by decide) (by decide) (nm rfl)) (am rfl))) (an rfl) (am rfl) (am rfl) (an rfl) (by intro _; rfl))) (xLst sa_nil rfl)))))
  (ss_cons (ss_ret gBl_)
  ss_nil)
  ss_nil)
  ss_nil))))))) (an rfl) (by intro _; rfl))
  (ss_cons (ss_ret gBl_)
  ss_nil)) (am rfl) (am rfl)
theorem k_law {P : Program} {w : World} {K : PySem.W.Frag} {mg : Str → Option Value} {base : Heap} {f : Addr} {fd : FuncData} (G : Gm mg) (c__law_all : Ct P w K mg base 3 ("_law_all" : Str) st__law_all [("size" : Str)] (spF 1 [] true g__law_all)) (c__law_draw : Ct P w K mg base 1 ("_law_draw" : Str) st__law_draw [("feed" : Str), ("many" : Str)] (spF 2 [0] false g__law_draw)) (c__law_feed : Ct P w K mg base 1 ("_law_feed" : Str) st__law_feed [("script" : Str), ("k" : Str)] (spF 2 [] true g__law_feed)) (c__law_right : Ct P w K mg base 7 ("_law_right" : Str) st__law_right [("feed" : Str)] (spF 1 [0] false g__law_right)) (c_is_shape : Ct P w K mg base 4 ("is_shape" : Str) st_is_shape [("thing" : Str)] (spF 1 [] false g_is_shape)) (c_shapes_of : Ct P w K mg base 16 ("shapes_of" : Str) st_shapes_of [("size" : Str)] (spF 1 [] true g_shapes_of)) (c_size_of : Ct P w K mg base 5 ("size_of" : Str) st_size_of [("shape" : Str)] (spF 1 [] false g_size_of)) (m : mg ("law" : Str) = some (.ref f)) (F : FunD K ("law" : Str) ("law" : Str) (defArgs st_law) (defBody st_law) (defScope st_law) [] [] f fd) : FnG P w K mg base 17 f fd [("script" : Str)] (spF 1 [] false g_law) :=
  fn_rule (N := [("script" : Str), ("k" : Str), ("feed" : Str), ("turn" : Str), ("size" : Str), ("due" : Str), ("shape" : Str)]) (ps := [("script" : Str)]) F ⟨rfl, rfl, rfl, by decide +kernel, rfl, by decide +kernel, by decide +kernel⟩ (b_law G c__law_all c__law_draw c__law_feed c__law_right c_is_shape c_shapes_of c_size_of) (by decide) (by decide) (by decide)
theorem n_law {K : PySem.W.Frag} {f : Addr} {fd : FuncData} (F : FunD K ("law" : Str) ("law" : Str) (defArgs st_law) (defBody st_law) (defScope st_law) [] [] f fd) : Binds K fd [("script" : Str)] [] :=
  F.bindsN (fun _ _ _ _ _ _ us hl => match us, hl with | [_], _ => rfl)
theorem o_law {P : Program} {w : World} {K : PySem.W.Frag} {mg : Str → Option Value} {base : Heap} {f : Addr} {fd : FuncData} (G : Gm mg) (c__law_all : Ct P w K mg base 3 ("_law_all" : Str) st__law_all [("size" : Str)] (spF 1 [] true g__law_all)) (c__law_draw : Ct P w K mg base 1 ("_law_draw" : Str) st__law_draw [("feed" : Str), ("many" : Str)] (spF 2 [0] false g__law_draw)) (c__law_feed : Ct P w K mg base 1 ("_law_feed" : Str) st__law_feed [("script" : Str), ("k" : Str)] (spF 2 [] true g__law_feed)) (c__law_right : Ct P w K mg base 7 ("_law_right" : Str) st__law_right [("feed" : Str)] (spF 1 [0] false g__law_right)) (c_is_shape : Ct P w K mg base 4 ("is_shape" : Str) st_is_shape [("thing" : Str)] (spF 1 [] false g_is_shape)) (c_shapes_of : Ct P w K mg base 16 ("shapes_of" : Str) st_shapes_of [("size" : Str)] (spF 1 [] true g_shapes_of)) (c_size_of : Ct P w K mg base 5 ("size_of" : Str) st_size_of [("shape" : Str)] (spF 1 [] false g_size_of)) (m : mg ("law" : Str) = some (.ref f)) (F : FunD K ("law" : Str) ("law" : Str) (defArgs st_law) (defBody st_law) (defScope st_law) [] [] f fd) : Ct P w K mg base 17 ("law" : Str) st_law [("script" : Str)] (spF 1 [] false g_law) :=
  ⟨f, fd, m, F, n_law F, k_law G c__law_all c__law_draw c__law_feed c__law_right c_is_shape c_shapes_of c_size_of m F⟩
end K02
end
section
set_option Elab.async false
set_option linter.all false
set_option maxRecDepth 100000
set_option maxHeartbeats 0
namespace K02
open PySem PySem.Spec PyProof.Rows L2 FV
def d_is_integer : He.DefD := ⟨(("is_integer" : Str), none), ("is_integer" : Str), ("is_integer" : Str), defArgs st_is_integer, defBody st_is_integer, defScope st_is_integer, [], []⟩
def d_is_within : He.DefD := ⟨(("is_within" : Str), none), ("is_within" : Str), ("is_within" : Str), defArgs st_is_within, defBody st_is_within, defScope st_is_within, [], []⟩
def d_need_number : He.DefD := ⟨(("need_number" : Str), none), ("need_number" : Str), ("need_number" : Str), defArgs st_need_number, defBody st_need_number, defScope st_need_number, [], []⟩
def d_is_shape_form : He.DefD := ⟨(("is_shape_form" : Str), none), ("is_shape_form" : Str), ("is_shape_form" : Str), defArgs st_is_shape_form, defBody st_is_shape_form, defScope st_is_shape_form, [], []⟩
def d_need_shape : He.DefD := ⟨(("need_shape" : Str), none), ("need_shape" : Str), ("need_shape" : Str), defArgs st_need_shape, defBody st_need_shape, defScope st_need_shape, [], []⟩
def d_columns_of : He.DefD := ⟨(("columns_of" : Str), none), ("columns_of" : Str), ("columns_of" : Str), defArgs st_columns_of, defBody st_columns_of, defScope st_columns_of, [], []⟩
def d_corner_rows : He.DefD := ⟨(("corner_rows" : Str), none), ("corner_rows" : Str), ("corner_rows" : Str), defArgs st_corner_rows, defBody st_corner_rows, defScope st_corner_rows, [], []⟩
def d_spot_rows : He.DefD := ⟨(("spot_rows" : Str), none), ("spot_rows" : Str), ("spot_rows" : Str), defArgs st_spot_rows, defBody st_spot_rows, defScope st_spot_rows, [], []⟩
def d_is_inside : He.DefD := ⟨(("is_inside" : Str), none), ("is_inside" : Str), ("is_inside" : Str), defArgs st_is_inside, defBody st_is_inside, defScope st_is_inside, [], []⟩
def d_all_shapes : He.DefD := ⟨(("all_shapes" : Str), none), ("all_shapes" : Str), ("all_shapes" : Str), defArgs st_all_shapes, defBody st_all_shapes, defScope st_all_shapes, [], []⟩
def d_is_shape : He.DefD := ⟨(("is_shape" : Str), none), ("is_shape" : Str), ("is_shape" : Str), defArgs st_is_shape, defBody st_is_shape, defScope st_is_shape, [], []⟩
def d_size_of : He.DefD := ⟨(("size_of" : Str), none), ("size_of" : Str), ("size_of" : Str), defArgs st_size_of, defBody st_size_of, defScope st_size_of, [], []⟩
def d_turned_shape : He.DefD := ⟨(("turned_shape" : Str), none), ("turned_shape" : Str), ("turned_shape" : Str), defArgs st_turned_shape, defBody st_turned_shape, defScope st_turned_shape, [], []⟩
def d_shapes_of : He.DefD := ⟨(("shapes_of" : Str), none), ("shapes_of" : Str), ("shapes_of" : Str), defArgs st_shapes_of, defBody st_shapes_of, defScope st_shapes_of, [], []⟩
def d_is_within_shape : He.DefD := ⟨(("is_within_shape" : Str), none), ("is_within_shape" : Str), ("is_within_shape" : Str), defArgs st_is_within_shape, defBody st_is_within_shape, defScope st_is_within_shape, [], []⟩
def d_corners_of : He.DefD := ⟨(("corners_of" : Str), none), ("corners_of" : Str), ("corners_of" : Str), defArgs st_corners_of, defBody st_corners_of, defScope st_corners_of, [], []⟩
def d_spots_of : He.DefD := ⟨(("spots_of" : Str), none), ("spots_of" : Str), ("spots_of" : Str), defArgs st_spots_of, defBody st_spots_of, defScope st_spots_of, [], []⟩
def d__law_feed : He.DefD := ⟨(("_law_feed" : Str), none), ("_law_feed" : Str), ("_law_feed" : Str), defArgs st__law_feed, defBody st__law_feed, defScope st__law_feed, [], []⟩
def d__law_draw : He.DefD := ⟨(("_law_draw" : Str), none), ("_law_draw" : Str), ("_law_draw" : Str), defArgs st__law_draw, defBody st__law_draw, defScope st__law_draw, [], []⟩
def d__law_one : He.DefD := ⟨(("_law_one" : Str), none), ("_law_one" : Str), ("_law_one" : Str), defArgs st__law_one, defBody st__law_one, defScope st__law_one, [], []⟩
def d__law_mixed : He.DefD := ⟨(("_law_mixed" : Str), none), ("_law_mixed" : Str), ("_law_mixed" : Str), defArgs st__law_mixed, defBody st__law_mixed, defScope st__law_mixed, [], []⟩
def d__law_shape : He.DefD := ⟨(("_law_shape" : Str), none), ("_law_shape" : Str), ("_law_shape" : Str), defArgs st__law_shape, defBody st__law_shape, defScope st__law_shape, [], []⟩
def d__law_falls : He.DefD := ⟨(("_law_falls" : Str), none), ("_law_falls" : Str), ("_law_falls" : Str), defArgs st__law_falls, defBody st__law_falls, defScope st__law_falls, [], []⟩
def d__law_columns : He.DefD := ⟨(("_law_columns" : Str), none), ("_law_columns" : Str), ("_law_columns" : Str), defArgs st__law_columns, defBody st__law_columns, defScope st__law_columns, [], []⟩
def d__law_without : He.DefD := ⟨(("_law_without" : Str), none), ("_law_without" : Str), ("_law_without" : Str), defArgs st__law_without, defBody st__law_without, defScope st__law_without, [], []⟩
def d__law_with : He.DefD := ⟨(("_law_with" : Str), none), ("_law_with" : Str), ("_law_with" : Str), defArgs st__law_with, defBody st__law_with, defScope st__law_with, [], []⟩
def d__law_corners : He.DefD := ⟨(("_law_corners" : Str), none), ("_law_corners" : Str), ("_law_corners" : Str), defArgs st__law_corners, defBody st__law_corners, defScope st__law_corners, [], []⟩
def d__law_spots : He.DefD := ⟨(("_law_spots" : Str), none), ("_law_spots" : Str), ("_law_spots" : Str), defArgs st__law_spots, defBody st__law_spots, defScope st__law_spots, [], []⟩
def d__law_all : He.DefD := ⟨(("_law_all" : Str), none), ("_law_all" : Str), ("_law_all" : Str), defArgs st__law_all, defBody st__law_all, defScope st__law_all, [], []⟩
def d__law_near : He.DefD := ⟨(("_law_near" : Str), none), ("_law_near" : Str), ("_law_near" : Str), defArgs st__law_near, defBody st__law_near, defScope st__law_near, [], []⟩
def d__law_two_right : He.DefD := ⟨(("_law_two_right" : Str), none), ("_law_two_right" : Str), ("_law_two_right" : Str), defArgs st__law_two_right, defBody st__law_two_right, defScope st__law_two_right, [], []⟩
def d__law_right : He.DefD := ⟨(("_law_right" : Str), none), ("_law_right" : Str), ("_law_right" : Str), defArgs st__law_right, defBody st__law_right, defScope st__law_right, [], []⟩
def d_law : He.DefD := ⟨(("law" : Str), none), ("law" : Str), ("law" : Str), defArgs st_law, defBody st_law, defScope st_law, [], []⟩
def fn : List He.DefD := [d_is_integer, d_is_within, d_need_number, d_is_shape_form, d_need_shape, d_columns_of, d_corner_rows, d_spot_rows, d_is_inside, d_all_shapes, d_is_shape, d_size_of, d_turned_shape, d_shapes_of, d_is_within_shape, d_corners_of, d_spots_of, d__law_feed, d__law_draw, d__law_one, d__law_mixed, d__law_shape, d__law_falls, d__law_columns, d__law_without, d__law_with, d__law_corners, d__law_spots, d__law_all, d__law_near, d__law_two_right, d__law_right, d_law]
def fa : List He.Fa := [.glo ("is_integer" : Str), .glo ("is_within" : Str), .glo ("need_number" : Str), .glo ("is_shape_form" : Str), .glo ("need_shape" : Str), .glo ("columns_of" : Str), .glo ("corner_rows" : Str), .glo ("spot_rows" : Str), .glo ("is_inside" : Str), .glo ("all_shapes" : Str), .glo ("is_shape" : Str), .glo ("size_of" : Str), .glo ("turned_shape" : Str), .glo ("shapes_of" : Str), .glo ("is_within_shape" : Str), .glo ("corners_of" : Str), .glo ("spots_of" : Str), .glo ("_law_feed" : Str), .glo ("_law_draw" : Str), .glo ("_law_one" : Str), .glo ("_law_mixed" : Str), .glo ("_law_shape" : Str), .glo ("_law_falls" : Str), .glo ("_law_columns" : Str), .glo ("_law_without" : Str), .glo ("_law_with" : Str), .glo ("_law_corners" : Str), .glo ("_law_spots" : Str), .glo ("_law_all" : Str), .glo ("_law_near" : Str), .glo ("_law_two_right" : Str), .glo ("_law_right" : Str), .glo ("law" : Str), .free ("all" : Str), .free ("bool" : Str), .free ("enumerate" : Str), .free ("int" : Str), .free ("isinstance" : Str), .free ("len" : Str), .free ("list" : Str), .free ("max" : Str), .free ("min" : Str), .free ("range" : Str), .free ("repr" : Str), .free ("set" : Str), .free ("sorted" : Str), .free ("sum" : Str), .free ("tuple" : Str), .free ("zip" : Str), .int ("MOST_LISTED" : Str) 12, .int ("MOST_ROWS" : Str) 9, .int ("MOST_SIZE" : Str) 30]
abbrev R : PySem.W.OpenRow := PySem.W.OpenLaw.row PySem.Challenge.rw_rowspushed_k02_whole_shapes
abbrev hk : PySem.W.Hook := He.hookD 4 fa fn
def ob (s : PySem.W.SharedT) : He.AlD := He.obsDG 4 fa fn (HandSHeadRun.getT s)
theorem ob_eq (s : PySem.W.SharedT) : ob s = hk.obs s.abs := He.obsDG_eq (HandSHeadRun.getT_eq s)
def loose0 : List Str := [("PushError" : Str), ("BadShape" : Str), ("BadNumber" : Str), ("MOST_SIZE" : Str), ("MOST_ROWS" : Str), ("is_integer" : Str), ("is_within" : Str), ("need_number" : Str), ("is_shape_form" : Str), ("need_shape" : Str), ("columns_of" : Str), ("corner_rows" : Str), ("spot_rows" : Str), ("is_inside" : Str), ("all_shapes" : Str), ("MOST_LISTED" : Str), ("is_shape" : Str), ("size_of" : Str), ("turned_shape" : Str), ("shapes_of" : Str), ("is_within_shape" : Str), ("corners_of" : Str), ("spots_of" : Str), ("_law_feed" : Str), ("_law_draw" : Str), ("_law_one" : Str), ("_law_mixed" : Str), ("_law_shape" : Str), ("_law_falls" : Str), ("_law_columns" : Str), ("_law_without" : Str), ("_law_with" : Str), ("_law_corners" : Str), ("_law_spots" : Str), ("_law_all" : Str), ("_law_near" : Str), ("_law_two_right" : Str), ("_law_right" : Str)]
def looseA : List Str := loose0
theorem run (w : World) : HandSHeadRun.RunEq R (PySem.W.view R.prog [43]) hk ob 3000 looseA w := by
  intro os
  kernel_rfl
theorem facts {P : Program} {w : World} {K : PySem.W.Frag} {h : Heap} {mg : Str → Option Value} {f a : Addr} {vs : Array Value} (X : K.In h) (G : h.Ns mainGlobals mg) (ha : h.get? a = some { cls := .type "list", data := .seq vs }) (hf : mg ("law" : Str) = some (.ref f)) (c : He.SaysD fa fn K) :
    ∃ fd : FuncData, (∀ (s : Shared) (v : Value), BindsTo s fd ⟨[v], []⟩ [("script", v)]) ∧ ∀ base : Heap, FnG P w (cutK K a) mg base 17 f fd ["script"] (spF 1 [] false g_law) := by
  obtain ⟨fd_is_integer, F0_is_integer⟩ := c.def_ 0 (d := d_is_integer) rfl
  have F_is_integer := funD_cut X ha F0_is_integer
  have m_is_integer := He.glo_ok X G (c.fact 0 (f := .glo ("is_integer" : Str)) rfl)
  obtain ⟨fd_is_within, F0_is_within⟩ := c.def_ 1 (d := d_is_within) rfl
  have F_is_within := funD_cut X ha F0_is_within
  have m_is_within := He.glo_ok X G (c.fact 1 (f := .glo ("is_within" : Str)) rfl)
  obtain ⟨fd_need_number, F0_need_number⟩ := c.def_ 2 (d := d_need_number) rfl
  have F_need_number := funD_cut X ha F0_need_number
  have m_need_number := He.glo_ok X G (c.fact 2 (f := .glo ("need_number" : Str)) rfl)
  obtain ⟨fd_is_shape_form, F0_is_shape_form⟩ := c.def_ 3 (d := d_is_shape_form) rfl
  have F_is_shape_form := funD_cut X ha F0_is_shape_form
  have m_is_shape_form := He.glo_ok X G (c.fact 3 (f := .glo ("is_shape_form" : Str)) rfl)
  obtain ⟨fd_need_shape, F0_need_shape⟩ := c.def_ 4 (d := d_need_shape) rfl
  have F_need_shape := funD_cut X ha F0_need_shape
  have m_need_shape := He.glo_ok X G (c.fact 4 (f := .glo ("need_shape" : Str)) rfl)
  obtain ⟨fd_columns_of, F0_columns_of⟩ := c.def_ 5 (d := d_columns_of) rfl
  have F_columns_of := funD_cut X ha F0_columns_of
  have m_columns_of := He.glo_ok X G (c.fact 5 (f := .glo ("columns_of" : Str)) rfl)
  obtain ⟨fd_corner_rows, F0_corner_rows⟩ := c.def_ 6 (d := d_corner_rows) rfl
  have F_corner_rows := funD_cut X ha F0_corner_rows
  have m_corner_rows := He.glo_ok X G (c.fact 6 (f := .glo ("corner_rows" : Str)) rfl)
  obtain ⟨fd_spot_rows, F0_spot_rows⟩ := c.def_ 7 (d := d_spot_rows) rfl
  have F_spot_rows := funD_cut X ha F0_spot_rows
  have m_spot_rows := He.glo_ok X G (c.fact 7 (f := .glo ("spot_rows" : Str)) rfl)
  obtain ⟨fd_is_inside, F0_is_inside⟩ := c.def_ 8 (d := d_is_inside) rfl
  have F_is_inside := funD_cut X ha F0_is_inside
  have m_is_inside := He.glo_ok X G (c.fact 8 (f := .glo ("is_inside" : Str)) rfl)
  obtain ⟨fd_all_shapes, F0_all_shapes⟩ := c.def_ 9 (d := d_all_shapes) rfl
  have F_all_shapes := funD_cut X ha F0_all_shapes
  have m_all_shapes := He.glo_ok X G (c.fact 9 (f := .glo ("all_shapes" : Str)) rfl)
  obtain ⟨fd_is_shape, F0_is_shape⟩ := c.def_ 10 (d := d_is_shape) rfl
  have F_is_shape := funD_cut X ha F0_is_shape
  have m_is_shape := He.glo_ok X G (c.fact 10 (f := .glo ("is_shape" : Str)) rfl)
  obtain ⟨fd_size_of, F0_size_of⟩ := c.def_ 11 (d := d_size_of) rfl
  have F_size_of := funD_cut X ha F0_size_of
  have m_size_of := He.glo_ok X G (c.fact 11 (f := .glo ("size_of" : Str)) rfl)
  obtain ⟨fd_turned_shape, F0_turned_shape⟩ := c.def_ 12 (d := d_turned_shape) rfl
  have F_turned_shape := funD_cut X ha F0_turned_shape
  have m_turned_shape := He.glo_ok X G (c.fact 12 (f := .glo ("turned_shape" : Str)) rfl)
  obtain ⟨fd_shapes_of, F0_shapes_of⟩ := c.def_ 13 (d := d_shapes_of) rfl
  have F_shapes_of := funD_cut X ha F0_shapes_of
  have m_shapes_of := He.glo_ok X G (c.fact 13 (f := .glo ("shapes_of" : Str)) rfl)
  obtain ⟨fd_is_within_shape, F0_is_within_shape⟩ := c.def_ 14 (d := d_is_within_shape) rfl
  have F_is_within_shape := funD_cut X ha F0_is_within_shape
  have m_is_within_shape := He.glo_ok X G (c.fact 14 (f := .glo ("is_within_shape" : Str)) rfl)
  obtain ⟨fd_corners_of, F0_corners_of⟩ := c.def_ 15 (d := d_corners_of) rfl
  have F_corners_of := funD_cut X ha F0_corners_of
  have m_corners_of := He.glo_ok X G (c.fact 15 (f := .glo ("corners_of" : Str)) rfl)
  obtain ⟨fd_spots_of, F0_spots_of⟩ := c.def_ 16 (d := d_spots_of) rfl
  have F_spots_of := funD_cut X ha F0_spots_of
  have m_spots_of := He.glo_ok X G (c.fact 16 (f := .glo ("spots_of" : Str)) rfl)
  obtain ⟨fd__law_feed, F0__law_feed⟩ := c.def_ 17 (d := d__law_feed) rfl
  have F__law_feed := funD_cut X ha F0__law_feed
  have m__law_feed := He.glo_ok X G (c.fact 17 (f := .glo ("_law_feed" : Str)) rfl)
  obtain ⟨fd__law_draw, F0__law_draw⟩ := c.def_ 18 (d := d__law_draw) rfl
  have F__law_draw := funD_cut X ha F0__law_draw
  have m__law_draw := He.glo_ok X G (c.fact 18 (f := .glo ("_law_draw" : Str)) rfl)
  obtain ⟨fd__law_one, F0__law_one⟩ := c.def_ 19 (d := d__law_one) rfl
  have F__law_one := funD_cut X ha F0__law_one
  have m__law_one := He.glo_ok X G (c.fact 19 (f := .glo ("_law_one" : Str)) rfl)
  obtain ⟨fd__law_mixed, F0__law_mixed⟩ := c.def_ 20 (d := d__law_mixed) rfl
  have F__law_mixed := funD_cut X ha F0__law_mixed
  have m__law_mixed := He.glo_ok X G (c.fact 20 (f := .glo ("_law_mixed" : Str)) rfl)
  obtain ⟨fd__law_shape, F0__law_shape⟩ := c.def_ 21 (d := d__law_shape) rfl
  have F__law_shape := funD_cut X ha F0__law_shape
  have m__law_shape := He.glo_ok X G (c.fact 21 (f := .glo ("_law_shape" : Str)) rfl)
  obtain ⟨fd__law_falls, F0__law_falls⟩ := c.def_ 22 (d := d__law_falls) rfl
  have F__law_falls := funD_cut X ha F0__law_falls
  have m__law_falls := He.glo_ok X G (c.fact 22 (f := .glo ("_law_falls" : Str)) rfl)
  obtain ⟨fd__law_columns, F0__law_columns⟩ := c.def_ 23 (d := d__law_columns) rfl
  have F__law_columns := funD_cut X ha F0__law_columns
  have m__law_columns := He.glo_ok X G (c.fact 23 (f := .glo ("_law_columns" : Str)) rfl)
  obtain ⟨fd__law_without, F0__law_without⟩ := c.def_ 24 (d := d__law_without) rfl
  have F__law_without := funD_cut X ha F0__law_without
  have m__law_without := He.glo_ok X G (c.fact 24 (f := .glo ("_law_without" : Str)) rfl)
  obtain ⟨fd__law_with, F0__law_with⟩ := c.def_ 25 (d := d__law_with) rfl
  have F__law_with := funD_cut X ha F0__law_with
  have m__law_with := He.glo_ok X G (c.fact 25 (f := .glo ("_law_with" : Str)) rfl)
  obtain ⟨fd__law_corners, F0__law_corners⟩ := c.def_ 26 (d := d__law_corners) rfl
  have F__law_corners := funD_cut X ha F0__law_corners
  have m__law_corners := He.glo_ok X G (c.fact 26 (f := .glo ("_law_corners" : Str)) rfl)
  obtain ⟨fd__law_spots, F0__law_spots⟩ := c.def_ 27 (d := d__law_spots) rfl
  have F__law_spots := funD_cut X ha F0__law_spots
  have m__law_spots := He.glo_ok X G (c.fact 27 (f := .glo ("_law_spots" : Str)) rfl)
  obtain ⟨fd__law_all, F0__law_all⟩ := c.def_ 28 (d := d__law_all) rfl
  have F__law_all := funD_cut X ha F0__law_all
  have m__law_all := He.glo_ok X G (c.fact 28 (f := .glo ("_law_all" : Str)) rfl)
  obtain ⟨fd__law_near, F0__law_near⟩ := c.def_ 29 (d := d__law_near) rfl
  have F__law_near := funD_cut X ha F0__law_near
  have m__law_near := He.glo_ok X G (c.fact 29 (f := .glo ("_law_near" : Str)) rfl)
  obtain ⟨fd__law_two_right, F0__law_two_right⟩ := c.def_ 30 (d := d__law_two_right) rfl
  have F__law_two_right := funD_cut X ha F0__law_two_right
  have m__law_two_right := He.glo_ok X G (c.fact 30 (f := .glo ("_law_two_right" : Str)) rfl)
  obtain ⟨fd__law_right, F0__law_right⟩ := c.def_ 31 (d := d__law_right) rfl
  have F__law_right := funD_cut X ha F0__law_right
  have m__law_right := He.glo_ok X G (c.fact 31 (f := .glo ("_law_right" : Str)) rfl)
  obtain ⟨fd_law, F0_law⟩ := c.def_ 32 (d := d_law) rfl
  have F_law := funD_cut X ha F0_law
  have m_law := He.glo_ok X G (c.fact 32 (f := .glo ("law" : Str)) rfl)
  have gm : Gm mg := ⟨He.free_ok X G (c.fact 33 (f := .free ("all" : Str)) rfl), He.free_ok X G (c.fact 34 (f := .free ("bool" : Str)) rfl), He.free_ok X G (c.fact 35 (f := .free ("enumerate" : Str)) rfl), He.free_ok X G (c.fact 36 (f := .free ("int" : Str)) rfl), He.free_ok X G (c.fact 37 (f := .free ("isinstance" : Str)) rfl), He.free_ok X G (c.fact 38 (f := .free ("len" : Str)) rfl), He.free_ok X G (c.fact 39 (f := .free ("list" : Str)) rfl), He.free_ok X G (c.fact 40 (f := .free ("max" : Str)) rfl), He.free_ok X G (c.fact 41 (f := .free ("min" : Str)) rfl), He.free_ok X G (c.fact 42 (f := .free ("range" : Str)) rfl), He.free_ok X G (c.fact 43 (f := .free ("repr" : Str)) rfl), He.free_ok X G (c.fact 44 (f := .free ("set" : Str)) rfl), He.free_ok X G (c.fact 45 (f := .free ("sorted" : Str)) rfl), He.free_ok X G (c.fact 46 (f := .free ("sum" : Str)) rfl), He.free_ok X G (c.fact 47 (f := .free ("tuple" : Str)) rfl), He.free_ok X G (c.fact 48 (f := .free ("zip" : Str)) rfl), He.int_ok X G (c.fact 49 (f := .int ("MOST_LISTED" : Str) 12) rfl), He.int_ok X G (c.fact 50 (f := .int ("MOST_ROWS" : Str) 9) rfl), He.int_ok X G (c.fact 51 (f := .int ("MOST_SIZE" : Str) 30) rfl)⟩
  have e := hf.symm.trans m_law
  cases e
  refine ⟨fd_law, fun s v => FunD.bindsA (ps := ["script"]) F_law (fun _ _ _ _ _ _ us hl => match us, hl with | [_], _ => rfl) s [v] rfl, fun base => ?_⟩
  have c_is_integer := o_is_integer (P := P) (w := w) (base := base) gm m_is_integer F_is_integer
  have c_is_within := o_is_within (P := P) (w := w) (base := base) gm c_is_integer m_is_within F_is_within
  have c_need_number := o_need_number (P := P) (w := w) (base := base) gm c_is_within m_need_number F_need_number
  have c_is_shape_form := o_is_shape_form (P := P) (w := w) (base := base) gm c_is_within m_is_shape_form F_is_shape_form
  have c_need_shape := o_need_shape (P := P) (w := w) (base := base) gm c_is_shape_form m_need_shape F_need_shape
  have c_columns_of := o_columns_of (P := P) (w := w) (base := base) gm m_columns_of F_columns_of
  have c_corner_rows := o_corner_rows (P := P) (w := w) (base := base) gm m_corner_rows F_corner_rows
  have c_spot_rows := o_spot_rows (P := P) (w := w) (base := base) gm m_spot_rows F_spot_rows
  have c_is_inside := o_is_inside (P := P) (w := w) (base := base) gm m_is_inside F_is_inside
  have c_all_shapes := (r_all_shapes (P := P) (w := w) (base := base) gm m_all_shapes F_all_shapes 14).mono (show _ ≤ 15 by omega)
  have c_is_shape := o_is_shape (P := P) (w := w) (base := base) gm c_is_shape_form m_is_shape F_is_shape
  have c_size_of := o_size_of (P := P) (w := w) (base := base) gm c_need_shape m_size_of F_size_of
  have c_turned_shape := o_turned_shape (P := P) (w := w) (base := base) gm c_columns_of c_need_shape m_turned_shape F_turned_shape
  have c_shapes_of := o_shapes_of (P := P) (w := w) (base := base) gm c_all_shapes c_need_number m_shapes_of F_shapes_of
  have c_is_within_shape := o_is_within_shape (P := P) (w := w) (base := base) gm c_is_inside c_need_shape m_is_within_shape F_is_within_shape
  have c_corners_of := o_corners_of (P := P) (w := w) (base := base) gm c_corner_rows c_need_shape m_corners_of F_corners_of
  have c_spots_of := o_spots_of (P := P) (w := w) (base := base) gm c_need_shape c_spot_rows m_spots_of F_spots_of
  have c__law_feed := o__law_feed (P := P) (w := w) (base := base) gm m__law_feed F__law_feed
  have c__law_draw := o__law_draw (P := P) (w := w) (base := base) gm m__law_draw F__law_draw
  have c__law_one := o__law_one (P := P) (w := w) (base := base) gm c__law_draw m__law_one F__law_one
  have c__law_mixed := o__law_mixed (P := P) (w := w) (base := base) gm c__law_draw m__law_mixed F__law_mixed
  have c__law_shape := o__law_shape (P := P) (w := w) (base := base) gm c__law_draw c__law_one m__law_shape F__law_shape
  have c__law_falls := o__law_falls (P := P) (w := w) (base := base) gm m__law_falls F__law_falls
  have c__law_columns := o__law_columns (P := P) (w := w) (base := base) gm m__law_columns F__law_columns
  have c__law_without := o__law_without (P := P) (w := w) (base := base) gm m__law_without F__law_without
  have c__law_with := o__law_with (P := P) (w := w) (base := base) gm m__law_with F__law_with
  have c__law_corners := o__law_corners (P := P) (w := w) (base := base) gm c__law_falls m__law_corners F__law_corners
  have c__law_spots := o__law_spots (P := P) (w := w) (base := base) gm c__law_falls c__law_with m__law_spots F__law_spots
  have c__law_all := o__law_all (P := P) (w := w) (base := base) gm c__law_spots c__law_with m__law_all F__law_all
  have c__law_near := o__law_near (P := P) (w := w) (base := base) gm c__law_corners c__law_draw c__law_one c__law_shape c__law_spots c__law_with c__law_without m__law_near F__law_near
  have c__law_two_right := o__law_two_right (P := P) (w := w) (base := base) gm c__law_columns c_is_within_shape m__law_two_right F__law_two_right
  have c__law_right := o__law_right (P := P) (w := w) (base := base) gm c__law_columns c__law_corners c__law_near c__law_shape c__law_spots c__law_two_right c__law_with c__law_without c_corners_of c_is_shape c_is_within_shape c_size_of c_spots_of c_turned_shape m__law_right F__law_right
  exact k_law (P := P) (w := w) (base := base) gm c__law_all c__law_draw c__law_feed c__law_right c_is_shape c_shapes_of c_size_of m_law F_law
end K02
open PySem PySem.W PySem.Calls PyProof.Rows
theorem K02.holds_of (pure : ∀ ns : List Int, ns.length ≤ 63 → ∃ S, K02.g_law [some (.list (ns.map PyData.int))] = some (.bool true, S)) : PySem.Challenge.rw_rowspushed_k02_whole_shapes.Holds := by
  w_on; o_law
  refine HandSHeadRun.head_any (r := OpenLaw.row PySem.Challenge.rw_rowspushed_k02_whole_shapes) (q := view (OpenLaw.row PySem.Challenge.rw_rowspushed_k02_whole_shapes).prog [43]) (H := K02.hk) (ob := K02.ob) (M := 3000) (loose := K02.looseA) (d := HandSHeadRun.topDef (OpenLaw.row PySem.Challenge.rw_rowspushed_k02_whole_shapes).prog 43) (kwd := []) K02.ob_eq
    (by kernel_rfl) (fun s => by kernel_rfl) K02.run (by kernel_rfl) (by kernel_rfl) (by kernel_rfl) (by rfl) (by first | assumption | decide +kernel) (by decide +kernel) ⟨rfl, rfl, rfl, rfl, rfl, by decide +kernel⟩ ?hw ?hc
  case hw => w_witness2
  case hc =>
    refine FV.law_walk (l := PySem.Challenge.rw_rowspushed_k02_whole_shapes) (n := 63) (k := 17) (x := "script") rfl (by decide) (by kernel_rfl) ⟨rfl, by decide, by decide⟩ ?F
    intro w mg f h a vs Y G hmg0 ha
    obtain ⟨K, KX, c⟩ := Y
    have hmg : mg ("law" : PySem.Str) = some (.ref f) := by
      have e : (HandSHeadRun.topDef (OpenLaw.row PySem.Challenge.rw_rowspushed_k02_whole_shapes).prog 43).name = ("law" : PySem.Str) := by kernel_rfl
      rw [← e]
      exact hmg0
    obtain ⟨fd, hb, hF⟩ := K02.facts (P := (PySem.Challenge.rw_rowspushed_k02_whole_shapes).prog) (w := w) KX G ha hmg c
    exact ⟨FV.cutK K a, fd, K02.g_law, FV.cutK_in KX, FV.cutK_same, hb, fun base _ _ => hF base, pure⟩
end
section
set_option Elab.async false
set_option linter.all false
/-! Shapes: plain mathematics. -/
namespace K02
/-- the part at i, 0 past the end -/
def v (s : List Int) (i : Nat) : Int := s.getD i 0
theorem v_get {s : List Int} {i : Nat} {a : Int} (h : s[i]? = some a) : v s i = a := by
  unfold v
  rw [List.getD_eq_getElem?_getD, h]
  rfl
theorem v_out {s : List Int} {i : Nat} (h : s.length ≤ i) : v s i = 0 := by
  unfold v
  rw [List.getD_eq_getElem?_getD, List.getElem?_eq_none h]
  rfl
theorem get_v {s : List Int} {i : Nat} (h : i < s.length) : s[i]? = some (v s i) := by
  unfold v
  rw [List.getD_eq_getElem?_getD, List.getElem?_eq_getElem h]
  rfl
theorem v_mem {s : List Int} {i : Nat} (h : i < s.length) : v s i ∈ s := List.mem_of_getElem? (get_v h)
theorem mem_v {s : List Int} {x : Int} (h : x ∈ s) : ∃ i, i < s.length ∧ v s i = x := by
  obtain ⟨i, hi⟩ := List.mem_iff_getElem?.mp h
  refine ⟨i, ?_, v_get hi⟩
  cases Nat.lt_or_ge i s.length with
  | inl h => exact h
  | inr h => rw [List.getElem?_eq_none h] at hi; cases hi
theorem ext_v {s t : List Int} (h : s.length = t.length) (e : ∀ i, i < s.length → v s i = v t i) : s = t := by
  refine List.ext_getElem? fun i => ?_
  cases Nat.lt_or_ge i s.length with
  | inl hi => rw [get_v hi, get_v (by omega), e i hi]
  | inr hi => rw [List.getElem?_eq_none hi, List.getElem?_eq_none (by omega)]
theorem v_set {s : List Int} {i j : Nat} {a : Int} (h : i < s.length) : v (s.set i a) j = if j = i then a else v s j := by
  unfold v
  rw [List.getD_eq_getElem?_getD, List.getD_eq_getElem?_getD, List.getElem?_set]
  by_cases e : i = j
  · subst e; simp [h]
  · simp [e, Ne.symm e]
theorem v_app {s : List Int} {j : Nat} {a : Int} : v (s ++ [a]) j = if j = s.length then a else v s j := by
  unfold v
  rw [List.getD_eq_getElem?_getD, List.getD_eq_getElem?_getD]
  by_cases h : j < s.length
  · rw [List.getElem?_append_left h, if_neg (by omega)]
  · rw [List.getElem?_append_right (by omega)]
    by_cases e : j = s.length
    · subst e; simp
    · rw [if_neg e, List.getElem?_eq_none (by simp; omega), List.getElem?_eq_none (by omega)]
/-- no part is less than the next -/
def falls (t : List Int) : Bool := (t.zip (t.drop 1)).all fun q => decide (¬ q.1 < q.2)
def Desc (t : List Int) : Prop := ∀ i, i + 1 < t.length → v t (i + 1) ≤ v t i
theorem zip_drop {t : List Int} {i : Nat} {q : Int × Int} : (t.zip (t.drop 1))[i]? = some q ↔ i + 1 < t.length ∧ q = (v t i, v t (i + 1)) := by
  obtain ⟨a, b⟩ := q
  rw [List.getElem?_zip_eq_some, List.getElem?_drop]
  constructor
  · rintro ⟨h1, h2⟩
    rw [Nat.add_comm] at h2
    have hl : i + 1 < t.length := by
      cases Nat.lt_or_ge (i + 1) t.length with
      | inl h => exact h
      | inr h => rw [List.getElem?_eq_none h] at h2; cases h2
    dsimp only at h1 h2
    exact ⟨hl, by rw [v_get h1, v_get h2]⟩
  · rintro ⟨h, e⟩
    cases e
    exact ⟨get_v (by omega), by rw [Nat.add_comm]; exact get_v h⟩
theorem falls_iff {t : List Int} : falls t = true ↔ Desc t := by
  unfold falls
  rw [List.all_eq_true]
  constructor
  · intro h i hi
    have := h (v t i, v t (i + 1)) (List.mem_of_getElem? (i := i) (zip_drop.mpr ⟨hi, rfl⟩))
    simp at this
    exact this
  · rintro h q hq
    obtain ⟨i, hi⟩ := List.mem_iff_getElem?.mp hq
    obtain ⟨h1, rfl⟩ := zip_drop.mp hi
    have := h i h1
    simp
    omega
theorem falls_ge {t : List Int} : ((t.zip (t.drop 1)).all fun q => decide (q.2 ≤ q.1)) = falls t := by
  unfold falls
  congr 1
  funext q
  simp
structure Sh (s : List Int) : Prop where
  len : s.length ≤ 9
  pos : ∀ x ∈ s, 1 ≤ x
  sum : s.sum ≤ 30
  desc : Desc s
theorem Desc.le {s : List Int} (h : Desc s) (p : ∀ x ∈ s, 0 ≤ x) {i j : Nat} (hij : i ≤ j) : v s j ≤ v s i := by
  induction hij with
  | refl => exact Int.le_refl _
  | @step m hm ih =>
    cases Nat.lt_or_ge (m + 1) s.length with
    | inl hl => exact Int.le_trans (h m hl) ih
    | inr hl =>
      rw [Nat.succ_eq_add_one, v_out hl]
      cases Nat.lt_or_ge i s.length with
      | inl hi => exact p _ (v_mem hi)
      | inr hi => rw [v_out hi]; exact Int.le_refl _
theorem sum_ge : ∀ {s : List Int}, (∀ x ∈ s, 0 ≤ x) → 0 ≤ s.sum ∧ ∀ x ∈ s, x ≤ s.sum
  | [], _ => ⟨by simp, fun x hx => nomatch hx⟩
  | a :: s, h => by
    obtain ⟨h1, h2⟩ := sum_ge (s := s) fun x hx => h x (List.mem_cons_of_mem _ hx)
    have ha := h a (by simp)
    rw [List.sum_cons]
    refine ⟨by omega, fun x hx => ?_⟩
    rcases List.mem_cons.mp hx with e | e
    · omega
    · have := h2 x e; omega
theorem Sh.pos0 {s : List Int} (h : Sh s) : ∀ x ∈ s, 0 ≤ x := fun x hx => by have := h.pos x hx; omega
theorem Sh.most {s : List Int} (h : Sh s) {x : Int} (hx : x ∈ s) : x ≤ 30 := Int.le_trans ((sum_ge h.pos0).2 x hx) h.sum
theorem Sh.v0 {s : List Int} (h : Sh s) (i : Nat) : 0 ≤ v s i := by
  cases Nat.lt_or_ge i s.length with
  | inl hi => exact h.pos0 _ (v_mem hi)
  | inr hi => rw [v_out hi]; exact Int.le_refl _
theorem Sh.v1 {s : List Int} (h : Sh s) {i : Nat} (hi : i < s.length) : 1 ≤ v s i := h.pos _ (v_mem hi)
/-- the form that the program asks -/
def shB (s : List Int) : Bool := decide (s.length ≤ 9) && (s.all (fun x => decide (1 ≤ x) && decide (x ≤ 30)) && (decide (s.sum ≤ 30) && falls s))
theorem shB_iff {s : List Int} : shB s = true ↔ Sh s := by
  unfold shB
  rw [Bool.and_eq_true, Bool.and_eq_true, Bool.and_eq_true, decide_eq_true_eq, decide_eq_true_eq, falls_iff, List.all_eq_true]
  constructor
  · rintro ⟨h1, h2, h3, h4⟩
    exact ⟨h1, fun x hx => by have := h2 x hx; simp at this; omega, h3, h4⟩
  · intro h
    exact ⟨h.len, fun x hx => by have := h.pos x hx; have := h.most hx; simp; omega, h.sum, h.desc⟩
/-! ### corners and spots -/
def cornersN (s : List Int) : List Nat := (List.range s.length).filter fun i => decide (v s (i + 1) < v s i)
def spotsN (s : List Int) : List Nat := ((List.range s.length).filter fun i => decide (i = 0) || decide (v s i < v s (i - 1))) ++ (if s.length < 9 then [s.length] else [])
def lower (s : List Int) (i : Nat) : List Int := s.set i (v s i - 1)
def upper (s : List Int) (i : Nat) : List Int := if i < s.length then s.set i (v s i + 1) else s ++ [1]
theorem falls_lower {s : List Int} (h : Sh s) {i : Nat} (hi : i < s.length) : falls (lower s i) = decide (v s (i + 1) < v s i) := by
  rw [Bool.eq_iff_iff, falls_iff, decide_eq_true_eq]
  unfold lower
  constructor
  · intro d
    by_cases e : i + 1 < s.length
    · have := d i (by rw [List.length_set]; exact e)
      rw [v_set hi, v_set hi, if_neg (by omega), if_pos rfl] at this
      omega
    · rw [v_out (by omega)]
      have := h.v1 hi
      omega
  · intro hd k hk
    rw [List.length_set] at hk
    rw [v_set hi, v_set hi]
    have := h.desc k hk
    by_cases e1 : k + 1 = i
    · rw [if_pos e1, if_neg (by omega)]
      rw [e1] at this
      omega
    · rw [if_neg e1]
      by_cases e2 : k = i
      · rw [if_pos e2, e2]; omega
      · rw [if_neg e2]; exact this
theorem falls_upper {s : List Int} (h : Sh s) {i : Nat} (hi : i < s.length) : falls (upper s i) = (decide (i = 0) || decide (v s i < v s (i - 1))) := by
  rw [Bool.eq_iff_iff, falls_iff, Bool.or_eq_true, decide_eq_true_eq, decide_eq_true_eq]
  unfold upper
  rw [if_pos hi]
  constructor
  · intro d
    by_cases e : i = 0
    · exact .inl e
    · right
      have := d (i - 1) (by rw [List.length_set]; omega)
      rw [v_set hi, v_set hi, if_pos (by omega), if_neg (by omega)] at this
      omega
  · intro hd k hk
    rw [List.length_set] at hk
    rw [v_set hi, v_set hi]
    have := h.desc k hk
    by_cases e1 : k + 1 = i
    · rw [if_pos e1, if_neg (by omega)]
      rcases hd with hd | hd
      · omega
      · have e2 : i - 1 = k := by omega
        rw [e2] at hd
        omega
    · rw [if_neg e1]
      by_cases e2 : k = i
      · subst e2
        rw [if_pos rfl]
        omega
      · rw [if_neg e2]; exact this
theorem falls_end {s : List Int} (h : Sh s) : falls (upper s s.length) = true := by
  rw [falls_iff]
  unfold upper
  rw [if_neg (by omega)]
  intro k hk
  rw [List.length_append, List.length_singleton] at hk
  rw [v_app (j := k), if_neg (show ¬ k = s.length by omega), v_app]
  by_cases e : k + 1 = s.length
  · rw [if_pos e]; exact h.v1 (by omega)
  · rw [if_neg e]; exact h.desc k (by omega)
theorem corners_law {s : List Int} (h : Sh s) : ((List.range s.length).filter fun i => falls (lower s i)) = cornersN s := by
  unfold cornersN
  refine List.filter_congr fun i hi => ?_
  exact falls_lower h (List.mem_range.mp hi)
theorem spots_law {s : List Int} (h : Sh s) : ((List.range (min 9 (s.length + 1))).filter fun i => falls (upper s i)) = spotsN s := by
  unfold spotsN
  have e1 : ∀ n, n ≤ s.length → ((List.range n).filter fun i => falls (upper s i)) = (List.range n).filter fun i => decide (i = 0) || decide (v s i < v s (i - 1)) := fun n hn =>
    List.filter_congr fun i hi => falls_upper h (by have := List.mem_range.mp hi; omega)
  by_cases hl : s.length < 9
  · rw [if_pos hl, show min 9 (s.length + 1) = s.length + 1 by omega, List.range_succ, List.filter_append, e1 _ (Nat.le_refl _)]
    congr 1
    simp [falls_end h]
  · have : s.length = 9 := by have := h.len; omega
    rw [if_neg hl, show min 9 (s.length + 1) = s.length by omega, e1 _ (Nat.le_refl _), List.append_nil]
/-! ### columns -/
def cnt (s : List Int) (j : Nat) : Nat := (s.filter fun x => decide ((j : Int) < x)).length
def colN (s : List Int) (m : Nat) : List Int := (List.range m).map fun j => (cnt s j : Int)
def colF (s : List Int) : List Int := colN s (v s 0).toNat
theorem cnt_iff {s : List Int} (h : Desc s) (p : ∀ x ∈ s, 0 ≤ x) {i j : Nat} : i < cnt s j ↔ (j : Int) < v s i := by
  unfold cnt
  induction s generalizing i with
  | nil =>
    have : v [] i = 0 := v_out (by simp)
    rw [this]
    simp
  | cons a s ih =>
    have hd : Desc s := fun k hk => h (k + 1) (by simp; omega)
    have ps : ∀ x ∈ s, 0 ≤ x := fun x hx => p x (List.mem_cons_of_mem _ hx)
    have e1 : v (a :: s) 0 = a := rfl
    have e2 : ∀ k, v (a :: s) (k + 1) = v s k := fun k => rfl
    by_cases hj : (j : Int) < a
    · rw [List.filter_cons, if_pos (by simpa using hj), List.length_cons]
      cases i with
      | zero => rw [e1]; exact ⟨fun _ => hj, fun _ => by omega⟩
      | succ i => rw [e2, ← ih hd ps]; omega
    · rw [List.filter_cons, if_neg (by simpa using hj)]
      have hz : (s.filter fun x => decide ((j : Int) < x)) = [] := by
        rw [List.filter_eq_nil_iff]
        intro x hx
        obtain ⟨k, hk, rfl⟩ := mem_v hx
        have h1 : v (a :: s) (k + 1) ≤ v (a :: s) 0 := h.le p (by omega)
        rw [e1, e2] at h1
        simp
        omega
      rw [hz]
      have h1 : v (a :: s) i ≤ v (a :: s) 0 := h.le p (by omega)
      rw [e1] at h1
      simp
      omega
theorem colN_len {s : List Int} {m : Nat} : (colN s m).length = m := by simp [colN]
theorem colN_v {s : List Int} {m j : Nat} (h : j < m) : v (colN s m) j = cnt s j := by
  refine v_get ?_
  unfold colN
  rw [List.getElem?_map, List.getElem?_range h]
  rfl
theorem Sh.head {s : List Int} (h : Sh s) : ((v s 0).toNat : Int) = v s 0 := by have := h.v0 0; omega
theorem colF_len {s : List Int} : (colF s).length = (v s 0).toNat := colN_len
theorem cnt_le {s : List Int} {j : Nat} : cnt s j ≤ s.length := List.length_filter_le _ _
theorem colF_v {s : List Int} (h : Sh s) (j : Nat) : v (colF s) j = cnt s j := by
  by_cases hj : j < (v s 0).toNat
  · exact colN_v hj
  · rw [v_out (by rw [colF_len]; omega)]
    have hn : ¬ 0 < cnt s j := fun z => by
      have := (cnt_iff h.desc h.pos0).mp z
      have := h.v0 0
      omega
    omega
theorem cell_col {s : List Int} (h : Sh s) {i j : Nat} : (i : Int) < v (colF s) j ↔ (j : Int) < v s i := by
  rw [colF_v h, ← cnt_iff h.desc h.pos0]
  omega
theorem v_ext {s t : List Int} (hs : ∀ x ∈ s, 1 ≤ x) (ht : ∀ x ∈ t, 1 ≤ x) (h : ∀ i j : Nat, (j : Int) < v s i ↔ (j : Int) < v t i) : s = t := by
  have nz : ∀ {u : List Int}, (∀ x ∈ u, 1 ≤ x) → ∀ i, 0 ≤ v u i := fun hu i => by
    cases Nat.lt_or_ge i _ with
    | inl hi => have := hu _ (v_mem hi); omega
    | inr hi => rw [v_out hi]; exact Int.le_refl _
  have e : ∀ i, v s i = v t i := fun i => by
    have h1 := nz hs i
    have h2 := nz ht i
    have a := h i (v s i).toNat
    have b := h i (v t i).toNat
    omega
  have l : ∀ {u w : List Int}, (∀ x ∈ u, 1 ≤ x) → (∀ i, v u i = v w i) → u.length ≤ w.length := fun {u w} hu e => by
    cases Nat.lt_or_ge w.length u.length with
    | inr h => exact h
    | inl h =>
      have h1 := hu _ (v_mem h)
      rw [e, v_out (Nat.le_refl _)] at h1
      omega
  exact ext_v (Nat.le_antisymm (l hs e) (l ht fun i => (e i).symm)) fun i _ => e i
theorem colF_pos {s : List Int} (h : Sh s) : ∀ x ∈ colF s, 1 ≤ x := fun x hx => by
  obtain ⟨j, hj, rfl⟩ := mem_v hx
  rw [colF_len] at hj
  have := (cell_col h (i := 0) (j := j)).mpr (by have := h.head; omega)
  omega
theorem colF_desc {s : List Int} (h : Sh s) : Desc (colF s) := fun j _ => by
  rw [colF_v h, colF_v h]
  have : ∀ i, i < cnt s (j + 1) → i < cnt s j := fun i hi => by
    rw [cnt_iff h.desc h.pos0] at hi ⊢
    omega
  cases Nat.lt_or_ge (cnt s j) (cnt s (j + 1)) with
  | inl hlt => have := this _ hlt; omega
  | inr hge => omega
theorem colF_head {s : List Int} (h : Sh s) : v (colF s) 0 = s.length := by
  rw [colF_v h]
  unfold cnt
  rw [List.filter_eq_self.mpr fun x hx => by have := h.pos x hx; simp; omega]
theorem sum_filter {s : List Int} : ∀ {m : Nat}, (∀ x ∈ s, 0 ≤ x ∧ x ≤ m) → ((List.range m).map fun j => (cnt s j : Int)).sum = s.sum := by
  induction s with
  | nil =>
    intro m _
    have : (fun j : Nat => ((cnt [] j : Nat) : Int)) = fun _ => 0 := rfl
    rw [this]
    induction m with
    | zero => rfl
    | succ m ih => rw [List.range_succ, List.map_append, List.sum_append, ih (fun x hx => nomatch hx)]; rfl
  | cons a s ih =>
    intro m h
    have hs := ih (m := m) fun x hx => h x (List.mem_cons_of_mem _ hx)
    have ha := h a (by simp)
    rw [List.sum_cons, ← hs]
    have key : ∀ n : Nat, ((List.range n).map fun j => (cnt (a :: s) j : Int)).sum = min a (n : Int) + ((List.range n).map fun j => (cnt s j : Int)).sum := by
      intro n
      induction n with
      | zero => simp; omega
      | succ n ihn =>
        rw [List.range_succ, List.map_append, List.sum_append, List.map_append, List.sum_append, ihn]
        have e : cnt (a :: s) n = (if (n : Int) < a then 1 else 0) + cnt s n := by
          unfold cnt
          rw [List.filter_cons]
          by_cases hn : (n : Int) < a
          · rw [if_pos (by simpa using hn), if_pos hn, List.length_cons]; omega
          · rw [if_neg (by simpa using hn), if_neg hn]; omega
        simp only [List.map_cons, List.map_nil, List.sum_cons, List.sum_nil]
        rw [e]
        by_cases hn : (n : Int) < a
        · rw [if_pos hn]; omega
        · rw [if_neg hn]; omega
    rw [key m]
    omega
theorem colF_sum {s : List Int} (h : Sh s) : (colF s).sum = s.sum := by
  refine sum_filter fun x hx => ⟨h.pos0 x hx, ?_⟩
  obtain ⟨i, hi, rfl⟩ := mem_v hx
  rw [h.head]
  exact h.desc.le h.pos0 (Nat.zero_le i)
theorem colF_sh {s : List Int} (h : Sh s) : Sh (colF s) ↔ (colF s).length ≤ 9 :=
  ⟨fun c => c.len, fun l => ⟨l, colF_pos h, by rw [colF_sum h]; exact h.sum, colF_desc h⟩⟩
theorem colF_colF {s : List Int} (h : Sh s) (l : (colF s).length ≤ 9) : colF (colF s) = s := by
  have c := (colF_sh h).mpr l
  exact v_ext (colF_pos c) h.pos fun i j => by rw [cell_col c, cell_col h]
/-! ### one shape in another -/
def subB (s t : List Int) : Bool := decide (s.length ≤ t.length) && (s.zip t).all fun q => decide (q.1 ≤ q.2)
theorem subB_iff {s t : List Int} (ps : ∀ x ∈ s, 1 ≤ x) (pt : ∀ x ∈ t, 1 ≤ x) : subB s t = true ↔ ∀ i, v s i ≤ v t i := by
  unfold subB
  rw [Bool.and_eq_true, decide_eq_true_eq, List.all_eq_true]
  constructor
  · rintro ⟨h1, h2⟩ i
    cases Nat.lt_or_ge i s.length with
    | inl hi =>
      have := h2 (v s i, v t i) (List.mem_of_getElem? (i := i) (List.getElem?_zip_eq_some.mpr ⟨get_v hi, get_v (by omega)⟩))
      simpa using this
    | inr hi =>
      rw [v_out hi]
      cases Nat.lt_or_ge i t.length with
      | inl hi => have := pt _ (v_mem hi); omega
      | inr hi => rw [v_out hi]; exact Int.le_refl _
  · intro h
    have hl : s.length ≤ t.length := by
      cases Nat.lt_or_ge t.length s.length with
      | inr h => exact h
      | inl hlt =>
        have h1 := ps _ (v_mem hlt)
        have h2 := h t.length
        rw [v_out (Nat.le_refl _)] at h2
        omega
    refine ⟨hl, fun q hq => ?_⟩
    obtain ⟨a, b⟩ := q
    obtain ⟨i, hi⟩ := List.mem_iff_getElem?.mp hq
    obtain ⟨h1, h2⟩ := List.getElem?_zip_eq_some.mp hi
    have := h i
    dsimp only at h1 h2
    rw [v_get h1, v_get h2] at this
    simpa using this
theorem sub_cell {s t : List Int} (hs : ∀ i, 0 ≤ v s i) (ht : ∀ i, 0 ≤ v t i) : (∀ i, v s i ≤ v t i) ↔ ∀ i j : Nat, (j : Int) < v s i → (j : Int) < v t i := by
  constructor
  · intro h i j hj
    have := h i
    omega
  · intro h i
    have h1 := hs i
    have h2 := ht i
    have := h i (v t i).toNat
    omega
theorem colF_v0 {s : List Int} (h : Sh s) (j : Nat) : 0 ≤ v (colF s) j := by rw [colF_v h]; omega
theorem sub_col {s t : List Int} (hs : Sh s) (ht : Sh t) : subB (colF s) (colF t) = subB s t := by
  rw [Bool.eq_iff_iff, subB_iff (colF_pos hs) (colF_pos ht), subB_iff hs.pos ht.pos, sub_cell (colF_v0 hs) (colF_v0 ht), sub_cell hs.v0 ht.v0]
  constructor
  · intro h i j hj
    have := h j i ((cell_col hs).mpr hj)
    exact (cell_col ht).mp this
  · intro h i j hj
    exact (cell_col ht).mpr (h j i ((cell_col hs).mp hj))
theorem sub_anti {s t : List Int} (hs : Sh s) (ht : Sh t) (h1 : subB s t = true) (h2 : subB t s = true) : s = t := by
  rw [subB_iff hs.pos ht.pos] at h1
  rw [subB_iff ht.pos hs.pos] at h2
  exact v_ext hs.pos ht.pos fun i j => by
    have := h1 i
    have := h2 i
    omega
theorem sub_self {s : List Int} (hs : Sh s) : subB s s = true := (subB_iff hs.pos hs.pos).mpr fun _ => Int.le_refl _
/-! ### one less, one more -/
theorem v_filter : ∀ {t : List Int}, Desc t → (∀ x ∈ t, 0 ≤ x) → ∀ k, v (t.filter fun x => decide (0 < x)) k = v t k
  | [], _, _, _ => rfl
  | a :: t, d, p, k => by
    have dt : Desc t := fun k hk => d (k + 1) (by simp; omega)
    have pt : ∀ x ∈ t, 0 ≤ x := fun x hx => p x (List.mem_cons_of_mem _ hx)
    have e1 : v (a :: t) 0 = a := rfl
    have e2 : ∀ k, v (a :: t) (k + 1) = v t k := fun k => rfl
    by_cases ha : 0 < a
    · rw [List.filter_cons, if_pos (by simpa using ha)]
      cases k with
      | zero => rfl
      | succ k =>
        rw [e2, ← v_filter dt pt k]
        rfl
    · have z : ∀ k, v (a :: t) k = 0 := fun k => by
        have h1 := d.le p (Nat.zero_le k)
        rw [e1] at h1
        have h2 : 0 ≤ v (a :: t) k := by
          cases Nat.lt_or_ge k (a :: t).length with
          | inl h => exact p _ (v_mem h)
          | inr h => rw [v_out h]; exact Int.le_refl _
        omega
      rw [z]
      have hz : ((a :: t).filter fun x => decide (0 < x)) = [] := by
        rw [List.filter_eq_nil_iff]
        intro x hx
        obtain ⟨i, _, rfl⟩ := mem_v hx
        rw [z]
        simp
      rw [hz]
      exact v_out (by simp)
theorem sum_pos : ∀ {t : List Int}, (∀ x ∈ t, 0 ≤ x) → (t.filter fun x => decide (0 < x)).sum = t.sum
  | [], _ => rfl
  | a :: t, p => by
    have ih := sum_pos (t := t) fun x hx => p x (List.mem_cons_of_mem _ hx)
    have ha := p a (by simp)
    rw [List.filter_cons, List.sum_cons]
    by_cases h : 0 < a
    · rw [if_pos (by simpa using h), List.sum_cons, ih]
    · rw [if_neg (by simpa using h), ih]; omega
theorem sum_set : ∀ {s : List Int} {i : Nat} {a : Int}, i < s.length → (s.set i a).sum = s.sum - v s i + a
  | [], _, _, h => by simp at h
  | b :: s, 0, a, _ => by
    show (a :: s).sum = _
    rw [List.sum_cons, List.sum_cons]
    show a + s.sum = b + s.sum - b + a
    omega
  | b :: s, i + 1, a, h => by
    show (b :: s.set i a).sum = _
    rw [List.sum_cons, List.sum_cons, sum_set (by simpa using h)]
    show b + (s.sum - v s i + a) = b + s.sum - v s i + a
    omega
def without (s : List Int) (i : Nat) : List Int := (lower s i).filter fun x => decide (0 < x)
theorem corners_mem {s : List Int} {i : Nat} : i ∈ cornersN s ↔ i < s.length ∧ v s (i + 1) < v s i := by
  unfold cornersN
  rw [List.mem_filter, List.mem_range, decide_eq_true_eq]
theorem spots_mem {s : List Int} {i : Nat} : i ∈ spotsN s ↔ (i < s.length ∧ (i = 0 ∨ v s i < v s (i - 1))) ∨ (s.length < 9 ∧ i = s.length) := by
  unfold spotsN
  rw [List.mem_append, List.mem_filter, List.mem_range, Bool.or_eq_true, decide_eq_true_eq, decide_eq_true_eq]
  by_cases h : s.length < 9
  · simp [h]
  · simp [h]
theorem lower_pos {s : List Int} (h : Sh s) {i : Nat} (hi : i < s.length) : ∀ x ∈ lower s i, 0 ≤ x := fun x hx => by
  unfold lower at hx
  rcases List.mem_or_eq_of_mem_set hx with z | z
  · exact h.pos0 x z
  · have := h.v1 hi; omega
theorem without_v {s : List Int} (h : Sh s) {i : Nat} (hc : i ∈ cornersN s) (k : Nat) : v (without s i) k = if k = i then v s i - 1 else v s k := by
  obtain ⟨hi, hl⟩ := corners_mem.mp hc
  have d : Desc (lower s i) := falls_iff.mp (by rw [falls_lower h hi]; simpa using hl)
  unfold without
  rw [v_filter d (lower_pos h hi)]
  unfold lower
  exact v_set hi
theorem without_sum {s : List Int} (h : Sh s) {i : Nat} (hi : i < s.length) : (without s i).sum = s.sum - 1 := by
  unfold without
  rw [sum_pos (lower_pos h hi)]
  unfold lower
  rw [sum_set hi]
  omega
theorem without_len {s : List Int} {i : Nat} : (without s i).length ≤ s.length := by
  unfold without lower
  exact Nat.le_trans (List.length_filter_le _ _) (by rw [List.length_set]; exact Nat.le_refl _)
theorem without_sh {s : List Int} (h : Sh s) {i : Nat} (hc : i ∈ cornersN s) : Sh (without s i) := by
  obtain ⟨hi, hl⟩ := corners_mem.mp hc
  refine ⟨Nat.le_trans without_len h.len, fun x hx => ?_, by rw [without_sum h hi]; have := h.sum; omega, fun k hk => ?_⟩
  · unfold without at hx
    have := (List.mem_filter.mp hx).2
    simp at this
    omega
  · rw [without_v h hc, without_v h hc]
    have hk' : k + 1 < s.length := Nat.lt_of_lt_of_le hk without_len
    have := h.desc k hk'
    by_cases e1 : k + 1 = i
    · subst e1
      rw [if_pos rfl, if_neg (by omega)]
      omega
    · rw [if_neg e1]
      by_cases e2 : k = i
      · subst e2
        rw [if_pos rfl]
        omega
      · rw [if_neg e2]; exact this
theorem without_spot {s : List Int} (h : Sh s) {i : Nat} (hc : i ∈ cornersN s) : i ∈ spotsN (without s i) := by
  obtain ⟨hi, hl⟩ := corners_mem.mp hc
  have hw := without_sh h hc
  rw [spots_mem]
  by_cases hlt : i < (without s i).length
  · left
    refine ⟨hlt, ?_⟩
    by_cases e : i = 0
    · exact .inl e
    · right
      rw [without_v h hc, without_v h hc, if_pos rfl, if_neg (by omega)]
      have := h.desc (i - 1) (by omega)
      rw [show i - 1 + 1 = i by omega] at this
      omega
  · right
    have e : i = (without s i).length := by
      refine Nat.le_antisymm ?_ (by omega)
      by_cases e : i = 0
      · omega
      · have h1 := h.v1 (i := i - 1) (by omega)
        have h2 := without_v h hc (i - 1)
        rw [if_neg (by omega)] at h2
        cases Nat.lt_or_ge (i - 1) (without s i).length with
        | inl h => omega
        | inr h => rw [v_out h] at h2; omega
    have := h.len
    exact ⟨by omega, e⟩
theorem without_sub {s : List Int} (h : Sh s) {i : Nat} (hc : i ∈ cornersN s) : subB (without s i) s = true := by
  rw [subB_iff (without_sh h hc).pos h.pos]
  intro k
  rw [without_v h hc]
  by_cases e : k = i
  · rw [if_pos e, e]; omega
  · rw [if_neg e]; exact Int.le_refl _
theorem upper_v {s : List Int} {i : Nat} (hi : i ≤ s.length) (k : Nat) : v (upper s i) k = if k = i then v s i + 1 else v s k := by
  unfold upper
  by_cases h : i < s.length
  · rw [if_pos h]; exact v_set h
  · have e : i = s.length := by omega
    subst e
    rw [if_neg h, v_app]
    by_cases e : k = s.length
    · rw [if_pos e, if_pos e, v_out (Nat.le_refl _)]; rfl
    · rw [if_neg e, if_neg e]
theorem upper_len {s : List Int} {i : Nat} : (upper s i).length = if i < s.length then s.length else s.length + 1 := by
  unfold upper
  by_cases h : i < s.length
  · rw [if_pos h, if_pos h, List.length_set]
  · rw [if_neg h, if_neg h]; simp
theorem upper_sum {s : List Int} {i : Nat} : (upper s i).sum = s.sum + 1 := by
  unfold upper
  by_cases h : i < s.length
  · rw [if_pos h, sum_set h]; omega
  · rw [if_neg h, List.sum_append]; simp
theorem spot_le {s : List Int} {i : Nat} (hc : i ∈ spotsN s) : i ≤ s.length ∧ (i = s.length → s.length < 9) := by
  rcases spots_mem.mp hc with ⟨h, _⟩ | ⟨h, e⟩
  · exact ⟨by omega, fun e => by omega⟩
  · exact ⟨by omega, fun _ => h⟩
theorem upper_sh {s : List Int} (h : Sh s) {i : Nat} (hc : i ∈ spotsN s) (hs : s.sum < 30) : Sh (upper s i) := by
  obtain ⟨hi, h9⟩ := spot_le hc
  refine ⟨?_, fun x hx => ?_, by rw [upper_sum]; omega, ?_⟩
  · rw [upper_len]
    have := h.len
    split
    · exact this
    · have := h9 (by omega); omega
  · unfold upper at hx
    split at hx
    · rename_i hl
      rcases List.mem_or_eq_of_mem_set hx with z | z
      · exact h.pos x z
      · have := h.v1 hl; omega
    · rcases List.mem_append.mp hx with z | z
      · exact h.pos x z
      · have : x = 1 := by simpa using z
        omega
  · rcases spots_mem.mp hc with ⟨hl, hd⟩ | ⟨hl, e⟩
    · rw [← falls_iff, falls_upper h hl, Bool.or_eq_true, decide_eq_true_eq, decide_eq_true_eq]
      exact hd
    · rw [e, ← falls_iff]
      exact falls_end h
theorem upper_corner {s : List Int} (h : Sh s) {i : Nat} (hc : i ∈ spotsN s) : i ∈ cornersN (upper s i) := by
  obtain ⟨hi, _⟩ := spot_le hc
  rw [corners_mem, upper_v hi, upper_v hi, if_neg (by omega), if_pos rfl, upper_len]
  refine ⟨by split <;> omega, ?_⟩
  by_cases e : i + 1 < s.length
  · have := h.desc i e; omega
  · rw [v_out (by omega)]
    have := h.v0 i
    omega
theorem upper_sub {s : List Int} (h : Sh s) {i : Nat} (hc : i ∈ spotsN s) (hs : s.sum < 30) : subB s (upper s i) = true := by
  rw [subB_iff h.pos (upper_sh h hc hs).pos]
  intro k
  rw [upper_v (spot_le hc).1]
  by_cases e : k = i
  · rw [if_pos e, e]; omega
  · rw [if_neg e]; exact Int.le_refl _
theorem drop_sh {s : List Int} (h : Sh s) : Sh (s.drop 1) := by
  cases s with
  | nil => exact h
  | cons a s =>
    show Sh s
    have := h.pos a (by simp)
    have hs := h.sum
    rw [List.sum_cons] at hs
    exact ⟨by have := h.len; simp at this; omega, fun x hx => h.pos x (List.mem_cons_of_mem _ hx), by omega, fun k hk => h.desc (k + 1) (by simp; omega)⟩
theorem nil_sh : Sh [] := ⟨by simp, (fun x hx => nomatch hx), by simp, fun k hk => by simp at hk⟩
theorem nil_sub (s : List Int) : subB [] s = true := by simp [subB]
theorem spots_len {s : List Int} (h : Sh s) : ((List.range s.length).filter fun i => decide (i = 0) || decide (v s i < v s (i - 1))).length = (cornersN s).length := by
  unfold cornersN
  cases hs : s.length with
  | zero => rfl
  | succ m =>
    have l1 : ((List.range (m + 1)).filter fun i => decide (v s (i + 1) < v s i)) = ((List.range m).filter fun i => decide (v s (i + 1) < v s i)) ++ [m] := by
      rw [List.range_succ, List.filter_append]
      congr 1
      have h1 := h.v1 (i := m) (by omega)
      have h2 : v s (m + 1) = 0 := v_out (by omega)
      rw [List.filter_cons, if_pos (by rw [h2]; simp; omega)]
      simp
    have l2 : ((List.range (m + 1)).filter fun i => decide (i = 0) || decide (v s i < v s (i - 1))) = 0 :: (((List.range m).filter fun i => decide (v s (i + 1) < v s i)).map (· + 1)) := by
      rw [List.range_succ_eq_map, List.filter_cons, if_pos (by simp), List.filter_map]
      congr 2
    rw [l1, l2]
    simp
theorem spots_count {s : List Int} (h : Sh s) : (spotsN s).length = (cornersN s).length + (if s.length < 9 then 1 else 0) := by
  unfold spotsN
  rw [List.length_append, spots_len h]
  split <;> rfl
end K02
end
section
set_option Elab.async false
set_option linter.all false
set_option maxRecDepth 100000
set_option maxHeartbeats 4000000
namespace K02
open PySem PySem.Spec L2 FV
theorem zip_pair {s t : List Int} : (((s.map PyData.int).zip (t.map PyData.int)).map fun z => PyData.tuple [z.1, z.2]) = (s.zip t).map fun q => PyData.tuple [.int q.1, .int q.2] := by
  rw [List.zip_map, List.map_map]
  rfl
theorem p_is_integer (i : Int) : g_is_integer [some (.int i)] = some (.bool true, [some (.int i)]) := by
  rfl
theorem p_is_within (i a b : Int) : g_is_within [some (.int i), some (.int a), some (.int b)] = some (.bool (decide (a ≤ i) && decide (i ≤ b)), [some (.int i), some (.int a), some (.int b)]) := by
  refine gFn_rt (seq_rt (ret_ (mAnd_ (b := true) (mCall0_ (mCons_ (mVar_ rfl) mNil_) (p_is_integer i)) fun _ => ?_)))
  unfold mChain
  simp [mVar, gt, gLe, gCmp]
  by_cases h : a ≤ i
  · simp [h]
  · simp [h]
theorem p_is_shape_form (s : List Int) (hl : s.length ≤ 1000) : g_is_shape_form [some (Ti s)] = some (.bool (shB s), [some (Ti s)]) := by
  have hz : s.length ≤ sizeLine := by rw [sz]; omega
  let S0 : Sl := [some (Ti s), none, none, none]
  have c1 : mOr (m1 gNot (m1 (gInst "tuple") (mVar 0))) (m2 gGt (mL (g1 gLen) (mCons (mVar 0) mNil)) (mC (.int 9))) S0 = some (.bool (decide (9 < (s.length : Int))), S0) := by
    have := mOr_ (b := false) (p := decide (9 < (s.length : Int))) (S := S0) (fa := m1 gNot (m1 (gInst "tuple") (mVar 0))) (fb := m2 gGt (mL (g1 gLen) (mCons (mVar 0) mNil)) (mC (.int 9))) rfl fun _ =>
      m2_ (mL_ (mCons_ (mVar_ rfl) mNil_) gLen_T) mC_ rfl
    simpa using this
  by_cases h9 : s.length ≤ 9
  · have e9 : decide (9 < (s.length : Int)) = false := decide_eq_false (by omega)
    rw [e9] at c1
    have c2 : mOr (m1 gNot (mL (g1 gAll) (mCons (mLc [1] [] (bName 1) (mC (.bool true)) (mCall0 g_is_within (mCons (mVar 1) (mCons (mC (.int 1)) (mCons (mC (.int 30)) mNil)))) (mIt (mVar 0))) mNil))) (m2 gGt (mL (g1 gSum) (mCons (mVar 0) mNil)) (mC (.int 30))) S0
        = some (.bool ((!s.all fun x => decide (1 ≤ x) && decide (x ≤ 30)) || decide (30 < s.sum)), S0) := by
      refine mOr_ (m1_ (x := .bool (s.all fun x => decide (1 ≤ x) && decide (x ≤ 30))) (mL_ (mCons_ (mLcA (l := s) (k := PyData.int) (y := fun x => .bool (decide (1 ≤ x) && decide (x ≤ 30))) (S1 := S0) (mIt_ (mVar_ rfl) items_T) hz fun a ha => ⟨_, _, rfl, mCall0_ (mCons_ (mVar_ rfl) (mCons_ mC_ (mCons_ mC_ mNil_))) (p_is_within a 1 30)⟩) mNil_) ?_) rfl) fun _ => m2_ (mL_ (mCons_ (mVar_ rfl) mNil_) gSum_T) mC_ rfl
      show gAll (.list (s.map fun x => PyData.bool (decide (1 ≤ x) && decide (x ≤ 30)))) = _
      have e : (s.map fun x => PyData.bool (decide (1 ≤ x) && decide (x ≤ 30))) = (s.map fun x => decide (1 ≤ x) && decide (x ≤ 30)).map PyData.bool := by rw [List.map_map]; rfl
      rw [e, gAll_L, List.all_map]
      rfl
    have c3 : mL (g1 gAll) (mCons (mLc [2, 3] [] (bTup 2 (bCons (bName 2) (bCons (bName 3) bNil))) (mC (.bool true)) (m2 gGe (mVar 2) (mVar 3)) (mZip (mIt (mVar 0)) (mIt (mCut (mVar 0) (oSome (mC (.int 1))) oNone)))) mNil) S0 = some (.bool (falls s), S0) := by
      refine mL_ (mCons_ (mLcA (l := s.zip (s.drop 1)) (k := fun q => PyData.tuple [.int q.1, .int q.2]) (y := fun q => .bool (decide (q.2 ≤ q.1))) (S1 := S0) ?_ ?_ fun q hq => ⟨_, _, rfl, m2_ (mVar_ rfl) (mVar_ rfl) rfl⟩) mNil_) ?_
      · rw [← zip_pair]
        exact mZip_ (mIt_ (mVar_ rfl) items_T) (mIt_ (x := Ti (s.drop 1)) (mCut_from (k := 1) (mVar_ rfl) mC_) items_T)
      · rw [List.length_zip]; omega
      · show gAll (.list ((s.zip (s.drop 1)).map fun q => PyData.bool (decide (q.2 ≤ q.1)))) = _
        have e : ((s.zip (s.drop 1)).map fun q => PyData.bool (decide (q.2 ≤ q.1))) = ((s.zip (s.drop 1)).map fun q => decide (q.2 ≤ q.1)).map PyData.bool := by rw [List.map_map]; rfl
        rw [e, gAll_L, List.all_map, ← falls_ge]
        rfl
    unfold shB
    rw [decide_eq_true h9, Bool.true_and]
    cases ha : s.all fun x => decide (1 ≤ x) && decide (x ≤ 30) with
    | false =>
      rw [ha] at c2
      exact gFn_rt ((seq_nx (if_f c1)).trans (seq_rt ((if_t c2).trans (seq_rt (ret_ mC_)))))
    | true =>
      rw [ha] at c2
      by_cases hs : s.sum ≤ 30
      · have e3 : decide (30 < s.sum) = false := decide_eq_false (by omega)
        rw [e3] at c2
        rw [decide_eq_true hs]
        exact gFn_rt ((seq_nx (if_f c1)).trans ((seq_nx (if_f c2)).trans (seq_rt (ret_ c3))))
      · have e3 : decide (30 < s.sum) = true := decide_eq_true (by omega)
        rw [e3] at c2
        rw [decide_eq_false hs]
        exact gFn_rt ((seq_nx (if_f c1)).trans (seq_rt ((if_t c2).trans (seq_rt (ret_ mC_)))))
  · have e9 : decide (9 < (s.length : Int)) = true := decide_eq_true (by omega)
    rw [e9] at c1
    have : shB s = false := by unfold shB; rw [decide_eq_false h9]; rfl
    rw [this]
    exact gFn_rt (seq_rt ((if_t c1).trans (seq_rt (ret_ mC_))))
abbrev one (d : D) : Sl := [some d]
abbrev two (d e : D) : Sl := [some d, some e]
def nats (l : List Nat) : List Int := l.map fun i : Nat => (i : Int)
theorem len_le {s : List Int} (h : Sh s) : s.length ≤ 1000 := by have := h.len; omega
theorem p_need_shape {s : List Int} (h : Sh s) : g_need_shape (one (Ti s)) = some (.none, one (Ti s)) := by
  have e := p_is_shape_form s (len_le h)
  rw [shB_iff.mpr h] at e
  exact gFn_nx ((seq_nx (if_f (m1_ (x := .bool true) (mCall0_ (mCons_ (mVar_ rfl) mNil_) e) rfl))).trans nx_)
theorem p_size_of {s : List Int} (h : Sh s) : g_size_of (one (Ti s)) = some (.int s.sum, one (Ti s)) :=
  gFn_rt ((seq_nx (drop_ (mCall0_ (mCons_ (mVar_ rfl) mNil_) (p_need_shape h)))).trans (seq_rt (ret_ (mL_ (mCons_ (mVar_ rfl) mNil_) gSum_T))))
theorem p_is_shape (s : List Int) (hl : s.length ≤ 1000) : g_is_shape (one (Ti s)) = some (.bool (shB s), one (Ti s)) :=
  gFn_rt (seq_rt (ret_ (mCall0_ (mCons_ (mVar_ rfl) mNil_) (p_is_shape_form s hl))))
theorem p_columns_of {s : List Int} (h : Sh s) : g_columns_of (one (Ti s)) = some (Ti (colF s), one (Ti s)) := by
  have hz : s.length ≤ sizeLine := by rw [sz]; have := h.len; omega
  have e0 : v s 0 ≤ 30 := by
    cases Nat.lt_or_ge 0 s.length with
    | inl hi => exact h.most (v_mem hi)
    | inr hi => rw [v_out hi]; omega
  have hm : cSet 1 (mIf (m2 gNe (mVar 0) (mL gTup mNil)) (m2 gIdx (mVar 0) (mC (.int 0))) (mC (.int 0))) [some (Ti s), none, none, none] = some (.nx, [some (Ti s), some (.int ((v s 0).toNat : Int)), none, none]) := by
    refine set_ (S1 := [some (Ti s), none, none, none]) ?_
    rw [h.head]
    have c : m2 gNe (mVar 0) (mL gTup mNil) [some (Ti s), none, none, none] = some (.bool (!decide (s = [])), [some (Ti s), none, none, none]) := m2_ (mVar_ rfl) (mL_ mNil_ (rfl : FV.gTup [] = some (Ti []))) (gNe_T (t := []))
    cases s with
    | nil =>
      have e : v [] 0 = 0 := rfl
      rw [e]
      exact mIf_f c mC_
    | cons a s => exact mIf_t c (m2_ (mVar_ rfl) mC_ (gIdx_T (k := 0) (by simp)))
  have hc : mL (g1 gTuple) (mCons (mLc [2] [] (bName 2) (mC (.bool true)) (mL (g1 gLen) (mCons (mLc [3] [] (bName 3) (m2 gGt (mVar 3) (mVar 2)) (mVar 3) (mIt (mVar 0))) mNil)) (mRg gR1 (mCons (mVar 1) mNil))) mNil) [some (Ti s), some (.int ((v s 0).toNat : Int)), none, none]
      = some (Ti (colF s), [some (Ti s), some (.int ((v s 0).toNat : Int)), none, none]) := by
    refine mL_ (mCons_ (mLcA (l := List.range (v s 0).toNat) (k := fun i => .int (0 + (i : Nat))) (y := fun j => .int (cnt s j)) (mRg_ (mCons_ (mVar_ rfl) mNil_) (gR1_ (by omega))) (by rw [List.length_range, sz]; omega) fun j hj => ?_) mNil_) ?_
    · refine ⟨_, _, rfl, mL_ (mCons_ (mLcM (l := s) (k := PyData.int) (p := fun x => decide ((j : Int) < x)) (y := PyData.int) (mIt_ (mVar_ rfl) items_T) hz fun x hx => ⟨_, _, _, rfl, m2_ (mVar_ rfl) (mVar_ rfl) ?_, fun _ => mVar_ rfl⟩) mNil_) ?_⟩
      · show some (PyData.bool (decide (0 + (j : Int) < x))) = _
        rw [Int.zero_add]
      · exact gLen_L
    · show gTuple _ = _
      rw [map_int]
      rfl
  exact gFn_rt ((seq_nx hm).trans (seq_rt (ret_ hc)))
theorem p_turned_shape {s : List Int} (h : Sh s) : g_turned_shape (one (Ti s)) = some (Ti (colF s), one (Ti s)) :=
  gFn_rt ((seq_nx (drop_ (mCall0_ (mCons_ (mVar_ rfl) mNil_) (p_need_shape h)))).trans (seq_rt (ret_ (mCall0_ (mCons_ (mVar_ rfl) mNil_) (p_columns_of h)))))
theorem v_app0 {s : List Int} (i : Nat) : v (s ++ [0]) i = v s i := by
  rw [v_app]
  by_cases e : i = s.length
  · rw [if_pos e, v_out (by omega)]
  · rw [if_neg e]
theorem p_corner_rows {s : List Int} (h : Sh s) : g_corner_rows (one (Ti s)) = some (Ti (nats (cornersN s)), one (Ti s)) := by
  have hl := h.len
  have e1 : cSet 1 (m2 gAdd (mVar 0) (mL gTup (mCons (mC (.int 0)) mNil))) [some (Ti s), none, none] = some (.nx, [some (Ti s), some (Ti (s ++ [0])), none]) :=
    set_ (m2_ (mVar_ rfl) (mL_ (mCons_ mC_ mNil_) (gTup_1 0)) (gAdd_T (by rw [sz]; simp; omega)))
  refine gFn_rt ((seq_nx e1).trans (seq_rt (ret_ (mL_ (mCons_ (mLcM (l := List.range s.length) (k := fun i => .int (0 + (i : Nat))) (p := fun i => decide (v s (i + 1) < v s i)) (y := fun i => .int (i : Nat)) (mRg_ (mCons_ (mL_ (mCons_ (mVar_ rfl) mNil_) gLen_T) mNil_) (gR1_ (by omega))) (by rw [List.length_range, sz]; omega) fun i hi => ?_) mNil_) ?_))))
  · have hi' := List.mem_range.mp hi
    refine ⟨_, _, _, rfl, m2_ (x := .int (v s i)) (y := .int (v s (i + 1))) (m2_ (mVar_ rfl) (mVar_ (x := .int (i : Int)) (by rw [Int.zero_add]; rfl)) ?_) (m2_ (mVar_ rfl) (m2_ (x := PyData.int (i : Int)) (z := PyData.int ((i : Int) + 1)) (mVar_ (by rw [Int.zero_add]; rfl)) mC_ rfl) ?_) rfl, fun _ => mVar_ (by rw [Int.zero_add]; rfl)⟩
    · rw [gIdx_T (by simp; omega)]
      show some (PyData.int (v (s ++ [0]) i)) = _
      rw [v_app0]
    · have : ((i : Int) + 1) = ((i + 1 : Nat) : Int) := by omega
      rw [this, gIdx_T (by simp; omega)]
      show some (PyData.int (v (s ++ [0]) (i + 1))) = _
      rw [v_app0]
  · show gTuple _ = _
    rw [map_int]
    rfl
theorem p_corners_of {s : List Int} (h : Sh s) : g_corners_of (one (Ti s)) = some (Ti (nats (cornersN s)), one (Ti s)) :=
  gFn_rt ((seq_nx (drop_ (mCall0_ (mCons_ (mVar_ rfl) mNil_) (p_need_shape h)))).trans (seq_rt (ret_ (mCall0_ (mCons_ (mVar_ rfl) mNil_) (p_corner_rows h)))))
theorem gAddL_L {s t : List Int} (h : s.length + t.length ≤ sizeLine) : gAddL (Li s) (Li t) = some (Li (s ++ t)) := by
  show (if (s.map PyData.int).length + (t.map PyData.int).length ≤ sizeLine then some (PyData.list (s.map PyData.int ++ t.map PyData.int)) else none) = _
  rw [List.length_map, List.length_map, if_pos h, ← List.map_append]
theorem p_spot_rows {s : List Int} (h : Sh s) : g_spot_rows (one (Ti s)) = some (Ti (nats (spotsN s)), one (Ti s)) := by
  have hl := h.len
  have e1 : cSet 1 (mLc [2] [] (bName 2) (mOr (m2 gEq (mVar 2) (mC (.int 0))) (m2 gGt (m2 gIdx (mVar 0) (m2 gSub (mVar 2) (mC (.int 1)))) (m2 gIdx (mVar 0) (mVar 2)))) (mVar 2) (mRg gR1 (mCons (mL (g1 gLen) (mCons (mVar 0) mNil)) mNil))) [some (Ti s), none, none]
      = some (.nx, [some (Ti s), some (Li (nats ((List.range s.length).filter fun i => decide (i = 0) || decide (v s i < v s (i - 1))))), none]) := by
    refine set_ (S1 := [some (Ti s), none, none]) ?_
    have := mLcM (vs := [2]) (bt := bName 2) (ft := mOr (m2 gEq (mVar 2) (mC (.int 0))) (m2 gGt (m2 gIdx (mVar 0) (m2 gSub (mVar 2) (mC (.int 1)))) (m2 gIdx (mVar 0) (mVar 2)))) (fe := mVar 2) (fi := mRg gR1 (mCons (mL (g1 gLen) (mCons (mVar 0) mNil)) mNil)) (S := [some (Ti s), none, none]) (S1 := [some (Ti s), none, none])
      (l := List.range s.length) (k := fun i => .int (0 + (i : Nat))) (p := fun i => decide (i = 0) || decide (v s i < v s (i - 1))) (y := fun i => .int (i : Nat)) (mRg_ (mCons_ (mL_ (mCons_ (mVar_ rfl) mNil_) gLen_T) mNil_) (gR1_ (by omega))) (by rw [List.length_range, sz]; omega) fun i hi => ?_
    · rw [this, map_int]
      rfl
    · have hi' := List.mem_range.mp hi
      refine ⟨[some (Ti s), none, some (.int (i : Int))], [some (Ti s), none, some (.int (i : Int))], _, by rw [Int.zero_add]; rfl, mOr_ (m2_ (mVar_ rfl) mC_ ?_) fun h0 => m2_ (x := .int (v s (i - 1))) (y := .int (v s i)) (m2_ (mVar_ rfl) (m2_ (z := PyData.int ((i : Int) - 1)) (mVar_ rfl) mC_ rfl) ?_) (m2_ (mVar_ rfl) (mVar_ rfl) ?_) rfl, fun _ => mVar_ rfl⟩
      · rw [gEq_I]
        congr 3
        simp
      · have h0' : i ≠ 0 := by simpa using h0
        have : ((i : Int) - 1) = ((i - 1 : Nat) : Int) := by omega
        rw [this, gIdx_T (by omega)]
        rfl
      · rw [gIdx_T hi']
        rfl
  have e2 : mIf (m2 gLt (mL (g1 gLen) (mCons (mVar 0) mNil)) (mC (.int 9))) (mL gLst (mCons (mL (g1 gLen) (mCons (mVar 0) mNil)) mNil)) (mL gLst mNil) [some (Ti s), some (Li (nats ((List.range s.length).filter fun i => decide (i = 0) || decide (v s i < v s (i - 1))))), none]
      = some (Li (nats (if s.length < 9 then [s.length] else [])), [some (Ti s), some (Li (nats ((List.range s.length).filter fun i => decide (i = 0) || decide (v s i < v s (i - 1))))), none]) := by
    have c : m2 gLt (mL (g1 gLen) (mCons (mVar 0) mNil)) (mC (.int 9)) [some (Ti s), some (Li (nats ((List.range s.length).filter fun i => decide (i = 0) || decide (v s i < v s (i - 1))))), none] = some (.bool (decide ((s.length : Int) < 9)), _) := m2_ (mL_ (mCons_ (mVar_ rfl) mNil_) gLen_T) mC_ rfl
    by_cases h9 : s.length < 9
    · rw [decide_eq_true (by omega)] at c
      rw [if_pos h9]
      exact mIf_t c (mL_ (mCons_ (mL_ (mCons_ (mVar_ rfl) mNil_) gLen_T) mNil_) rfl)
    · rw [decide_eq_false (by omega)] at c
      rw [if_neg h9]
      exact mIf_f c (mL_ mNil_ rfl)
  refine gFn_rt ((seq_nx e1).trans (seq_rt (ret_ (mL_ (mCons_ (m2_ (mVar_ rfl) e2 (gAddL_L ?_)) mNil_) ?_))))
  · rw [sz]
    have := List.length_filter_le (fun i => decide (i = 0) || decide (v s i < v s (i - 1))) (List.range s.length)
    rw [List.length_range] at this
    unfold nats
    rw [List.length_map, List.length_map]
    split <;> simp <;> omega
  · unfold spotsN nats
    rw [List.map_append]
    rfl
theorem p_spots_of {s : List Int} (h : Sh s) : g_spots_of (one (Ti s)) = some (Ti (nats (spotsN s)), one (Ti s)) :=
  gFn_rt ((seq_nx (drop_ (mCall0_ (mCons_ (mVar_ rfl) mNil_) (p_need_shape h)))).trans (seq_rt (ret_ (mCall0_ (mCons_ (mVar_ rfl) mNil_) (p_spot_rows h)))))
theorem p_is_inside {s t : List Int} (hs : Sh s) : g_is_inside (two (Ti s) (Ti t)) = some (.bool (subB s t), two (Ti s) (Ti t)) := by
  refine gFn_rt (seq_rt (ret_ (mAnd_ (m2_ (mL_ (mCons_ (mVar_ rfl) mNil_) gLen_T) (mL_ (mCons_ (mVar_ rfl) mNil_) gLen_T) ?_) fun _ => mL_ (mCons_ (mLcA (l := s.zip t) (k := fun q => PyData.tuple [.int q.1, .int q.2]) (y := fun q => .bool (decide (q.1 ≤ q.2))) ?_ ?_ fun q hq => ⟨_, _, rfl, m2_ (mVar_ rfl) (mVar_ rfl) rfl⟩) mNil_) ?_)))
  · show some (PyData.bool (decide ((s.length : Int) ≤ t.length))) = _
    congr 2
    simp
  · rw [← zip_pair]
    exact mZip_ (mIt_ (mVar_ rfl) items_T) (mIt_ (mVar_ rfl) items_T)
  · rw [List.length_zip, sz]; have := hs.len; omega
  · show gAll (.list ((s.zip t).map fun q => PyData.bool (decide (q.1 ≤ q.2)))) = _
    rw [map_bool, gAll_L, List.all_map]
    rfl
theorem p_is_within_shape {s t : List Int} (hs : Sh s) (ht : Sh t) : g_is_within_shape (two (Ti s) (Ti t)) = some (.bool (subB s t), two (Ti s) (Ti t)) :=
  gFn_rt ((seq_nx (drop_ (mCall0_ (mCons_ (mVar_ rfl) mNil_) (p_need_shape hs)))).trans ((seq_nx (drop_ (mCall0_ (mCons_ (mVar_ rfl) mNil_) (p_need_shape ht)))).trans (seq_rt (ret_ (mCall0_ (mCons_ (mVar_ rfl) (mCons_ (mVar_ rfl) mNil_)) (p_is_inside hs))))))
end K02
end
section
set_option Elab.async false
set_option linter.all false
set_option maxRecDepth 100000
set_option maxHeartbeats 4000000
namespace K02
open PySem PySem.Spec L2 FV
theorem p_falls (t : List Int) (hl : t.length ≤ 1000) : g__law_falls (one (Ti t)) = some (.bool (falls t), one (Ti t)) := by
  refine gFn_rt (S' := [some (Ti t), none, none]) (seq_rt (ret_ (m2_ (S1 := [some (Ti t), none, none]) (x := Li (((t.zip (t.drop 1)).filter fun q => decide (q.1 < q.2)).map fun _ => 1)) (y := Li []) ?_ (mL_ mNil_ rfl) ?_)))
  · rw [show (Li (((t.zip (t.drop 1)).filter fun q => decide (q.1 < q.2)).map fun _ => 1)) = .list (((t.zip (t.drop 1)).filter fun q => decide (q.1 < q.2)).map fun _ => PyData.int 1) from congrArg PyData.list (map_int _ _).symm]
    refine mLcM (l := t.zip (t.drop 1)) (k := fun q => PyData.tuple [.int q.1, .int q.2]) ?_ (by rw [List.length_zip, sz]; omega) fun q hq => ⟨_, _, _, rfl, m2_ (mVar_ rfl) (mVar_ rfl) rfl, fun _ => mC_⟩
    rw [← zip_pair]
    exact mZip_ (mIt_ (mVar_ rfl) items_T) (mIt_ (x := Ti (t.drop 1)) (mCut_from (k := 1) (mVar_ rfl) mC_) items_T)
  · rw [gEq_L]
    congr 2
    unfold falls
    rw [Bool.eq_iff_iff, decide_eq_true_eq, List.map_eq_nil_iff, List.filter_eq_nil_iff, List.all_eq_true]
    simp
theorem take_set {s : List Int} {i : Nat} {a : Int} (h : i < s.length) : s.take i ++ [a] ++ s.drop (i + 1) = s.set i a := by
  rw [List.set_eq_take_append_cons_drop, if_pos h, List.append_assoc]
  rfl
/-- shape[:row] + (x,) + shape[row + 1:] -/
theorem splice {s : List Int} {i : Nat} {fs fr fx : SM} {S : Sl} {a : Int} (h : i < s.length) (hl : s.length ≤ 1000) (h1 : fs S = some (Ti s, S)) (h2 : fr S = some (.int (i : Int), S)) (h3 : fx S = some (.int a, S)) :
    m2 gAdd (m2 gAdd (mCut fs oNone (oSome fr)) (mL FV.gTup (mCons fx mNil))) (mCut fs (oSome (m2 gAdd fr (mC (.int 1)))) oNone) S = some (Ti (s.set i a), S) := by
  rw [← take_set h]
  refine m2_ (m2_ (mCut_to h1 h2) (mL_ (mCons_ h3 mNil_) (gTup_1 a)) (gAdd_T (by rw [sz]; simp; omega))) (mCut_from (k := i + 1) h1 (m2_ h2 mC_ ?_)) (gAdd_T (by rw [sz]; simp; omega))
  show some (PyData.int ((i : Int) + 1)) = _
  congr 2
theorem idx_of {s : List Int} {i : Nat} {fs fr : SM} {S : Sl} (h : i < s.length) (h1 : fs S = some (Ti s, S)) (h2 : fr S = some (.int (i : Int), S)) : m2 gIdx fs fr S = some (.int (v s i), S) := m2_ h1 h2 (gIdx_T h)
theorem p_without {s : List Int} (hl : s.length ≤ 1000) {i : Nat} (h : i < s.length) : g__law_without (two (Ti s) (.int (i : Int))) = some (Ti (without s i), two (Ti s) (.int (i : Int))) := by
  refine gFn_rt (seq_rt (ret_ (mL_ (mCons_ (mLcM (l := lower s i) (k := PyData.int) (p := fun x => decide (0 < x)) (y := PyData.int) (mIt_ (splice (a := v s i - 1) h hl (mVar_ rfl) (mVar_ rfl) (m2_ (idx_of h (mVar_ rfl) (mVar_ rfl)) mC_ rfl)) items_T) ?_ fun x hx => ⟨_, _, _, rfl, m2_ (mVar_ rfl) mC_ rfl, fun _ => mVar_ rfl⟩) mNil_) rfl)))
  unfold lower
  rw [List.length_set, sz]
  omega
theorem p_with {s : List Int} (hl : s.length ≤ 999) {i : Nat} (h : i ≤ s.length) : g__law_with (two (Ti s) (.int (i : Int))) = some (Ti (upper s i), two (Ti s) (.int (i : Int))) := by
  have c : m2 gLt (mVar 1) (mL (g1 gLen) (mCons (mVar 0) mNil)) (two (Ti s) (.int (i : Int))) = some (.bool (decide ((i : Int) < s.length)), two (Ti s) (.int (i : Int))) := m2_ (mVar_ rfl) (mL_ (mCons_ (mVar_ rfl) mNil_) gLen_T) rfl
  unfold upper
  by_cases hi : i < s.length
  · rw [decide_eq_true (by omega)] at c
    rw [if_pos hi]
    exact gFn_rt (seq_rt (ret_ (mIf_t c (splice hi (by omega) (mVar_ rfl) (mVar_ rfl) (m2_ (idx_of hi (mVar_ rfl) (mVar_ rfl)) mC_ rfl)))))
  · rw [decide_eq_false (by omega)] at c
    rw [if_neg hi]
    exact gFn_rt (seq_rt (ret_ (mIf_f c (m2_ (mVar_ rfl) (mL_ (mCons_ mC_ mNil_) (gTup_1 1)) (gAdd_T (by rw [sz]; simp; omega))))))
theorem p_corners {s : List Int} (h : Sh s) : g__law_corners (one (Ti s)) = some (Ti (nats (cornersN s)), one (Ti s)) := by
  have hl := h.len
  rw [← corners_law h]
  refine gFn_rt (seq_rt (ret_ (mL_ (mCons_ (mLcM (l := List.range s.length) (k := fun i => .int (0 + (i : Nat))) (p := fun i => falls (lower s i)) (y := fun i => .int (i : Nat)) (mRg_ (mCons_ (mL_ (mCons_ (mVar_ rfl) mNil_) gLen_T) mNil_) (gR1_ (by omega))) (by rw [List.length_range, sz]; omega) fun i hi => ?_) mNil_) ?_)))
  · have hi' := List.mem_range.mp hi
    have e : (0 + (i : Int)) = i := by omega
    rw [e]
    exact ⟨_, _, _, rfl, mCall0_ (mCons_ (splice (a := v s i - 1) hi' (by omega) (mVar_ rfl) (mVar_ rfl) (m2_ (idx_of hi' (mVar_ rfl) (mVar_ rfl)) mC_ rfl)) mNil_) (p_falls (lower s i) (by unfold lower; rw [List.length_set]; omega)), fun _ => mVar_ rfl⟩
  · show gTuple (.list (((List.range s.length).filter fun i => falls (lower s i)).map fun i : Nat => PyData.int (i : Nat))) = _
    rw [map_int]
    rfl
theorem p_spots {s : List Int} (h : Sh s) : g__law_spots (one (Ti s)) = some (Ti (nats (spotsN s)), one (Ti s)) := by
  have hl := h.len
  rw [← spots_law h]
  have hmin : gMin2 (.int 9) (.int ((s.length : Int) + 1)) = some (.int ((min 9 (s.length + 1) : Nat) : Int)) := by
    show some (PyData.int (if (s.length : Int) + 1 < 9 then (s.length : Int) + 1 else 9)) = _
    congr 2
    split <;> omega
  refine gFn_rt (seq_rt (ret_ (mL_ (mCons_ (mLcM (l := List.range (min 9 (s.length + 1))) (k := fun i => .int (0 + (i : Nat))) (p := fun i => falls (upper s i)) (y := fun i => .int (i : Nat)) (mRg_ (mCons_ (mL_ (mCons_ mC_ (mCons_ (m2_ (z := PyData.int ((s.length : Int) + 1)) (mL_ (mCons_ (mVar_ rfl) mNil_) gLen_T) mC_ rfl) mNil_)) hmin) mNil_) (gR1_ (by omega))) (by rw [List.length_range, sz]; omega) fun i hi => ?_) mNil_) ?_)))
  · have hi' := List.mem_range.mp hi
    have e : (0 + (i : Int)) = i := by omega
    rw [e]
    refine ⟨_, _, _, rfl, mCall0_ (mCons_ (mCall0_ (mCons_ (mVar_ rfl) (mCons_ (mVar_ rfl) mNil_)) (p_with (s := s) (i := i) (by omega) (by omega))) mNil_) (p_falls (upper s i) ?_), fun _ => mVar_ rfl⟩
    rw [upper_len]
    split <;> omega
  · show gTuple (.list (((List.range (min 9 (s.length + 1))).filter fun i => falls (upper s i)).map fun i : Nat => PyData.int (i : Nat))) = _
    rw [map_int]
    rfl
/-! ### the columns by counting up -/
theorem cnt_snoc {s : List Int} {x : Int} {j : Nat} : cnt (s ++ [x]) j = cnt s j + (if (j : Int) < x then 1 else 0) := by
  unfold cnt
  rw [List.filter_append, List.length_append]
  congr 1
  rw [List.filter_cons]
  by_cases h : (j : Int) < x
  · rw [if_pos (by simpa using h), if_pos h]; rfl
  · rw [if_neg (by simpa using h), if_neg h]; rfl
theorem take_snoc {s : List Int} {i : Nat} (h : i < s.length) : s.take (i + 1) = s.take i ++ [v s i] := by
  rw [List.take_succ, get_v h]
  rfl
theorem colN_nil (m : Nat) : colN [] m = List.replicate m 0 := by
  unfold colN
  induction m with
  | zero => rfl
  | succ m ih => rw [List.range_succ, List.map_append, ih, List.replicate_succ']; rfl
def colI (p : List Int) (m j : Nat) : List Int := (List.range m).map fun q => (cnt p q : Int) + (if q < j then 1 else 0)
theorem colI_0 {p : List Int} {m : Nat} : colI p m 0 = colN p m := by
  unfold colI colN
  refine List.map_congr_left fun q _ => ?_
  simp
theorem colI_n {p : List Int} {m n : Nat} : colI p m n = colN (p ++ [(n : Int)]) m := by
  unfold colI colN
  refine List.map_congr_left fun q _ => ?_
  rw [cnt_snoc]
  by_cases h : q < n
  · rw [if_pos h, if_pos (by omega)]; omega
  · rw [if_neg h, if_neg (by omega)]; omega
theorem colI_len {p : List Int} {m j : Nat} : (colI p m j).length = m := by simp [colI]
theorem colI_v {p : List Int} {m j q : Nat} (h : q < m) : v (colI p m j) q = (cnt p q : Int) + (if q < j then 1 else 0) := by
  refine v_get ?_
  unfold colI
  rw [List.getElem?_map, List.getElem?_range h]
  rfl
theorem colI_set {p : List Int} {m j : Nat} (h : j < m) : (colI p m j).set j (v (colI p m j) j + 1) = colI p m (j + 1) := by
  refine ext_v (by rw [List.length_set, colI_len, colI_len]) fun q hq => ?_
  rw [List.length_set, colI_len] at hq
  rw [v_set (by rw [colI_len]; exact h), colI_v hq, colI_v h, colI_v hq]
  by_cases e : q = j
  · subst e
    rw [if_pos rfl, if_neg (by omega), if_pos (by omega)]
    omega
  · rw [if_neg e]
    by_cases h2 : q < j
    · rw [if_pos h2, if_pos (by omega)]
    · rw [if_neg h2, if_neg (by omega)]
/-- for at in range(n): found[at] = found[at] + 1 -/
theorem inner {t : D} {p : List Int} {m n : Nat} (hn : n ≤ m) (hm : m ≤ 1000) (b : Option D) : ∃ b', cForS (mRg gR1 (mCons (mVar 2) mNil)) (bName 3) (cSeq (cSetIx 1 (m2 gAdd (m2 gIdx (mVarO 1) (mVar 3)) (mC (.int 1))) (mVar 3)) cNx) [some t, some (Li (colN p m)), some (.int (n : Int)), b]
    = some (.nx, [some t, some (Li (colN (p ++ [(n : Int)]) m)), some (.int (n : Int)), b']) := by
  obtain ⟨S', e, b', rfl⟩ := cFor_inv (b := bName 3) (k := fun i => .int (0 + (i : Nat))) (l := List.range n) (fb := cSeq (cSetIx 1 (m2 gAdd (m2 gIdx (mVarO 1) (mVar 3)) (mC (.int 1))) (mVar 3)) cNx)
    (fun j S => ∃ b', S = [some t, some (Li (colI p m j)), some (.int (n : Int)), b']) (fun j hj S hS => by
      obtain ⟨b', rfl⟩ := hS
      rw [List.length_range] at hj
      rw [List.getElem_range, Int.zero_add]
      have e1 : cSetIx 1 (m2 gAdd (m2 gIdx (mVarO 1) (mVar 3)) (mC (.int 1))) (mVar 3) [some t, some (Li (colI p m j)), some (.int (n : Int)), some (.int (j : Int))]
          = some (.nx, [some t, some (Li (colI p m (j + 1))), some (.int (n : Int)), some (.int (j : Int))]) := by
        have := cSetIx_ (i := 1) (j := j) (fv := m2 gAdd (m2 gIdx (mVarO 1) (mVar 3)) (mC (.int 1))) (fk := mVar 3) (S := [some t, some (Li (colI p m j)), some (.int (n : Int)), some (.int (j : Int))]) (S1 := [some t, some (Li (colI p m j)), some (.int (n : Int)), some (.int (j : Int))]) (d := .int (v (colI p m j) j + 1)) (ds := (colI p m j).map PyData.int)
          (m2_ (x := PyData.int (v (colI p m j) j)) (m2_ (mVarO_ rfl) (mVar_ rfl) (gIdx_L (by rw [colI_len]; omega))) mC_ rfl) rfl rfl (by rw [List.length_map, colI_len]; omega)
        rw [this, ← colI_set (by omega), ← List.map_set]
        rfl
      exact ⟨_, _, rfl, (seq_nx e1).trans nx_, _, rfl⟩) (S := [some t, some (Li (colN p m)), some (.int (n : Int)), b]) ⟨b, by rw [colI_0]⟩
  rw [List.length_range, colI_n] at e
  exact ⟨b', cForS_ (mRg_ (mCons_ (mVar_ rfl) mNil_) (gR1_ (by omega))) e⟩
theorem p_lcolumns {s : List Int} (h : Sh s) : g__law_columns (one (Ti s)) = some (Ti (colF s), one (Ti s)) := by
  have hl := h.len
  have hm : (v s 0).toNat ≤ 30 := by
    cases Nat.lt_or_ge 0 s.length with
    | inl hi => have := h.most (v_mem hi); omega
    | inr hi => rw [v_out hi]; decide
  generalize hmm : (v s 0).toNat = m at hm
  obtain ⟨S', e, a, b, rfl⟩ := cFor_inv (b := bName 2) (k := PyData.int) (l := s) (fb := cSeq (cSet 1 (m2 gAddL (mVarO 1) (m2 gRep (mL gLst (mCons (mC (.int 0)) mNil)) (m2 gSub (mVar 2) (mL (g1 gLen) (mCons (mVarO 1) mNil)))))) (cSeq (cForS (mRg gR1 (mCons (mVar 2) mNil)) (bName 3) (cSeq (cSetIx 1 (m2 gAdd (m2 gIdx (mVarO 1) (mVar 3)) (mC (.int 1))) (mVar 3)) cNx)) cNx))
    (fun i S => ∃ a b, S = [some (Ti s), some (Li (colN (s.take i) (if i = 0 then 0 else m))), a, b]) (fun i hi S hS => by
      obtain ⟨a, b, rfl⟩ := hS
      have ex : s[i] = v s i := by
        have := get_v hi
        rw [List.getElem?_eq_getElem hi] at this
        exact Option.some.inj this
      rw [ex]
      have x1 := h.v1 hi
      have xm : v s i ≤ v s 0 := h.desc.le h.pos0 (Nat.zero_le i)
      obtain ⟨n, hn⟩ : ∃ n : Nat, v s i = n := ⟨(v s i).toNat, by omega⟩
      have hmn : n ≤ m := by omega
      have h0 : i = 0 → n = m := fun e => by subst e; omega
      rw [hn]
      have e1 : cSet 1 (m2 gAddL (mVarO 1) (m2 gRep (mL gLst (mCons (mC (.int 0)) mNil)) (m2 gSub (mVar 2) (mL (g1 gLen) (mCons (mVarO 1) mNil))))) [some (Ti s), some (Li (colN (s.take i) (if i = 0 then 0 else m))), some (.int (n : Int)), b]
          = some (.nx, [some (Ti s), some (Li (colN (s.take i) m)), some (.int (n : Int)), b]) := by
        have hlen : gLen (Li (colN (s.take i) (if i = 0 then 0 else m))) = some (.int ((if i = 0 then 0 else m : Nat) : Int)) := by
          rw [gLen_L, colN_len]
        have hadd : gAddL (Li (colN (s.take i) (if i = 0 then 0 else m))) (Li (List.replicate ((n : Int) - ((if i = 0 then 0 else m : Nat) : Int)).toNat 0)) = some (Li (colN (s.take i) m)) := by
          rw [gAddL_L (by rw [colN_len, List.length_replicate, sz]; split <;> omega)]
          congr 3
          by_cases hz : i = 0
          · subst hz
            rw [if_pos rfl, h0 rfl, List.take_zero, colN_nil, colN_nil]
            simp
          · rw [if_neg hz, show ((n : Int) - (m : Int)).toNat = 0 by omega]
            simp
        exact set_ (S1 := [some (Ti s), some (Li (colN (s.take i) (if i = 0 then 0 else m))), some (.int (n : Int)), b]) (m2_ (mVarO_ rfl) (m2_ (mL_ (mCons_ mC_ mNil_) rfl) (m2_ (y := PyData.int ((if i = 0 then 0 else m : Nat) : Int)) (z := PyData.int ((n : Int) - ((if i = 0 then 0 else m : Nat) : Int))) (mVar_ rfl) (mL_ (mCons_ (mVarO_ rfl) mNil_) hlen) rfl) (gRep_0 (by omega) (by split <;> omega))) hadd)
      obtain ⟨b', e2⟩ := inner (t := Ti s) (p := s.take i) hmn (by omega) b
      refine ⟨_, _, rfl, (seq_nx e1).trans ((seq_nx e2).trans nx_), some (.int (n : Int)), b', ?_⟩
      rw [take_snoc hi, hn, if_neg (by omega)]) (S := [some (Ti s), some (Li []), none, none]) ⟨none, none, rfl⟩
  have hfin : (if s.length = 0 then 0 else m) = m := by
    by_cases hz : s.length = 0
    · rw [if_pos hz, ← hmm, v_out (by omega)]; rfl
    · rw [if_neg hz]
  rw [List.take_length, hfin] at e
  have e0 : cSet 1 (mL gLst mNil) [some (Ti s), none, none, none] = some (.nx, [some (Ti s), some (Li []), none, none]) := set_ (S1 := [some (Ti s), none, none, none]) (mL_ mNil_ rfl)
  refine gFn_rt ((seq_nx e0).trans ((seq_nx (cForS_ (mIt_ (mVar_ rfl) items_T) e)).trans (seq_rt (ret_ (mL_ (mCons_ (mVarO_ rfl) mNil_) ?_)))))
  unfold colF
  rw [hmm]
  rfl
end K02
end
section
set_option Elab.async false
set_option linter.all false
set_option maxRecDepth 100000
set_option maxHeartbeats 4000000
namespace K02
open PySem PySem.Spec L2 FV
theorem zipIdx_map {s : List Int} : ((s.map PyData.int).zipIdx.map fun q => PyData.tuple [.int (q.2 : Nat), q.1]) = (s.zipIdx).map fun q => PyData.tuple [.int (q.2 : Nat), .int q.1] := by
  rw [List.zipIdx_map, List.map_map]
  rfl
/-- len(a) <= len(b) and [1 for at, x in enumerate(a) if x > b[at]] == [] -/
theorem sub_test {a b : List Int} {fa fb fv1 fv2 : SM} {S : Sl} {i j : Nat} (hla : a.length ≤ 1000)
    (h1 : fa S = some (Ti a, S)) (h2 : fb S = some (Ti b, S))
    (hb : ∀ (x : Int) (n : Nat), ∃ S2, bTup 2 (bCons (bName i) (bCons (bName j) bNil)) (PyData.tuple [.int (n : Nat), .int x]) (wipeS S [i, j]) = some S2 ∧ fv2 S2 = some (.int x, S2) ∧ fv1 S2 = some (.int (n : Nat), S2) ∧ fb S2 = some (Ti b, S2)) :
    mAnd (m2 gLe (mL (g1 gLen) (mCons fa mNil)) (mL (g1 gLen) (mCons fb mNil))) (m2 gEq (mLc [i, j] [] (bTup 2 (bCons (bName i) (bCons (bName j) bNil))) (m2 gGt fv2 (m2 gIdx fb fv1)) (mC (.int 1)) (mEnum (mIt fa))) (mL gLst mNil)) S = some (.bool (subB a b), S) := by
  have c : m2 gLe (mL (g1 gLen) (mCons fa mNil)) (mL (g1 gLen) (mCons fb mNil)) S = some (.bool (decide (a.length ≤ b.length)), S) := by
    refine m2_ (mL_ (mCons_ h1 mNil_) gLen_T) (mL_ (mCons_ h2 mNil_) gLen_T) ?_
    show some (PyData.bool (decide ((a.length : Int) ≤ b.length))) = _
    congr 2
    simp
  unfold subB
  refine mAnd_ c fun hle => ?_
  · have hle' : a.length ≤ b.length := of_decide_eq_true hle
    refine m2_ (S1 := S) (x := Li ((a.zipIdx.filter fun q => decide (v b q.2 < q.1)).map fun _ => 1)) (y := Li []) ?_ (mL_ mNil_ rfl) ?_
    · rw [show (Li ((a.zipIdx.filter fun q => decide (v b q.2 < q.1)).map fun _ => 1)) = .list ((a.zipIdx.filter fun q => decide (v b q.2 < q.1)).map fun _ => PyData.int 1) from congrArg PyData.list (map_int _ _).symm]
      refine mLcM (l := a.zipIdx) (k := fun q => PyData.tuple [.int (q.2 : Nat), .int q.1]) ?_ (by rw [List.length_zipIdx, sz]; omega) fun q hq => ?_
      · rw [← zipIdx_map]
        exact mEnum_ (mIt_ h1 items_T)
      · obtain ⟨S2, e1, e2, e3, e4⟩ := hb q.1 q.2
        have hlt : q.2 < b.length := by
          obtain ⟨n, hn⟩ := List.mem_iff_getElem?.mp hq
          rw [List.getElem?_zipIdx] at hn
          cases ha : a[n]? with
          | none => rw [ha] at hn; cases hn
          | some x =>
            rw [ha] at hn
            have : q = (x, 0 + n) := (Option.some.inj hn).symm
            rw [this]
            have : n < a.length := by
              cases Nat.lt_or_ge n a.length with
              | inl h => exact h
              | inr h => rw [List.getElem?_eq_none h] at ha; cases ha
            show 0 + n < b.length
            omega
        exact ⟨S2, S2, S2, e1, m2_ e2 (m2_ e4 e3 (gIdx_T hlt)) rfl, fun _ => mC_⟩
    · rw [gEq_L]
      congr 2
      rw [Bool.eq_iff_iff, decide_eq_true_eq, List.map_eq_nil_iff, List.filter_eq_nil_iff, List.all_eq_true]
      constructor
      · intro h q hq
        obtain ⟨x, y⟩ := q
        obtain ⟨n, hn⟩ := List.mem_iff_getElem?.mp hq
        obtain ⟨g1, g2⟩ := List.getElem?_zip_eq_some.mp hn
        dsimp only at g1 g2
        have := h (x, n) (List.mem_of_getElem? (i := n) (by rw [List.getElem?_zipIdx, g1]; simp))
        rw [v_get g2] at this
        simp at this ⊢
        exact this
      · intro h q hq
        obtain ⟨x, n⟩ := q
        obtain ⟨k, hk⟩ := List.mem_iff_getElem?.mp hq
        rw [List.getElem?_zipIdx] at hk
        cases ha : a[k]? with
        | none => rw [ha] at hk; cases hk
        | some x' =>
          rw [ha] at hk
          have hkk : (x, n) = (x', 0 + k) := (Option.some.inj hk).symm
          have ex : x = x' := congrArg Prod.fst hkk
          have en : n = k := by have := congrArg Prod.snd hkk; simpa using this
          subst ex en
          have hlt : n < b.length := by
            have : n < a.length := by
              cases Nat.lt_or_ge n a.length with
              | inl h => exact h
              | inr h => rw [List.getElem?_eq_none h] at ha; cases ha
            omega
          have := h (x, v b n) (List.mem_of_getElem? (i := n) (List.getElem?_zip_eq_some.mpr ⟨ha, get_v hlt⟩))
          simp at this ⊢
          exact this
theorem colF_small {s : List Int} (h : Sh s) : (colF s).length ≤ 30 := by
  rw [colF_len]
  cases Nat.lt_or_ge 0 s.length with
  | inl hi => have := h.most (v_mem hi); omega
  | inr hi => rw [v_out hi]; decide
theorem rp_bools (a b : Bool) : RpOk (.list [.bool a, .bool b]) 100 := by
  refine ⟨by simp [PyData.showable, PyData.showableAll], by simp [PyData.canLay0, PyData.canLayAll0], by simp [PyData.depth, PyData.depthAll], (tx_list (k := 5) fun d hd => ?_).mono (by simp)⟩
  have : ∀ c : Bool, TxOk 5 (PyData.shown (.bool c)) := fun c => by
    rw [PyData.shown_bool]
    cases c
    · exact ⟨by decide +kernel, by decide +kernel⟩
    · exact ⟨by decide +kernel, by decide +kernel⟩
  rcases List.mem_cons.mp hd with e | e
  · rw [e]; exact this a
  · have e : d = .bool b := by simpa using e
    rw [e]; exact this b
theorem p_two_right {s t : List Int} (hs : Sh s) (ht : Sh t) : g__law_two_right (two (Ti s) (Ti t)) = some (.bool true, two (Ti s) (Ti t)) := by
  have c1 := sub_test (a := s) (b := t) (fa := mVar 0) (fb := mVar 1) (fv1 := mVar 7) (fv2 := mVar 8) (i := 7) (j := 8) (S := [some (Ti s), some (Ti t), none, none, none, none, none, none, none]) (len_le hs) (mVar_ rfl) (mVar_ rfl) fun x n => ⟨_, rfl, mVar_ rfl, mVar_ rfl, mVar_ rfl⟩
  have e1 := set_ (i := 2) c1
  have e2 : cAsg (bTup 2 (bCons (bName 3) (bCons (bName 4) bNil))) (mL FV.gTup (mCons (mCall0 g__law_columns (mCons (mVar 0) mNil)) (mCons (mCall0 g__law_columns (mCons (mVar 1) mNil)) mNil))) [some (Ti s), some (Ti t), some (.bool (subB s t)), none, none, none, none, none, none]
      = some (.nx, [some (Ti s), some (Ti t), some (.bool (subB s t)), some (Ti (colF s)), some (Ti (colF t)), none, none, none, none]) := by
    have := mL_ (g := FV.gTup) (mCons_ (mCall0_ (S := [some (Ti s), some (Ti t), some (.bool (subB s t)), none, none, none, none, none, none]) (S1 := [some (Ti s), some (Ti t), some (.bool (subB s t)), none, none, none, none, none, none]) (mCons_ (mVar_ (i := 0) rfl) mNil_) (p_lcolumns hs)) (mCons_ (mCall0_ (mCons_ (mVar_ (i := 1) rfl) mNil_) (p_lcolumns ht)) mNil_)) (rfl : _ = some (PyData.tuple [Ti (colF s), Ti (colF t)]))
    unfold cAsg
    rw [this]
    rfl
  have c3 := sub_test (a := colF s) (b := colF t) (fa := mVar 3) (fb := mVar 4) (fv1 := mVar 7) (fv2 := mVar 8) (i := 7) (j := 8) (S := [some (Ti s), some (Ti t), some (.bool (subB s t)), some (Ti (colF s)), some (Ti (colF t)), none, none, none, none]) (by have := colF_small hs; omega) (mVar_ rfl) (mVar_ rfl) fun x n => ⟨_, rfl, mVar_ rfl, mVar_ rfl, mVar_ rfl⟩
  have e3 := set_ (i := 5) c3
  rw [sub_col hs ht] at e3
  let S5 : Sl := [some (Ti s), some (Ti t), some (.bool (subB s t)), some (Ti (colF s)), some (Ti (colF t)), some (.bool (subB s t)), none, none, none]
  have e4 : cSet 6 (mL gLst (mCons (mCall0 g_is_within_shape (mCons (mVar 0) (mCons (mVar 1) mNil))) (mCons (mCall0 g_is_within_shape (mPick [1, 0] mNil (mCons (mVar 1) (mCons (mVar 0) mNil)))) mNil))) S5
      = some (.nx, [some (Ti s), some (Ti t), some (.bool (subB s t)), some (Ti (colF s)), some (Ti (colF t)), some (.bool (subB s t)), some (.list [.bool (subB s t), .bool (subB s t)]), none, none]) := by
    refine set_ (S1 := S5) (mL_ (mCons_ (mCall0_ (mCons_ (mVar_ rfl) (mCons_ (mVar_ rfl) mNil_)) (p_is_within_shape hs ht)) (mCons_ (mCall0_ (S1 := S5) (xs := [Ti s, Ti t]) ?_ (p_is_within_shape hs ht)) mNil_)) rfl)
    rfl
  let S6 : Sl := [some (Ti s), some (Ti t), some (.bool (subB s t)), some (Ti (colF s)), some (Ti (colF t)), some (.bool (subB s t)), some (.list [.bool (subB s t), .bool (subB s t)]), none, none]
  have e5 : mAnd (m2 gEq (mL (g1 gRepr) (mCons (mVar 6) mNil)) (mL (g1 gRepr) (mCons (mL gLst (mCons (mVar 2) (mCons (mVar 2) mNil))) mNil))) (mAnd (m2 gEq (mVar 2) (mVar 5)) (mOr (m1 gNot (mAnd (mVar 2) (mCall0 g_is_within_shape (mCons (mVar 1) (mCons (mVar 0) mNil))))) (m2 gEq (mVar 0) (mVar 1)))) S6 = some (.bool true, S6) := by
    have r := (repr_same (fa := mVar 6) (fb := mL gLst (mCons (mVar 2) (mCons (mVar 2) mNil))) (S := S6) (S1 := S6) (S2 := S6) (mVar_ rfl) (mL_ (mCons_ (mVar_ rfl) (mCons_ (mVar_ rfl) mNil_)) rfl) (rp_bools (subB s t) (subB s t)) (by omega)).2
    refine mAnd_ (b := true) (p := true) r fun _ => mAnd_ (b := true) (p := true) (m2_ (mVar_ rfl) (mVar_ rfl) ?_) fun _ => ?_
    · rw [gEq_B]; simp
    · have q := mOr_ (b := !(subB s t && subB t s)) (p := decide (s = t)) (m1_ (g := gNot) (x := .bool (subB s t && subB t s)) (mAnd_ (S := S6) (fa := mVar 2) (fb := mCall0 g_is_within_shape (mCons (mVar 1) (mCons (mVar 0) mNil))) (mVar_ rfl) fun _ => mCall0_ (mCons_ (mVar_ rfl) (mCons_ (mVar_ rfl) mNil_)) (p_is_within_shape ht hs)) rfl) fun _ => m2_ (S := S6) (fa := mVar 0) (fb := mVar 1) (mVar_ rfl) (mVar_ rfl) gEq_T
      rw [q]
      congr 2
      cases h1 : subB s t with
      | false => rfl
      | true =>
        cases h2 : subB t s with
        | false => rfl
        | true => simp [sub_anti hs ht h1 h2]
  exact gFn_rt ((seq_nx e1).trans ((seq_nx e2).trans ((seq_nx e3).trans ((seq_nx e4).trans (seq_rt (ret_ e5))))))
end K02
end
section
set_option Elab.async false
set_option linter.all false
set_option maxRecDepth 100000
set_option maxHeartbeats 4000000
namespace K02
open PySem PySem.Spec L2 FV
theorem p_draw {n : Nat} {l : List Int} (h : Feed n l) (hn : n ≤ 1000000) {m : Int} (hm : 0 < m) (hm2 : m ≤ 1000000) :
    ∃ (r : Int) (l' : List Int), g__law_draw [some (Li l), some (.int m)] = some (.int r, [some (Li l'), some (.int m)]) ∧ 0 ≤ r ∧ r < m ∧ Feed (n + 1) l' := draw_ h hn hm hm2
theorem p_one {n : Nat} {l t : List Int} (h : Feed n l) (hn : n ≤ 1000000) (ht : 0 < t.length) (ht2 : t.length ≤ 1000) :
    ∃ (i : Nat) (l' : List Int), g__law_one [some (Li l), some (Li t)] = some (.int (t.getD i 0), [some (Li l'), some (Li t)]) ∧ i < t.length ∧ Feed (n + 1) l' := one_ h hn ht ht2
def ShapeAt (n : Nat) (i : Nat) (S : Sl) : Prop := ∃ (l found : List Int) (left len : Int) (last : Option D), S = [some (Li l), some (.int 30), some (.int left), some (.int len), some (Li found), last] ∧
  Feed (n + 2 + 2 * i) l ∧ 0 ≤ left ∧ found.length = i ∧ Desc found ∧ (∀ x ∈ found, 1 ≤ x) ∧ found.sum + left ≤ 30 ∧ 1 ≤ len ∧ (0 < i → len = v found (i - 1)) ∧ len ≤ 30
theorem p_shape {n : Nat} {l : List Int} (h : Feed n l) (hn : n ≤ 100000) : ∃ (s l' : List Int), g__law_shape [some (Li l), some (.int 30)] = some (Ti s, [some (Li l'), some (.int 30)]) ∧ Sh s ∧ Feed (n + 20) l' := by
  obtain ⟨r, l1, er, r1, r2, f1⟩ := p_draw h (by omega) (m := 31) (by decide) (by decide)
  obtain ⟨i, l2, eo, hi, f2⟩ := p_one f1 (by omega) (t := [0, 1, 2, 3, 4, 5, 6, 8, 10, 12, 30, r]) (by show 0 < 12; decide) (by show 12 ≤ 1000; decide)
  have hx : 0 ≤ ([0, 1, 2, 3, 4, 5, 6, 8, 10, 12, 30, r] : List Int).getD i 0 ∧ ([0, 1, 2, 3, 4, 5, 6, 8, 10, 12, 30, r] : List Int).getD i 0 ≤ 30 := by
    have hm := v_mem (s := [0, 1, 2, 3, 4, 5, 6, 8, 10, 12, 30, r]) (i := i) hi
    have e : v [0, 1, 2, 3, 4, 5, 6, 8, 10, 12, 30, r] i = ([0, 1, 2, 3, 4, 5, 6, 8, 10, 12, 30, r] : List Int).getD i 0 := rfl
    rw [← e]
    generalize v [0, 1, 2, 3, 4, 5, 6, 8, 10, 12, 30, r] i = x at hm
    simp at hm
    omega
  generalize ([0, 1, 2, 3, 4, 5, 6, 8, 10, 12, 30, r] : List Int).getD i 0 = x at eo hx
  let S0 : Sl := [some (Li l), some (.int 30), none, none, none, none]
  have d1 : mCall1 0 g__law_draw (mCons (m2 gAdd (mVar 1) (mC (.int 1))) mNil) S0 = some (.int r, [some (Li l1), some (.int 30), none, none, none, none]) :=
    mCall1_ (S1 := S0) (rest := [some (.int 31)]) rfl (mCons_ (m2_ (mVar_ rfl) mC_ rfl) mNil_) rfl er
  have d2 : mCall1 0 g__law_one (mCons (mL gLst (mCons (mC (.int 0)) (mCons (mC (.int 1)) (mCons (mC (.int 2)) (mCons (mC (.int 3)) (mCons (mC (.int 4)) (mCons (mC (.int 5)) (mCons (mC (.int 6)) (mCons (mC (.int 8)) (mCons (mC (.int 10)) (mCons (mC (.int 12)) (mCons (mVar 1) (mCons (mCall1 0 g__law_draw (mCons (m2 gAdd (mVar 1) (mC (.int 1))) mNil)) mNil))))))))))))) mNil) S0 = some (.int x, [some (Li l2), some (.int 30), none, none, none, none]) :=
    mCall1_ (S1 := [some (Li l1), some (.int 30), none, none, none, none]) (rest := [some (Li [0, 1, 2, 3, 4, 5, 6, 8, 10, 12, 30, r])]) rfl
      (mCons_ (mL_ (z := Li [0, 1, 2, 3, 4, 5, 6, 8, 10, 12, 30, r]) (mCons_ mC_ (mCons_ mC_ (mCons_ mC_ (mCons_ mC_ (mCons_ mC_ (mCons_ mC_ (mCons_ mC_ (mCons_ mC_ (mCons_ mC_ (mCons_ mC_ (mCons_ (mVar_ rfl) (mCons_ d1 mNil_)))))))))))) rfl) mNil_) rfl eo
  have e1 : cPar [2, 3, 4] (mCons (mCall1 0 g__law_one (mCons (mL gLst (mCons (mC (.int 0)) (mCons (mC (.int 1)) (mCons (mC (.int 2)) (mCons (mC (.int 3)) (mCons (mC (.int 4)) (mCons (mC (.int 5)) (mCons (mC (.int 6)) (mCons (mC (.int 8)) (mCons (mC (.int 10)) (mCons (mC (.int 12)) (mCons (mVar 1) (mCons (mCall1 0 g__law_draw (mCons (m2 gAdd (mVar 1) (mC (.int 1))) mNil)) mNil))))))))))))) mNil)) (mCons (mVar 1) (mCons (mL gLst mNil) mNil))) S0
      = some (.nx, [some (Li l2), some (.int 30), some (.int x), some (.int 30), some (Li []), none]) := by
    unfold cPar
    rw [mCons_ d2 (mCons_ (x := PyData.int 30) (S1 := [some (Li l2), some (.int 30), none, none, none, none]) (mVar_ rfl) (mCons_ (x := Li []) (mL_ mNil_ rfl) mNil_))]
    rfl
  have e2 : cSet 2 (mL (g2 gMin2) (mCons (mVar 2) (mCons (mVar 1) mNil))) [some (Li l2), some (.int 30), some (.int x), some (.int 30), some (Li []), none] = some (.nx, [some (Li l2), some (.int 30), some (.int x), some (.int 30), some (Li []), none]) := by
    refine set_ (S1 := [some (Li l2), some (.int 30), some (.int x), some (.int 30), some (Li []), none]) (mL_ (mCons_ (mVar_ rfl) (mCons_ (mVar_ rfl) mNil_)) ?_)
    show some (PyData.int (if (30 : Int) < x then 30 else x)) = _
    rw [if_neg (by omega)]
  obtain ⟨S', e3, hS⟩ := cFor_brk (b := bName 5) (k := fun i => .int (0 + (i : Nat))) (l := List.range 9)
    (fb := cSeq (cIf (m2 gEq (mVar 2) (mC (.int 0))) (cSeq cBk cNx) cNx) (cSeq (cSet 3 (m2 gAdd (mC (.int 1)) (mCall1 0 g__law_draw (mCons (mL gMin3 (mCons (mVar 2) (mCons (mVar 3) (mCons (mCall1 0 g__law_one (mCons (mL gLst (mCons (mC (.int 2)) (mCons (mC (.int 4)) (mCons (mC (.int 30)) mNil)))) mNil)) mNil)))) mNil)))) (cSeq (cDrop (mApp 4 (mVar 3))) (cSeq (cSet 2 (m2 gSub (mVar 2) (mVar 3))) cNx))))
    (ShapeAt n) (fun S => ∃ j, j ≤ 9 ∧ ShapeAt n j S) (fun j hj S hS => by
      obtain ⟨l, found, left, len, last, rfl, f, h0, hlen, hd, hp, hsum, h1, hv, h30⟩ := hS
      rw [List.length_range] at hj
      rw [List.getElem_range, Int.zero_add]
      let S1 : Sl := [some (Li l), some (.int 30), some (.int left), some (.int len), some (Li found), some (.int (j : Int))]
      have c : m2 gEq (mVar 2) (mC (.int 0)) S1 = some (.bool (decide (left = 0)), S1) := m2_ (mVar_ rfl) mC_ gEq_I
      by_cases hz : left = 0
      · rw [decide_eq_true hz] at c
        exact ⟨S1, S1, rfl, .inr ⟨seq_bk ((if_t c).trans (seq_bk rfl)), j, by omega, l, found, left, len, _, rfl, f, h0, hlen, hd, hp, hsum, h1, hv, h30⟩⟩
      · rw [decide_eq_false hz] at c
        obtain ⟨q, l3, eo, hq, f3⟩ := p_one f (by omega) (t := [2, 4, 30]) (by decide) (by decide)
        have hw : 2 ≤ ([2, 4, 30] : List Int).getD q 0 := by
          have hm := v_mem (s := [2, 4, 30]) (i := q) hq
          have e : v [2, 4, 30] q = ([2, 4, 30] : List Int).getD q 0 := rfl
          rw [← e]
          generalize v [2, 4, 30] q = x at hm
          simp at hm
          omega
        generalize ([2, 4, 30] : List Int).getD q 0 = w at eo hw
        let many : Int := if w < (if len < left then len else left) then w else (if len < left then len else left)
        have hmany : 1 ≤ many ∧ many ≤ left ∧ many ≤ len := by
          show 1 ≤ (if w < (if len < left then len else left) then w else (if len < left then len else left)) ∧ (if w < (if len < left then len else left) then w else (if len < left then len else left)) ≤ left ∧ (if w < (if len < left then len else left) then w else (if len < left then len else left)) ≤ len
          split <;> split at * <;> omega
        obtain ⟨r, l4, er, r1, r2, f4⟩ := p_draw f3 (by omega) (m := many) (by omega) (by omega)
        have g1 : mCall1 0 g__law_one (mCons (mL gLst (mCons (mC (.int 2)) (mCons (mC (.int 4)) (mCons (mC (.int 30)) mNil)))) mNil) S1 = some (.int w, [some (Li l3), some (.int 30), some (.int left), some (.int len), some (Li found), some (.int (j : Int))]) :=
          mCall1_ (S1 := S1) (rest := [some (Li [2, 4, 30])]) rfl (mCons_ (mL_ (z := Li [2, 4, 30]) (mCons_ mC_ (mCons_ mC_ (mCons_ mC_ mNil_))) rfl) mNil_) rfl eo
        have g2 : mCall1 0 g__law_draw (mCons (mL gMin3 (mCons (mVar 2) (mCons (mVar 3) (mCons (mCall1 0 g__law_one (mCons (mL gLst (mCons (mC (.int 2)) (mCons (mC (.int 4)) (mCons (mC (.int 30)) mNil)))) mNil)) mNil)))) mNil) S1 = some (.int r, [some (Li l4), some (.int 30), some (.int left), some (.int len), some (Li found), some (.int (j : Int))]) :=
          mCall1_ (S1 := [some (Li l3), some (.int 30), some (.int left), some (.int len), some (Li found), some (.int (j : Int))]) (rest := [some (.int many)]) rfl (mCons_ (mL_ (z := .int many) (mCons_ (mVar_ rfl) (mCons_ (mVar_ rfl) (mCons_ g1 mNil_))) rfl) mNil_) rfl er
        let x : Int := 1 + r
        have e3 : cSet 3 (m2 gAdd (mC (.int 1)) (mCall1 0 g__law_draw (mCons (mL gMin3 (mCons (mVar 2) (mCons (mVar 3) (mCons (mCall1 0 g__law_one (mCons (mL gLst (mCons (mC (.int 2)) (mCons (mC (.int 4)) (mCons (mC (.int 30)) mNil)))) mNil)) mNil)))) mNil))) S1 = some (.nx, [some (Li l4), some (.int 30), some (.int left), some (.int x), some (Li found), some (.int (j : Int))]) :=
          set_ (S1 := [some (Li l4), some (.int 30), some (.int left), some (.int len), some (Li found), some (.int (j : Int))]) (m2_ mC_ g2 rfl)
        have e4 : cDrop (mApp 4 (mVar 3)) [some (Li l4), some (.int 30), some (.int left), some (.int x), some (Li found), some (.int (j : Int))] = some (.nx, [some (Li l4), some (.int 30), some (.int left), some (.int x), some (Li (found ++ [x])), some (.int (j : Int))]) := by
          refine drop_ (d := .none) ?_
          show (if (found.map PyData.int).length < sizeLine then some (PyData.none, [some (Li l4), some (.int 30), some (.int left), some (.int x), some (.list (found.map PyData.int ++ [PyData.int x])), some (.int (j : Int))]) else none) = _
          rw [if_pos (by rw [List.length_map, sz]; omega)]
          have : Li (found ++ [x]) = .list (found.map PyData.int ++ [PyData.int x]) := congrArg PyData.list (by rw [List.map_append]; rfl)
          rw [this]
        have e5 : cSet 2 (m2 gSub (mVar 2) (mVar 3)) [some (Li l4), some (.int 30), some (.int left), some (.int x), some (Li (found ++ [x])), some (.int (j : Int))] = some (.nx, [some (Li l4), some (.int 30), some (.int (left - x)), some (.int x), some (Li (found ++ [x])), some (.int (j : Int))]) :=
          set_ (S1 := [some (Li l4), some (.int 30), some (.int left), some (.int x), some (Li (found ++ [x])), some (.int (j : Int))]) (m2_ (mVar_ rfl) (mVar_ rfl) rfl)
        have hx1 : 1 ≤ x ∧ x ≤ left ∧ x ≤ len := by show 1 ≤ 1 + r ∧ 1 + r ≤ left ∧ 1 + r ≤ len; omega
        refine ⟨S1, _, rfl, .inl ⟨(seq_nx (if_f c)).trans ((seq_nx e3).trans ((seq_nx e4).trans ((seq_nx e5).trans nx_))), l4, found ++ [x], left - x, x, _, rfl, f4.mono (by omega), by omega, by simp [hlen], fun k hk => ?_, fun y hy => ?_, by rw [List.sum_append]; simp; omega, hx1.1, fun _ => ?_, by omega⟩⟩
        · rw [List.length_append, List.length_singleton] at hk
          rw [v_app (j := k), if_neg (show ¬ k = found.length by omega), v_app]
          by_cases e : k + 1 = found.length
          · rw [if_pos e]
            have := hv (by omega)
            rw [show j - 1 = k by omega] at this
            omega
          · rw [if_neg e]; exact hd k (by omega)
        · rcases List.mem_append.mp hy with z | z
          · exact hp y z
          · have : y = x := by simpa using z
            omega
        · rw [v_app, if_pos (by omega)]) (S := [some (Li l2), some (.int 30), some (.int x), some (.int 30), some (Li []), none])
    ⟨l2, [], x, 30, none, rfl, f2, hx.1, rfl, fun k hk => by simp at hk, (fun y hy => nomatch hy), by show (0 : Int) + x ≤ 30; omega, by omega, fun h => by omega, by omega⟩
  have hS' : ∃ j, j ≤ 9 ∧ ShapeAt n j S' := by
    rcases hS with h | h
    · exact ⟨9, by omega, h⟩
    · exact h
  obtain ⟨j, hj, l5, found, left, len, last, rfl, f, h0, hlen, hd, hp, hsum, h1, hv, h30⟩ := hS'
  exact ⟨found, l5, gFn_io (S' := [some (.int 30), some (.int left), some (.int len), some (Li found), last]) ((seq_nx e1).trans ((seq_nx e2).trans ((seq_nx (cForS_ (mRg_ (mCons_ mC_ mNil_) (gR1_ (n := 9) (by decide))) e3)).trans (seq_rt (ret_ (mL_ (mCons_ (mVarO_ rfl) mNil_) rfl)))))), ⟨by omega, hp, by omega, hd⟩, f.mono (by omega)⟩
end K02
end
section
set_option Elab.async false
set_option linter.all false
set_option maxRecDepth 100000
set_option maxHeartbeats 4000000
namespace K02
open PySem PySem.Spec L2 FV
theorem dd_corners : ∀ {s : List Int}, Desc s → (∀ x ∈ s, 1 ≤ x) → (dd s).length = (cornersN s).length
  | [], _, _ => rfl
  | a :: s, d, p => by
    have ds : Desc s := fun k hk => d (k + 1) (by simp; omega)
    have ps : ∀ x ∈ s, 1 ≤ x := fun x hx => p x (List.mem_cons_of_mem _ hx)
    have ih := dd_corners ds ps
    have p0 : ∀ x ∈ a :: s, 0 ≤ x := fun x hx => by have := p x hx; omega
    have e : cornersN (a :: s) = (if v s 0 < a then [0] else []) ++ (cornersN s).map (· + 1) := by
      unfold cornersN
      rw [List.length_cons, List.range_succ_eq_map, List.filter_cons, List.filter_map]
      have h0 : decide (v (a :: s) (0 + 1) < v (a :: s) 0) = decide (v s 0 < a) := rfl
      rw [h0]
      by_cases h : v s 0 < a
      · rw [if_pos (by simpa using h), if_pos h]; rfl
      · rw [if_neg (by simpa using h), if_neg h]; rfl
    have m : a ∈ s ↔ ¬ v s 0 < a := by
      have h1 : ∀ k, v s k ≤ a := fun k => d.le p0 (Nat.zero_le (k + 1))
      constructor
      · intro h
        obtain ⟨k, hk, e⟩ := mem_v h
        have := ds.le (fun x hx => by have := ps x hx; omega) (Nat.zero_le k)
        omega
      · intro h
        have ha := p a (by simp)
        have := h1 0
        cases Nat.lt_or_ge 0 s.length with
        | inl hl =>
          have hm := v_mem hl
          rw [show v s 0 = a by omega] at hm
          exact hm
        | inr hl => rw [v_out hl] at h; omega
    unfold dd
    rw [e, List.length_append, List.length_map]
    by_cases h : v s 0 < a
    · rw [if_neg (fun z => m.mp z h), if_pos h, List.length_cons, ih]; simp; omega
    · rw [if_pos (m.mpr h), if_neg h, ih]; simp
theorem nats_get {L : List Nat} {i : Nat} (h : i < (nats L).length) : ∃ c, c ∈ L ∧ (nats L).getD i 0 = ((c : Nat) : Int) := by
  unfold nats at h ⊢
  rw [List.length_map] at h
  refine ⟨L[i], List.getElem_mem h, ?_⟩
  rw [List.getD_eq_getElem?_getD, List.getElem?_map, List.getElem?_eq_getElem h]
  rfl
theorem nats_len {L : List Nat} : (nats L).length = L.length := by simp [nats]
theorem corners_le {s : List Int} : (cornersN s).length ≤ s.length := by
  unfold cornersN
  exact Nat.le_trans (List.length_filter_le _ _) (by rw [List.length_range]; exact Nat.le_refl _)
theorem spots_le {s : List Int} (h : Sh s) : (spotsN s).length ≤ 10 := by
  rw [spots_count h]
  have := corners_le (s := s)
  have := h.len
  split <;> omega
theorem corners_ne {s : List Int} (h : Sh s) (hs : s ≠ []) : 0 < (cornersN s).length := by
  have hl : 0 < s.length := List.length_pos_iff.mpr hs
  have : s.length - 1 ∈ cornersN s := by
    rw [corners_mem]
    refine ⟨by omega, ?_⟩
    rw [v_out (by omega)]
    have := h.v1 (i := s.length - 1) (by omega)
    omega
  exact List.length_pos_of_mem this
theorem p_near {n : Nat} {l s : List Int} (h : Feed n l) (hn : n ≤ 50000) (hs : Sh s) : ∃ (t l' : List Int), g__law_near [some (Li l), some (Ti s)] = some (Ti t, [some (Li l'), some (Ti s)]) ∧ Sh t ∧ Feed (n + 25) l' := by
  obtain ⟨r, l1, er, r1, r2, f1⟩ := p_draw h (by omega) (m := 4) (by decide) (by decide)
  let S : Sl := [some (Li l1), some (Ti s), some (.int r)]
  have e1 : cSet 2 (mCall1 0 g__law_draw (mCons (mC (.int 4)) mNil)) [some (Li l), some (Ti s), none] = some (.nx, S) :=
    set_ (S1 := [some (Li l1), some (Ti s), none]) (mCall1_ (S1 := [some (Li l), some (Ti s), none]) (rest := [some (.int 4)]) rfl (mCons_ mC_ mNil_) rfl er)
  have hl := hs.len
  have c1 : mAnd (m2 gEq (mVar 2) (mC (.int 0))) (m2 gNe (mVar 1) (mL FV.gTup mNil)) S = some (.bool (decide (r = 0) && !decide (s = [])), S) :=
    mAnd_ (m2_ (mVar_ rfl) mC_ gEq_I) fun _ => m2_ (mVar_ rfl) (mL_ mNil_ (rfl : FV.gTup [] = some (Ti []))) (gNe_T (t := []))
  by_cases q1 : r = 0 ∧ s ≠ []
  · rw [decide_eq_true q1.1, decide_eq_false q1.2] at c1
    obtain ⟨i, l2, eo, hi, f2⟩ := p_one f1 (by omega) (t := nats (cornersN s)) (by rw [nats_len]; exact corners_ne hs q1.2) (by rw [nats_len]; have := corners_le (s := s); omega)
    obtain ⟨c, hc, ec⟩ := nats_get hi
    rw [ec] at eo
    have hcl := (corners_mem.mp hc).1
    have e2 : mCall1 0 g__law_one (mCons (mL (g1 gList) (mCons (mCall0 g__law_corners (mCons (mVar 1) mNil)) mNil)) mNil) S = some (.int (c : Int), [some (Li l2), some (Ti s), some (.int r)]) :=
      mCall1_ (S1 := S) (rest := [some (Li (nats (cornersN s)))]) rfl (mCons_ (mL_ (z := Li (nats (cornersN s))) (mCons_ (mCall0_ (mCons_ (mVar_ rfl) mNil_) (p_corners hs)) mNil_) rfl) mNil_) rfl eo
    refine ⟨without s c, l2, gFn_io (S' := [some (Ti s), some (.int r)]) ((seq_nx e1).trans (seq_rt ((if_t c1).trans (seq_rt (ret_ (mCall0_ (mCons_ (mVar_ (x := Ti s) rfl) (mCons_ e2 mNil_)) (p_without (by omega) hcl))))))), without_sh hs hc, f2.mono (by omega)⟩
  · have hq1 : (decide (r = 0) && !decide (s = [])) = false := by
      by_cases h1 : r = 0
      · by_cases h2 : s = []
        · simp [h2]
        · exact absurd ⟨h1, h2⟩ q1
      · simp [h1]
    rw [hq1] at c1
    have c2 : mAnd (m2 gEq (mVar 2) (mC (.int 1))) (mAnd (m2 gLt (mL (g1 gSum) (mCons (mVar 1) mNil)) (mC (.int 30))) (m2 gNe (mCall0 g__law_spots (mCons (mVar 1) mNil)) (mL FV.gTup mNil))) S = some (.bool (decide (r = 1) && (decide (s.sum < 30) && !decide (nats (spotsN s) = []))), S) :=
      mAnd_ (m2_ (mVar_ rfl) mC_ gEq_I) fun _ => mAnd_ (m2_ (mL_ (mCons_ (mVar_ rfl) mNil_) gSum_T) mC_ rfl) fun _ => m2_ (mCall0_ (mCons_ (mVar_ rfl) mNil_) (p_spots hs)) (mL_ mNil_ (rfl : FV.gTup [] = some (Ti []))) (gNe_T (t := []))
    by_cases q2 : r = 1 ∧ s.sum < 30 ∧ nats (spotsN s) ≠ []
    · rw [decide_eq_true q2.1, decide_eq_true q2.2.1, decide_eq_false q2.2.2] at c2
      obtain ⟨i, l2, eo, hi, f2⟩ := p_one f1 (by omega) (t := nats (spotsN s)) (List.length_pos_iff.mpr q2.2.2) (by rw [nats_len]; have := spots_le hs; omega)
      obtain ⟨c, hc, ec⟩ := nats_get hi
      rw [ec] at eo
      have e2 : mCall1 0 g__law_one (mCons (mL (g1 gList) (mCons (mCall0 g__law_spots (mCons (mVar 1) mNil)) mNil)) mNil) S = some (.int (c : Int), [some (Li l2), some (Ti s), some (.int r)]) :=
        mCall1_ (S1 := S) (rest := [some (Li (nats (spotsN s)))]) rfl (mCons_ (mL_ (z := Li (nats (spotsN s))) (mCons_ (mCall0_ (mCons_ (mVar_ rfl) mNil_) (p_spots hs)) mNil_) rfl) mNil_) rfl eo
      exact ⟨upper s c, l2, gFn_io (S' := [some (Ti s), some (.int r)]) ((seq_nx e1).trans ((seq_nx (if_f c1)).trans (seq_rt ((if_t c2).trans (seq_rt (ret_ (mCall0_ (mCons_ (mVar_ (x := Ti s) rfl) (mCons_ e2 mNil_)) (p_with (s := s) (i := c) (by omega) (spot_le hc).1)))))))), upper_sh hs hc q2.2.1, f2.mono (by omega)⟩
    · have hq2 : (decide (r = 1) && (decide (s.sum < 30) && !decide (nats (spotsN s) = []))) = false := by
        by_cases h1 : r = 1
        · by_cases h2 : s.sum < 30
          · by_cases h3 : nats (spotsN s) = []
            · simp [h3]
            · exact absurd ⟨h1, h2, h3⟩ q2
          · simp [h2]
        · simp [h1]
      rw [hq2] at c2
      have c3 : m2 gEq (mVar 2) (mC (.int 2)) S = some (.bool (decide (r = 2)), S) := m2_ (mVar_ rfl) mC_ gEq_I
      by_cases q3 : r = 2
      · rw [decide_eq_true q3] at c3
        exact ⟨s.drop 1, l1, gFn_io (S' := [some (Ti s), some (.int r)]) ((seq_nx e1).trans ((seq_nx (if_f c1)).trans ((seq_nx (if_f c2)).trans (seq_rt (ret_ (mIf_t c3 (mCut_from (k := 1) (mVar_ rfl) mC_))))))), drop_sh hs, f1.mono (by omega)⟩
      · rw [decide_eq_false q3] at c3
        obtain ⟨t, l2, et, ht, f2⟩ := p_shape f1 (by omega)
        have e2 : mCall1 0 g__law_shape (mCons (mC (.int 30)) mNil) S = some (Ti t, [some (Li l2), some (Ti s), some (.int r)]) :=
          mCall1_ (S1 := S) (rest := [some (.int 30)]) rfl (mCons_ mC_ mNil_) rfl et
        exact ⟨t, l2, gFn_io (S' := [some (Ti s), some (.int r)]) ((seq_nx e1).trans ((seq_nx (if_f c1)).trans ((seq_nx (if_f c2)).trans (seq_rt (ret_ (mIf_f c3 e2)))))), ht, f2.mono (by omega)⟩
end K02
end
section
set_option Elab.async false
set_option linter.all false
set_option maxRecDepth 100000
set_option maxHeartbeats 4000000
namespace K02
open PySem PySem.Spec L2 FV
def R0 : CM := (cSet 1 (mCall1 0 g__law_shape (mCons (mC (.int 30)) mNil)))
def R1 : CM := (cAsg (bTup 4 (bCons (bName 2) (bCons (bName 3) (bCons (bName 4) (bCons (bName 5) bNil))))) (mL FV.gTup (mCons (mC (.int 0)) (mCons (mCall0 g__law_columns (mCons (mVar 1) mNil)) (mCons (mCall0 g__law_corners (mCons (mVar 1) mNil)) (mCons (mCall0 g__law_spots (mCons (mVar 1) mNil)) mNil))))))
def R2 : CM := (cForS (mIt (mVar 1)) (bName 6) (cSeq (cForS (mRg gR1 (mCons (mVar 6) mNil)) (bName 7) (cSeq (cSet 2 (m2 gAdd (mVar 2) (mC (.int 1)))) cNx)) cNx))
def R3 : CM := (cIf (m2 gNe (mL (g1 gRepr) (mCons (mL gLst (mCons (mCall0 g_size_of (mCons (mVar 1) mNil)) (mCons (mCall0 g_turned_shape (mCons (mVar 1) mNil)) (mCons (mCall0 g_corners_of (mCons (mVar 1) mNil)) (mCons (mCall0 g_spots_of (mCons (mVar 1) mNil)) mNil))))) mNil)) (mL (g1 gRepr) (mCons (mL gLst (mCons (mVar 2) (mCons (mVar 3) (mCons (mVar 4) (mCons (mVar 5) mNil))))) mNil))) (cSeq (cRet (mC (.bool false))) cNx) cNx)
def R4 : CM := (cIf (m2 gNe (mL (g1 gRepr) (mCons (mL gLst (mCons (mCall0 g_size_of (mPick [0] mNil (mCons (mVar 1) mNil))) (mCons (mCall0 g_turned_shape (mPick [0] mNil (mCons (mVar 1) mNil))) (mCons (mCall0 g_corners_of (mPick [0] mNil (mCons (mVar 1) mNil))) (mCons (mCall0 g_spots_of (mPick [0] mNil (mCons (mVar 1) mNil))) mNil))))) mNil)) (mL (g1 gRepr) (mCons (mL gLst (mCons (mVar 2) (mCons (mVar 3) (mCons (mVar 4) (mCons (mVar 5) mNil))))) mNil))) (cSeq (cRet (mC (.bool false))) cNx) cNx)
def R5 : CM := (cIf (mOr (mAnd (m2 gIs (mCall0 g_is_shape (mCons (mVar 3) mNil)) (mC (.bool true))) (m2 gNe (mCall0 g_turned_shape (mCons (mVar 3) mNil)) (mVar 1))) (m2 gNe (m2 gIsN (mCall0 g_is_shape (mCons (mVar 3) mNil)) (mC (.bool true))) (m2 gGt (mL (g1 gLen) (mCons (mVar 3) mNil)) (mC (.int 9))))) (cSeq (cRet (mC (.bool false))) cNx) cNx)
def R6 : CM := (cIf (mOr (m2 gNe (mL (g1 gLen) (mCons (mVar 4) mNil)) (m1 gLenSet (mVar 1))) (m2 gNe (mL (g1 gLen) (mCons (mVar 5) mNil)) (m2 gSub (m2 gAdd (mL (g1 gLen) (mCons (mVar 4) mNil)) (mC (.int 1))) (mL (g1 FV.gInt) (mCons (m2 gEq (mL (g1 gLen) (mCons (mVar 1) mNil)) (mC (.int 9))) mNil))))) (cSeq (cRet (mC (.bool false))) cNx) cNx)
def R7 : CM := (cForS (mIt (mVar 4)) (bName 8) (cSeq (cSet 9 (mCall0 g__law_without (mCons (mVar 1) (mCons (mVar 8) mNil)))) (cSeq (cIf (mOr (m2 gIsN (mCall0 g_is_shape (mCons (mVar 9) mNil)) (mC (.bool true))) (mOr (m2 (gIn true) (mVar 8) (mCall0 g_spots_of (mCons (mVar 9) mNil))) (mOr (m2 gNe (mCall0 g_size_of (mCons (mVar 9) mNil)) (m2 gSub (mVar 2) (mC (.int 1)))) (m1 gNot (mCall0 g_is_within_shape (mCons (mVar 9) (mCons (mVar 1) mNil))))))) (cSeq (cRet (mC (.bool false))) cNx) cNx) cNx)))
def R8 : CM := (cForS (mIt (mIf (m2 gLt (mVar 2) (mC (.int 30))) (mVar 5) (mL FV.gTup mNil))) (bName 8) (cSeq (cSet 10 (mCall0 g__law_with (mCons (mVar 1) (mCons (mVar 8) mNil)))) (cSeq (cIf (mOr (m2 gIsN (mCall0 g_is_shape (mCons (mVar 10) mNil)) (mC (.bool true))) (mOr (m2 (gIn true) (mVar 8) (mCall0 g_corners_of (mCons (mVar 10) mNil))) (m1 gNot (mCall0 g_is_within_shape (mCons (mVar 1) (mCons (mVar 10) mNil)))))) (cSeq (cRet (mC (.bool false))) cNx) cNx) cNx)))
def R9 : CM := (cSet 11 (mCall1 0 g__law_near (mCons (mVar 1) mNil)))
def R10 : CM := (cRet (mAnd (mCall0 g__law_two_right (mCons (mVar 1) (mCons (mVar 11) mNil))) (mAnd (mCall0 g__law_two_right (mCons (mVar 11) (mCons (mVar 1) mNil))) (mAnd (mCall0 g__law_two_right (mCons (mVar 1) (mCons (mVar 1) mNil))) (m2 gIs (mCall0 g_is_within_shape (mCons (mL FV.gTup mNil) (mCons (mVar 1) mNil))) (mC (.bool true)))))))
theorem right_eq : s__law_right = cSeq R0 (cSeq R1 (cSeq R2 (cSeq R3 (cSeq R4 (cSeq R5 (cSeq R6 (cSeq R7 (cSeq R8 (cSeq R9 (cSeq R10 cNx)))))))))) := rfl
def Q (l s : List Int) (tot : Int) (a6 a7 a8 a9 a10 a11 : Option D) : Sl := [some (Li l), some (Ti s), some (.int tot), some (Ti (colF s)), some (Ti (nats (cornersN s))), some (Ti (nats (spotsN s))), a6, a7, a8, a9, a10, a11]
theorem R1_ {l s : List Int} (h : Sh s) : R1 [some (Li l), some (Ti s), none, none, none, none, none, none, none, none, none, none] = some (.nx, Q l s 0 none none none none none none) := by
  let S : Sl := [some (Li l), some (Ti s), none, none, none, none, none, none, none, none, none, none]
  have e : mL FV.gTup (mCons (mC (.int 0)) (mCons (mCall0 g__law_columns (mCons (mVar 1) mNil)) (mCons (mCall0 g__law_corners (mCons (mVar 1) mNil)) (mCons (mCall0 g__law_spots (mCons (mVar 1) mNil)) mNil)))) S = some (.tuple [.int 0, Ti (colF s), Ti (nats (cornersN s)), Ti (nats (spotsN s))], S) :=
    mL_ (mCons_ mC_ (mCons_ (mCall0_ (mCons_ (mVar_ rfl) mNil_) (p_lcolumns h)) (mCons_ (mCall0_ (mCons_ (mVar_ rfl) mNil_) (p_corners h)) (mCons_ (mCall0_ (mCons_ (mVar_ rfl) mNil_) (p_spots h)) mNil_)))) rfl
  unfold R1 cAsg
  rw [e]
  rfl
theorem R2_ {l s : List Int} (h : Sh s) : ∃ a b, R2 (Q l s 0 none none none none none none) = some (.nx, Q l s s.sum a b none none none none) := by
  obtain ⟨S', e, a, b, rfl⟩ := cFor_inv (b := bName 6) (k := PyData.int) (l := s) (fb := cSeq (cForS (mRg gR1 (mCons (mVar 6) mNil)) (bName 7) (cSeq (cSet 2 (m2 gAdd (mVar 2) (mC (.int 1)))) cNx)) cNx)
    (fun i S => ∃ a b, S = Q l s (s.take i).sum a b none none none none) (fun i hi S hS => by
      obtain ⟨a, b, rfl⟩ := hS
      have ex : s[i] = v s i := by
        have := get_v hi
        rw [List.getElem?_eq_getElem hi] at this
        exact Option.some.inj this
      have x1 := h.v1 hi
      have x30 := h.most (v_mem hi)
      obtain ⟨n, hn⟩ : ∃ n : Nat, v s i = n := ⟨(v s i).toNat, by omega⟩
      rw [ex, hn]
      obtain ⟨S', e, b', rfl⟩ := cFor_inv (b := bName 7) (k := fun i => .int (0 + (i : Nat))) (l := List.range n) (fb := cSeq (cSet 2 (m2 gAdd (mVar 2) (mC (.int 1)))) cNx)
        (fun j S => ∃ b, S = Q l s ((s.take i).sum + j) (some (.int (n : Int))) b none none none none) (fun j hj S hS => by
          obtain ⟨b, rfl⟩ := hS
          have e1 : cSet 2 (m2 gAdd (mVar 2) (mC (.int 1))) (Q l s ((s.take i).sum + j) (some (.int (n : Int))) (some (.int (0 + ((List.range n)[j] : Nat)))) none none none none) = some (.nx, Q l s ((s.take i).sum + j + 1) (some (.int (n : Int))) (some (.int (0 + ((List.range n)[j] : Nat)))) none none none none) :=
            set_ (S1 := Q l s ((s.take i).sum + j) (some (.int (n : Int))) (some (.int (0 + ((List.range n)[j] : Nat)))) none none none none) (m2_ (mVar_ rfl) mC_ rfl)
          refine ⟨_, _, rfl, (seq_nx e1).trans nx_, some (.int (0 + ((List.range n)[j] : Nat))), ?_⟩
          rw [show (s.take i).sum + ((j + 1 : Nat) : Int) = (s.take i).sum + j + 1 by omega]) (S := Q l s (s.take i).sum (some (.int (n : Int))) b none none none none) ⟨b, by simp⟩
      rw [List.length_range] at e
      refine ⟨_, _, rfl, (seq_nx (cForS_ (mRg_ (mCons_ (mVar_ rfl) mNil_) (gR1_ (by omega))) e)).trans nx_, some (.int (n : Int)), b', ?_⟩
      rw [take_snoc hi, List.sum_append, hn]
      simp) (S := Q l s 0 none none none none none none) ⟨none, none, rfl⟩
  rw [List.take_length] at e
  exact ⟨a, b, cForS_ (mIt_ (mVar_ rfl) items_T) e⟩
theorem rp_four {a : Int} {s t u : List Int} (ha : 0 ≤ a ∧ a ≤ 99) (hs : ∀ x ∈ s, 0 ≤ x ∧ x ≤ 99) (ht : ∀ x ∈ t, 0 ≤ x ∧ x ≤ 99) (hu : ∀ x ∈ u, 0 ≤ x ∧ x ≤ 99) (ls : s.length ≤ 40) (lt : t.length ≤ 40) (lu : u.length ≤ 40) : RpOk (.list [.int a, Ti s, Ti t, Ti u]) 1000 := by
  have q1 := show_ints (s := [a]) (fun x hx => by have : x = a := by simpa using hx
                                                  rw [this]; exact ha)
  have q2 : PyData.showable (.int a) = true := by
    have := q1
    simp only [List.map_cons, List.map_nil, PyData.showableAll, Bool.and_true] at this
    exact this
  refine ⟨?_, ?_, ?_, (tx_list (k := 163) fun d hd => ?_).mono (by show (163 + 2) * 4 + 2 ≤ 1000; decide)⟩
  · show PyData.showableAll [.int a, .tuple _, .tuple _, .tuple _] = true
    simp only [PyData.showable] at q2
    simp only [PyData.showableAll, q2, PyData.showable, show_ints hs, show_ints ht, show_ints hu, Bool.and_self]
  · show PyData.canLayAll0 [.int a, .tuple _, .tuple _, .tuple _] = true
    simp only [PyData.canLayAll0, PyData.canLay0, lay_ints, Bool.and_self]
  · show PyData.depth (.list [.int a, .tuple _, .tuple _, .tuple _]) ≤ 60
    simp only [PyData.depth, PyData.depthAll, depth_ints]
    omega
  · rcases List.mem_cons.mp hd with e | hd
    · rw [e, PyData.shown_int]
      exact (tx_int ha.1 ha.2).mono (by decide)
    · rcases List.mem_cons.mp hd with e | hd
      · rw [e]; exact (tx_T hs ls).mono (by decide)
      · rcases List.mem_cons.mp hd with e | hd
        · rw [e]; exact (tx_T ht lt).mono (by decide)
        · have e : d = Ti u := by simpa using hd
          rw [e]; exact (tx_T hu lu).mono (by decide)
theorem nats_small {L : List Nat} (h : ∀ i ∈ L, i ≤ 99) : ∀ x ∈ nats L, 0 ≤ x ∧ x ≤ 99 := fun x hx => by
  obtain ⟨i, hi, rfl⟩ := List.mem_map.mp hx
  have := h i hi
  omega
theorem rp_shape {s : List Int} (h : Sh s) : RpOk (.list [.int s.sum, Ti (colF s), Ti (nats (cornersN s)), Ti (nats (spotsN s))]) 1000 := by
  have hl := h.len
  refine rp_four ⟨(sum_ge h.pos0).1, by have := h.sum; omega⟩ (fun x hx => ?_) (nats_small fun i hi => ?_) (nats_small fun i hi => ?_) (by have := colF_small h; omega) (by rw [nats_len]; have := corners_le (s := s); omega) (by rw [nats_len]; have := spots_le h; omega)
  · have := colF_pos h x hx
    obtain ⟨j, hj, rfl⟩ := mem_v hx
    rw [colF_v h] at this ⊢
    have := cnt_le (s := s) (j := j)
    omega
  · have := (corners_mem.mp hi).1; omega
  · have := (spot_le hi).1; omega
theorem R3_ {l s : List Int} (h : Sh s) (a b : Option D) : R3 (Q l s s.sum a b none none none none) = some (.nx, Q l s s.sum a b none none none none) := by
  let S := Q l s s.sum a b none none none none
  have r := (repr_same (S := S) (S1 := S) (S2 := S) (fa := mL gLst (mCons (mCall0 g_size_of (mCons (mVar 1) mNil)) (mCons (mCall0 g_turned_shape (mCons (mVar 1) mNil)) (mCons (mCall0 g_corners_of (mCons (mVar 1) mNil)) (mCons (mCall0 g_spots_of (mCons (mVar 1) mNil)) mNil))))) (fb := mL gLst (mCons (mVar 2) (mCons (mVar 3) (mCons (mVar 4) (mCons (mVar 5) mNil)))))
    (mL_ (mCons_ (mCall0_ (mCons_ (mVar_ rfl) mNil_) (p_size_of h)) (mCons_ (mCall0_ (mCons_ (mVar_ rfl) mNil_) (p_turned_shape h)) (mCons_ (mCall0_ (mCons_ (mVar_ rfl) mNil_) (p_corners_of h)) (mCons_ (mCall0_ (mCons_ (mVar_ rfl) mNil_) (p_spots_of h)) mNil_)))) rfl)
    (mL_ (mCons_ (mVar_ rfl) (mCons_ (mVar_ rfl) (mCons_ (mVar_ rfl) (mCons_ (mVar_ rfl) mNil_)))) rfl) (rp_shape h) (by decide)).1
  exact (if_f r).trans nx_
theorem pick0 {S : Sl} {x : D} {f : SM} (h : f S = some (x, S)) : mPick [0] mNil (mCons f mNil) S = some ([x], S) := by
  unfold mPick
  rw [mNil_]
  simp only [Option.bind_some, mCons_ h mNil_]
  rfl
theorem R4_ {l s : List Int} (h : Sh s) (a b : Option D) : R4 (Q l s s.sum a b none none none none) = some (.nx, Q l s s.sum a b none none none none) := by
  let S := Q l s s.sum a b none none none none
  have r := (repr_same (S := S) (S1 := S) (S2 := S) (fa := mL gLst (mCons (mCall0 g_size_of (mPick [0] mNil (mCons (mVar 1) mNil))) (mCons (mCall0 g_turned_shape (mPick [0] mNil (mCons (mVar 1) mNil))) (mCons (mCall0 g_corners_of (mPick [0] mNil (mCons (mVar 1) mNil))) (mCons (mCall0 g_spots_of (mPick [0] mNil (mCons (mVar 1) mNil))) mNil))))) (fb := mL gLst (mCons (mVar 2) (mCons (mVar 3) (mCons (mVar 4) (mCons (mVar 5) mNil)))))
    (mL_ (mCons_ (mCall0_ (pick0 (mVar_ rfl)) (p_size_of h)) (mCons_ (mCall0_ (pick0 (mVar_ rfl)) (p_turned_shape h)) (mCons_ (mCall0_ (pick0 (mVar_ rfl)) (p_corners_of h)) (mCons_ (mCall0_ (pick0 (mVar_ rfl)) (p_spots_of h)) mNil_)))) rfl)
    (mL_ (mCons_ (mVar_ rfl) (mCons_ (mVar_ rfl) (mCons_ (mVar_ rfl) (mCons_ (mVar_ rfl) mNil_)))) rfl) (rp_shape h) (by decide)).1
  exact (if_f r).trans nx_
theorem colF_shB {s : List Int} (h : Sh s) : shB (colF s) = decide ((colF s).length ≤ 9) := by
  rw [Bool.eq_iff_iff, shB_iff, decide_eq_true_eq]
  exact colF_sh h
theorem R5_ {l s : List Int} (h : Sh s) (a b : Option D) : R5 (Q l s s.sum a b none none none none) = some (.nx, Q l s s.sum a b none none none none) := by
  let S := Q l s s.sum a b none none none none
  have hc := colF_small h
  have i1 : mCall0 g_is_shape (mCons (mVar 3) mNil) S = some (.bool (shB (colF s)), S) := mCall0_ (mCons_ (mVar_ rfl) mNil_) (p_is_shape (colF s) (by omega))
  have c1 : mAnd (m2 gIs (mCall0 g_is_shape (mCons (mVar 3) mNil)) (mC (.bool true))) (m2 gNe (mCall0 g_turned_shape (mCons (mVar 3) mNil)) (mVar 1)) S = some (.bool (decide (shB (colF s) = true) && false), S) :=
    mAnd_ (m2_ i1 mC_ rfl) fun hb => by
      have hb' : shB (colF s) = true := of_decide_eq_true hb
      have hsh := shB_iff.mp hb'
      refine m2_ (mCall0_ (mCons_ (mVar_ rfl) mNil_) (p_turned_shape hsh)) (mVar_ rfl) ?_
      rw [gNe_T, colF_colF h hsh.len]
      simp
  have c2 : m2 gNe (m2 gIsN (mCall0 g_is_shape (mCons (mVar 3) mNil)) (mC (.bool true))) (m2 gGt (mL (g1 gLen) (mCons (mVar 3) mNil)) (mC (.int 9))) S = some (.bool false, S) := by
    refine m2_ (m2_ i1 mC_ rfl) (m2_ (z := .bool (decide (9 < ((colF s).length : Int)))) (mL_ (mCons_ (mVar_ rfl) mNil_) gLen_T) mC_ rfl) ?_
    rw [gNe_B, colF_shB h]
    by_cases h9 : (colF s).length ≤ 9
    · rw [decide_eq_true h9, decide_eq_false (show ¬ (9 : Int) < ((colF s).length : Int) by omega)]
      rfl
    · rw [decide_eq_false h9, decide_eq_true (show (9 : Int) < ((colF s).length : Int) by omega)]
      rfl
  have c := mOr_ (b := decide (shB (colF s) = true) && false) (p := false) c1 fun _ => c2
  have c' : mOr (mAnd (m2 gIs (mCall0 g_is_shape (mCons (mVar 3) mNil)) (mC (.bool true))) (m2 gNe (mCall0 g_turned_shape (mCons (mVar 3) mNil)) (mVar 1))) (m2 gNe (m2 gIsN (mCall0 g_is_shape (mCons (mVar 3) mNil)) (mC (.bool true))) (m2 gGt (mL (g1 gLen) (mCons (mVar 3) mNil)) (mC (.int 9)))) S = some (.bool false, S) := by
    rw [c]
    simp
  exact (if_f c').trans nx_
theorem R6_ {l s : List Int} (h : Sh s) (a b : Option D) : R6 (Q l s s.sum a b none none none none) = some (.nx, Q l s s.sum a b none none none none) := by
  let S := Q l s s.sum a b none none none none
  have hl := h.len
  have c1 : m2 gNe (mL (g1 gLen) (mCons (mVar 4) mNil)) (m1 gLenSet (mVar 1)) S = some (.bool false, S) := by
    refine m2_ (mL_ (mCons_ (mVar_ rfl) mNil_) gLen_T) (m1_ (x := Ti s) (z := .int (dd s).length) (mVar_ rfl) ?_) ?_
    · show ((intsOf (s.map PyData.int)).bind fun ns => if ns.length ≤ 1000 then some (PyData.int (dd ns).length) else none) = _
      rw [intsOf_map]
      show (if s.length ≤ 1000 then some (PyData.int (dd s).length) else none) = _
      rw [if_pos (by omega)]
    · rw [gNe_I, nats_len, dd_corners h.desc h.pos]
      simp
  have c2 : m2 gNe (mL (g1 gLen) (mCons (mVar 5) mNil)) (m2 gSub (m2 gAdd (mL (g1 gLen) (mCons (mVar 4) mNil)) (mC (.int 1))) (mL (g1 FV.gInt) (mCons (m2 gEq (mL (g1 gLen) (mCons (mVar 1) mNil)) (mC (.int 9))) mNil))) S = some (.bool false, S) := by
    refine m2_ (mL_ (mCons_ (mVar_ rfl) mNil_) gLen_T) (m2_ (m2_ (mL_ (mCons_ (mVar_ rfl) mNil_) gLen_T) mC_ rfl) (mL_ (mCons_ (m2_ (mL_ (mCons_ (mVar_ rfl) mNil_) gLen_T) mC_ gEq_I) mNil_) rfl) rfl) ?_
    rw [gNe_I, nats_len, nats_len, spots_count h]
    by_cases h9 : s.length = 9
    · have : ((s.length : Int) = 9) := by omega
      rw [decide_eq_true this, if_neg (by omega)]
      simp
    · have : ¬ ((s.length : Int) = 9) := by omega
      rw [decide_eq_false this, if_pos (by omega)]
      simp
  have c := mOr_ (b := false) (p := false) c1 fun _ => c2
  exact (if_f c).trans nx_
theorem gIn_T {c : Int} {t : List Int} : gIn true (.int c) (Ti t) = some (.bool (!decide (c ∈ t))) := by
  unfold gIn
  rw [items_T, Option.bind_some]
  have f : (t.map PyData.int).all flatD = true := by
    rw [List.all_map, List.all_eq_true]
    intro x _
    rfl
  rw [if_pos ⟨rfl, f⟩, if_pos rfl]
  congr 3
  rw [List.any_map, Bool.eq_iff_iff, List.any_eq_true, decide_eq_true_eq]
  constructor
  · rintro ⟨x, hx, e⟩
    have : x = c := by
      have e' : PyData.eqv (PyData.int x) (PyData.int c) = true := e
      simp [PyData.eqv] at e'
      exact e'
    rw [← this]; exact hx
  · intro h
    exact ⟨c, h, by show PyData.eqv (PyData.int c) (PyData.int c) = true; simp [PyData.eqv]⟩
theorem nats_mem {L : List Nat} {i : Nat} : (i : Int) ∈ nats L ↔ i ∈ L := by
  unfold nats
  rw [List.mem_map]
  constructor
  · rintro ⟨j, hj, e⟩
    have : j = i := by omega
    rw [← this]; exact hj
  · intro h
    exact ⟨i, h, rfl⟩
theorem nats_map {L : List Nat} : (nats L).map PyData.int = L.map fun i => PyData.int (i : Nat) := by
  unfold nats
  rw [List.map_map]
  rfl
theorem R7_ {l s : List Int} (h : Sh s) (a b : Option D) : ∃ a8 a9, R7 (Q l s s.sum a b none none none none) = some (.nx, Q l s s.sum a b a8 a9 none none) := by
  have hl := h.len
  obtain ⟨S', e, a8, a9, rfl⟩ := cFor_inv (b := bName 8) (k := fun i => .int (i : Nat)) (l := cornersN s) (fb := cSeq (cSet 9 (mCall0 g__law_without (mCons (mVar 1) (mCons (mVar 8) mNil)))) (cSeq (cIf (mOr (m2 gIsN (mCall0 g_is_shape (mCons (mVar 9) mNil)) (mC (.bool true))) (mOr (m2 (gIn true) (mVar 8) (mCall0 g_spots_of (mCons (mVar 9) mNil))) (mOr (m2 gNe (mCall0 g_size_of (mCons (mVar 9) mNil)) (m2 gSub (mVar 2) (mC (.int 1)))) (m1 gNot (mCall0 g_is_within_shape (mCons (mVar 9) (mCons (mVar 1) mNil))))))) (cSeq (cRet (mC (.bool false))) cNx) cNx) cNx))
    (fun _ S => ∃ a8 a9, S = Q l s s.sum a b a8 a9 none none) (fun i hi S hS => by
      obtain ⟨a8, a9, rfl⟩ := hS
      have hc : (cornersN s)[i] ∈ cornersN s := List.getElem_mem hi
      generalize (cornersN s)[i] = c at hc
      have hcl := (corners_mem.mp hc).1
      have hw := without_sh h hc
      let S1 := Q l s s.sum a b (some (.int (c : Int))) a9 none none
      let S2 := Q l s s.sum a b (some (.int (c : Int))) (some (Ti (without s c))) none none
      have e1 : cSet 9 (mCall0 g__law_without (mCons (mVar 1) (mCons (mVar 8) mNil))) S1 = some (.nx, S2) :=
        set_ (S1 := S1) (mCall0_ (mCons_ (mVar_ rfl) (mCons_ (mVar_ rfl) mNil_)) (p_without (s := s) (by omega) hcl))
      have c1 : mOr (m2 gIsN (mCall0 g_is_shape (mCons (mVar 9) mNil)) (mC (.bool true))) (mOr (m2 (gIn true) (mVar 8) (mCall0 g_spots_of (mCons (mVar 9) mNil))) (mOr (m2 gNe (mCall0 g_size_of (mCons (mVar 9) mNil)) (m2 gSub (mVar 2) (mC (.int 1)))) (m1 gNot (mCall0 g_is_within_shape (mCons (mVar 9) (mCons (mVar 1) mNil)))))) S2 = some (.bool (false || (false || (false || false))), S2) := by
        refine mOr_ (m2_ (mCall0_ (mCons_ (mVar_ rfl) mNil_) (p_is_shape (without s c) (by have := hw.len; omega))) mC_ ?_) fun _ => mOr_ (m2_ (mVar_ (x := .int (c : Int)) rfl) (mCall0_ (mCons_ (mVar_ rfl) mNil_) (p_spots_of hw)) ?_) fun _ => mOr_ (m2_ (mCall0_ (mCons_ (mVar_ rfl) mNil_) (p_size_of hw)) (m2_ (z := .int (s.sum - 1)) (mVar_ rfl) mC_ rfl) ?_) fun _ => m1_ (x := .bool true) (mCall0_ (mCons_ (mVar_ rfl) (mCons_ (mVar_ rfl) mNil_)) (by rw [show [Ti (without s c), Ti s].map some = two (Ti (without s c)) (Ti s) from rfl, p_is_within_shape hw h, without_sub h hc])) rfl
        · rw [shB_iff.mpr hw]; rfl
        · rw [gIn_T, decide_eq_true (nats_mem.mpr (without_spot h hc))]; rfl
        · rw [gNe_I, without_sum h hcl]; simp
      exact ⟨S1, S2, rfl, (seq_nx e1).trans ((seq_nx ((if_f c1).trans nx_)).trans nx_), some (.int (c : Int)), some (Ti (without s c)), rfl⟩) (S := Q l s s.sum a b none none none none) ⟨none, none, rfl⟩
  refine ⟨a8, a9, cForS_ (S1 := Q l s s.sum a b none none none none) (mIt_ (x := Ti (nats (cornersN s))) (mVar_ rfl) items_T) ?_⟩
  rw [nats_map]
  exact e
theorem R8_ {l s : List Int} (h : Sh s) (a b a8 a9 : Option D) : ∃ b8 b10, R8 (Q l s s.sum a b a8 a9 none none) = some (.nx, Q l s s.sum a b b8 a9 b10 none) := by
  have hl := h.len
  let S0 := Q l s s.sum a b a8 a9 none none
  have c0 : m2 gLt (mVar 2) (mC (.int 30)) S0 = some (.bool (decide (s.sum < 30)), S0) := m2_ (mVar_ rfl) mC_ rfl
  by_cases h30 : s.sum < 30
  · rw [decide_eq_true h30] at c0
    obtain ⟨S', e, b8, b10, rfl⟩ := cFor_inv (b := bName 8) (k := fun i => .int (i : Nat)) (l := spotsN s) (fb := cSeq (cSet 10 (mCall0 g__law_with (mCons (mVar 1) (mCons (mVar 8) mNil)))) (cSeq (cIf (mOr (m2 gIsN (mCall0 g_is_shape (mCons (mVar 10) mNil)) (mC (.bool true))) (mOr (m2 (gIn true) (mVar 8) (mCall0 g_corners_of (mCons (mVar 10) mNil))) (m1 gNot (mCall0 g_is_within_shape (mCons (mVar 1) (mCons (mVar 10) mNil)))))) (cSeq (cRet (mC (.bool false))) cNx) cNx) cNx))
      (fun _ S => ∃ b8 b10, S = Q l s s.sum a b b8 a9 b10 none) (fun i hi S hS => by
        obtain ⟨b8, b10, rfl⟩ := hS
        have hc : (spotsN s)[i] ∈ spotsN s := List.getElem_mem hi
        generalize (spotsN s)[i] = c at hc
        have hcl := (spot_le hc).1
        have hw := upper_sh h hc h30
        let S1 := Q l s s.sum a b (some (.int (c : Int))) a9 b10 none
        let S2 := Q l s s.sum a b (some (.int (c : Int))) a9 (some (Ti (upper s c))) none
        have e1 : cSet 10 (mCall0 g__law_with (mCons (mVar 1) (mCons (mVar 8) mNil))) S1 = some (.nx, S2) :=
          set_ (S1 := S1) (mCall0_ (mCons_ (mVar_ rfl) (mCons_ (mVar_ rfl) mNil_)) (p_with (s := s) (i := c) (by omega) hcl))
        have c1 : mOr (m2 gIsN (mCall0 g_is_shape (mCons (mVar 10) mNil)) (mC (.bool true))) (mOr (m2 (gIn true) (mVar 8) (mCall0 g_corners_of (mCons (mVar 10) mNil))) (m1 gNot (mCall0 g_is_within_shape (mCons (mVar 1) (mCons (mVar 10) mNil))))) S2 = some (.bool (false || (false || false)), S2) := by
          refine mOr_ (m2_ (mCall0_ (mCons_ (mVar_ rfl) mNil_) (p_is_shape (upper s c) (by have := hw.len; omega))) mC_ ?_) fun _ => mOr_ (m2_ (mVar_ (x := .int (c : Int)) rfl) (mCall0_ (mCons_ (mVar_ rfl) mNil_) (p_corners_of hw)) ?_) fun _ => m1_ (x := .bool true) (mCall0_ (mCons_ (mVar_ rfl) (mCons_ (mVar_ rfl) mNil_)) (by rw [show [Ti s, Ti (upper s c)].map some = two (Ti s) (Ti (upper s c)) from rfl, p_is_within_shape h hw, upper_sub h hc h30])) rfl
          · rw [shB_iff.mpr hw]; rfl
          · rw [gIn_T, decide_eq_true (nats_mem.mpr (upper_corner h hc))]; rfl
        exact ⟨S1, S2, rfl, (seq_nx e1).trans ((seq_nx ((if_f c1).trans nx_)).trans nx_), some (.int (c : Int)), some (Ti (upper s c)), rfl⟩) (S := S0) ⟨a8, none, rfl⟩
    refine ⟨b8, b10, cForS_ (S1 := S0) (mIt_ (x := Ti (nats (spotsN s))) (mIf_t c0 (mVar_ rfl)) items_T) ?_⟩
    rw [nats_map]
    exact e
  · rw [decide_eq_false h30] at c0
    exact ⟨a8, none, cForS_ (S1 := S0) (mIt_ (x := Ti []) (mIf_f c0 (mL_ mNil_ rfl)) items_T) rfl⟩
theorem p_right {n : Nat} {l : List Int} (h : Feed n l) (hn : n ≤ 10000) : ∃ l' : List Int, g__law_right [some (Li l)] = some (.bool true, [some (Li l')]) ∧ Feed (n + 50) l' := by
  obtain ⟨s, l1, es, hs, f1⟩ := p_shape h (by omega)
  obtain ⟨t, l2, et, ht, f2⟩ := p_near f1 (by omega) hs
  have e0 : R0 [some (Li l), none, none, none, none, none, none, none, none, none, none, none] = some (.nx, [some (Li l1), some (Ti s), none, none, none, none, none, none, none, none, none, none]) :=
    set_ (S1 := [some (Li l1), none, none, none, none, none, none, none, none, none, none, none]) (mCall1_ (S1 := [some (Li l), none, none, none, none, none, none, none, none, none, none, none]) (rest := [some (.int 30)]) rfl (mCons_ mC_ mNil_) rfl es)
  obtain ⟨a, b, e2⟩ := R2_ (l := l1) hs
  obtain ⟨a8, a9, e7⟩ := R7_ (l := l1) hs a b
  obtain ⟨b8, b10, e8⟩ := R8_ (l := l1) hs a b a8 a9
  have e9 : R9 (Q l1 s s.sum a b b8 a9 b10 none) = some (.nx, Q l2 s s.sum a b b8 a9 b10 (some (Ti t))) :=
    set_ (S1 := Q l2 s s.sum a b b8 a9 b10 none) (mCall1_ (S1 := Q l1 s s.sum a b b8 a9 b10 none) (rest := [some (Ti s)]) rfl (mCons_ (mVar_ rfl) mNil_) rfl et)
  let S := Q l2 s s.sum a b b8 a9 b10 (some (Ti t))
  have e10 : R10 S = some (.rt (.bool true), S) :=
    ret_ (mAnd_ (b := true) (p := true) (mCall0_ (mCons_ (mVar_ rfl) (mCons_ (mVar_ rfl) mNil_)) (p_two_right hs ht)) fun _ => mAnd_ (b := true) (p := true) (mCall0_ (mCons_ (mVar_ rfl) (mCons_ (mVar_ rfl) mNil_)) (p_two_right ht hs)) fun _ => mAnd_ (b := true) (p := true) (mCall0_ (mCons_ (mVar_ rfl) (mCons_ (mVar_ rfl) mNil_)) (p_two_right hs hs)) fun _ => m2_ (x := .bool true) (mCall0_ (xs := [Ti [], Ti s]) (mCons_ (mL_ mNil_ rfl) (mCons_ (mVar_ rfl) mNil_)) (by rw [show [Ti [], Ti s].map some = two (Ti []) (Ti s) from rfl, p_is_within_shape nil_sh hs, nil_sub])) mC_ rfl)
  refine ⟨l2, ?_, f2.mono (by omega)⟩
  show gFn false [0] 11 s__law_right [some (Li l)] = _
  rw [right_eq]
  exact gFn_io (S' := S.tail) ((seq_nx e0).trans ((seq_nx (R1_ hs)).trans ((seq_nx e2).trans ((seq_nx (R3_ hs a b)).trans ((seq_nx (R4_ hs a b)).trans ((seq_nx (R5_ hs a b)).trans ((seq_nx (R6_ hs a b)).trans ((seq_nx e7).trans ((seq_nx e8).trans ((seq_nx e9).trans (seq_rt e10)))))))))))
end K02
end
section
set_option Elab.async false
set_option linter.all false
set_option maxRecDepth 100000
set_option maxHeartbeats 0
namespace K02
open PySem PySem.Spec PyProof.Rows L2 FV
def A0 : CM := (cSet 1 (mDisp1 (mL FV.gTup mNil) (mC (.bool true))))
def A1 : CM := (cForS (mRg gR1 (mCons (mVar 0) mNil)) (bName 2) (cSeq (cSet 3 (mE true [])) (cSeq (cForS (mIt (mKeys 1)) (bName 4) (cSeq (cForS (mIt (mCall0 g__law_spots (mCons (mVar 4) mNil))) (bName 5) (cSeq (cDPut 3 (mC (.bool true)) (mCall0 g__law_with (mCons (mVar 4) (mCons (mVar 5) mNil)))) cNx)) cNx)) (cSeq (cMove 1 3) cNx))))
def A2 : CM := (cRet (mL (g1 gSorted) (mCons (mKeys 1) mNil)))
theorem all_eq : s__law_all = cSeq A0 (cSeq A1 (cSeq A2 cNx)) := rfl
def p0 (n : Nat) : Sl := [some (.int (n : Int)), some (.dict [(Ti [], .bool true)]), none, none, none, none]
/-- what the law lists before it sorts -/
def kept (n : Nat) : Option D := (A1 (p0 n)).bind fun r => match r.1 with
  | .nx => (mKeys 1 r.2).map (·.1)
  | _ => none
theorem keys_same {S S' : Sl} {d : D} (h : mKeys 1 S = some (d, S')) : S' = S := by
  unfold mKeys at h
  split at h
  · cases h
    rfl
  · cases h
theorem kept_run {n : Nat} {d : D} (h : kept n = some d) : ∃ P, A1 (p0 n) = some (.nx, P) ∧ mKeys 1 P = some (d, P) := by
  unfold kept at h
  cases e : A1 (p0 n) with
  | none =>
    rw [e] at h
    cases h
  | some r =>
    obtain ⟨c, P⟩ := r
    rw [e] at h
    cases c with
    | nx =>
      refine ⟨P, rfl, ?_⟩
      have h' : (mKeys 1 P).map (·.1) = some d := h
      cases e2 : mKeys 1 P with
      | none =>
        rw [e2] at h'
        cases h'
      | some q =>
        obtain ⟨d', P'⟩ := q
        rw [e2] at h'
        have e3 : d' = d := Option.some.inj h'
        rw [keys_same e2, e3]
    | rt _ => cases h
    | bk => cases h
    | ct => cases h
structure Facts (n : Nat) (L K : List (List Int)) : Prop where
  told : g_shapes_of [some (.int (n : Int))] = some (.list (L.map Ti), [some (.int (n : Int))])
  kept : kept n = some (.list (K.map Ti))
  ok : (L.all fun s => shB s && decide (s.sum = (n : Int))) = true
  few : L.length ≤ 100
  perm : K.isPerm L = true
  sorts : (decide ((K.map Ti).length < 2) || sortOk (K.map Ti)) = true
  rises : ((L.map Ti).zip ((L.map Ti).drop 1)).all (fun q => ltD q.1 q.2) = true
end K02
end
section
set_option Elab.async false
set_option linter.all false
set_option maxRecDepth 100000
set_option maxHeartbeats 4000000
namespace K02
open PySem PySem.Spec L2 FV
/-- the shapes of a size are known -/
structure Known (n : Nat) (L : List (List Int)) : Prop where
  told : g_shapes_of [some (.int (n : Int))] = some (.list (L.map Ti), [some (.int (n : Int))])
  all : g__law_all [some (.int (n : Int))] = some (.list (L.map Ti), [some (.int (n : Int))])
  ok : ∀ s ∈ L, Sh s ∧ s.sum = (n : Int)
  few : L.length ≤ 100
def B0 : CM := (cSet 2 (mCall0 g__law_feed (mCons (mVar 0) (mCons (mVar 1) mNil))))
def B1 : CM := (cForS (mRg gR1 (mCons (mC (.int 4)) mNil)) (bName 3) (cSeq (cIf (m1 gNot (mCall1 2 g__law_right mNil)) (cSeq (cRet (mC (.bool false))) cNx) cNx) cNx))
def B2 : CM := (cSet 4 (mCall1 2 g__law_draw (mCons (mC (.int 13)) mNil)))
def B3 : CM := (cSet 5 (mCall0 g__law_all (mCons (mVar 4) mNil)))
def B4 : CM := (cIf (m2 gNe (mL (g1 gRepr) (mCons (mL gLst (mCons (mCall0 g_shapes_of (mCons (mVar 4) mNil)) (mCons (mCall0 g_shapes_of (mPick [0] mNil (mCons (mVar 4) mNil))) mNil))) mNil)) (mL (g1 gRepr) (mCons (mL gLst (mCons (mVar 5) (mCons (mVar 5) mNil))) mNil))) (cSeq (cRet (mC (.bool false))) cNx) cNx)
def B5 : CM := (cAppT (mCall0 g_shapes_of (mCons (mVar 4) mNil)) (mC (.str ("spoilt" : Str))))
def B6 : CM := (cIf (mOr (m2 gNe (mCall0 g_shapes_of (mCons (mVar 4) mNil)) (mVar 5)) (m2 gNe (mLc [6] [] (bName 6) (mOr (m2 gNe (mCall0 g_size_of (mCons (mVar 6) mNil)) (mVar 4)) (m2 gIsN (mCall0 g_is_shape (mCons (mVar 6) mNil)) (mC (.bool true)))) (mVar 6) (mIt (mVar 5))) (mL gLst mNil))) (cSeq (cRet (mC (.bool false))) cNx) cNx)
def Bk : CM := cSeq B0 (cSeq B1 (cSeq B2 (cSeq B3 (cSeq B4 (cSeq B5 (cSeq B6 cNx))))))
def Br : SLs := mRg gR1 (mCons (mL (g2 gMax2) (mCons (mC (.int 1)) (mCons (mL (g2 gMin2) (mCons (mL (g1 gLen) (mCons (mVar 0) mNil)) (mCons (mC (.int 4)) mNil))) mNil))) mNil)
theorem law_eq : s_law = cSeq (cForS Br (bName 1) Bk) (cSeq (cRet (mC (.bool true))) cNx) := rfl
theorem layT : ∀ L : List (List Int), PyData.canLayAll0 (L.map Ti) = true
  | [] => rfl
  | a :: s => by
    rw [List.map_cons, PyData.canLayAll0, layT s, Bool.and_true]
    exact lay_ints a
theorem depT : ∀ L : List (List Int), PyData.depthAll (L.map Ti) ≤ 1
  | [] => by show 0 ≤ 1; decide
  | a :: s => by
    have h := depT s
    rw [List.map_cons, PyData.depthAll]
    have : PyData.depth (Ti a) = 1 := by
      show PyData.depth (.tuple _) = 1
      rw [PyData.depth, depth_ints]
    omega
theorem shoT : ∀ L : List (List Int), (∀ s ∈ L, ∀ x ∈ s, 0 ≤ x ∧ x ≤ 99) → PyData.showableAll (L.map Ti) = true
  | [], _ => rfl
  | a :: s, h => by
    rw [List.map_cons, PyData.showableAll, shoT s fun t ht => h t (List.mem_cons_of_mem _ ht), Bool.and_true]
    show PyData.showable (.tuple _) = true
    rw [PyData.showable]
    exact show_ints (h a (by simp))
abbrev LL (L : List (List Int)) : D := .list (L.map Ti)
theorem shapedLL {L : List (List Int)} : SeqAt.shaped (LL L) = true := by
  unfold SeqAt.shaped
  rw [Bool.and_eq_true, decide_eq_true_eq]
  refine ⟨layT L, ?_⟩
  show PyData.depth (.list (L.map Ti)) ≤ 64
  have := depT L
  rw [PyData.depth]
  omega
theorem neLL {L : List (List Int)} : gNe (LL L) (LL L) = some (.bool false) := by
  unfold gNe
  rw [if_pos ⟨shapedLL, shapedLL⟩, SeqAt.eqv_refl (LL L) (layT L)]
  rfl
theorem rp_LL {L : List (List Int)} (h : ∀ s ∈ L, Sh s) (hl : L.length ≤ 100) : RpOk (.list [LL L, LL L]) 20000 := by
  have sm : ∀ s ∈ L, ∀ x ∈ s, 0 ≤ x ∧ x ≤ 99 := fun s hs x hx => by
    have h1 := (h s hs).pos x hx
    have h2 := (h s hs).most hx
    omega
  have q := shoT L sm
  refine ⟨?_, ?_, ?_, (tx_list (k := 8000) fun d hd => ?_).mono (by show (8000 + 2) * 2 + 2 ≤ 20000; decide)⟩
  · show PyData.showableAll [.list _, .list _] = true
    simp only [PyData.showableAll, PyData.showable, q, Bool.and_self]
  · show PyData.canLayAll0 [.list _, .list _] = true
    simp only [PyData.canLayAll0, PyData.canLay0, layT, Bool.and_self]
  · show PyData.depth (.list [.list _, .list _]) ≤ 60
    have := depT L
    simp only [PyData.depth, PyData.depthAll]
    omega
  · have e : d = LL L := by simpa using hd
    rw [e]
    refine (tx_list (k := 40) fun d hd => ?_).mono (by rw [List.length_map]; omega)
    obtain ⟨s, hs, rfl⟩ := List.mem_map.mp hd
    exact (tx_T (sm s hs) (n := 9) (h s hs).len).mono (by decide)
def W (ns : List Int) (a b c d e : Option D) : Sl := [some (Li ns), a, b, c, d, e, none]
theorem B1_ {ns l : List Int} {a d e : Option D} (c : Option D) (h : Feed 0 l) : ∃ c' l', B1 (W ns a (some (Li l)) c d e) = some (.nx, W ns a (some (Li l')) c' d e) ∧ Feed 200 l' := by
  obtain ⟨S', e1, c', l', rfl, h'⟩ := cFor_inv (b := bName 3) (k := fun i => .int (0 + (i : Nat))) (l := List.range 4) (fb := cSeq (cIf (m1 gNot (mCall1 2 g__law_right mNil)) (cSeq (cRet (mC (.bool false))) cNx) cNx) cNx)
    (fun j S => ∃ c l, S = W ns a (some (Li l)) c d e ∧ Feed (50 * j) l) (fun j hj S hS => by
      obtain ⟨c, l, rfl, h⟩ := hS
      have hj4 : j < 4 := by simpa using hj
      obtain ⟨l', er, h'⟩ := p_right h (by omega)
      have c1 : m1 gNot (mCall1 2 g__law_right mNil) (W ns a (some (Li l)) (some (.int (0 + ((List.range 4)[j] : Nat)))) d e) = some (.bool false, W ns a (some (Li l')) (some (.int (0 + ((List.range 4)[j] : Nat)))) d e) :=
        m1_ (x := .bool true) (mCall1_ (S1 := W ns a (some (Li l)) (some (.int (0 + ((List.range 4)[j] : Nat)))) d e) (xs := []) (rest := []) rfl mNil_ rfl er) rfl
      exact ⟨_, _, rfl, (seq_nx ((if_f c1).trans nx_)).trans nx_, _, _, rfl, by have := h'.mono (show 50 * j + 50 ≤ 50 * (j + 1) by omega); exact this⟩) (S := W ns a (some (Li l)) c d e) ⟨c, l, rfl, h⟩
  exact ⟨c', l', cForS_ (S1 := W ns a (some (Li l)) c d e) (mRg_ (mCons_ mC_ mNil_) (gR1_ (n := 4) (by decide))) e1, h'⟩
theorem Bk_ (known : ∀ n : Nat, n ≤ 12 → ∃ L, Known n L) {ns : List Int} (hn : ns.length ≤ 63) (k : Nat) (b c d e : Option D) : ∃ b' c' d' e', Bk (W ns (some (.int (k : Int))) b c d e) = some (.nx, W ns (some (.int (k : Int))) b' c' d' e') := by
  obtain ⟨l0, f0, h0⟩ := feed_ (ns := ns) (by omega) (k := k)
  have e0 : B0 (W ns (some (.int (k : Int))) b c d e) = some (.nx, W ns (some (.int (k : Int))) (some (Li l0)) c d e) :=
    set_ (S1 := W ns (some (.int (k : Int))) b c d e) (mCall0_ (g := gFeed) (mCons_ (mVar_ rfl) (mCons_ (mVar_ rfl) mNil_)) f0)
  obtain ⟨c1, l1, e1, h1⟩ := B1_ (ns := ns) (a := some (.int (k : Int))) (d := d) (e := e) c h0
  obtain ⟨r, l2, er, r0, r1, h2⟩ := draw_ h1 (by omega) (m := 13) (by omega) (by omega)
  obtain ⟨n, rfl⟩ : ∃ n : Nat, r = n := ⟨r.toNat, by omega⟩
  obtain ⟨L, K⟩ := known n (by omega)
  have e2 : B2 (W ns (some (.int (k : Int))) (some (Li l1)) c1 d e) = some (.nx, W ns (some (.int (k : Int))) (some (Li l2)) c1 (some (.int (n : Int))) e) :=
    set_ (S1 := W ns (some (.int (k : Int))) (some (Li l2)) c1 d e) (mCall1_ (g := gDraw) (S1 := W ns (some (.int (k : Int))) (some (Li l1)) c1 d e) (rest := [some (.int 13)]) rfl (mCons_ mC_ mNil_) rfl er)
  let S := W ns (some (.int (k : Int))) (some (Li l2)) c1 (some (.int (n : Int))) (some (LL L))
  have e3 : B3 (W ns (some (.int (k : Int))) (some (Li l2)) c1 (some (.int (n : Int))) e) = some (.nx, S) :=
    set_ (S1 := W ns (some (.int (k : Int))) (some (Li l2)) c1 (some (.int (n : Int))) e) (mCall0_ (mCons_ (mVar_ rfl) mNil_) K.all)
  have t : mCall0 g_shapes_of (mCons (mVar 4) mNil) S = some (LL L, S) := mCall0_ (mCons_ (mVar_ rfl) mNil_) K.told
  have t2 : mCall0 g_shapes_of (mPick [0] mNil (mCons (mVar 4) mNil)) S = some (LL L, S) := mCall0_ (pick0 (mVar_ rfl)) K.told
  have e4 : B4 S = some (.nx, S) := by
    have r := (repr_same (S := S) (S1 := S) (S2 := S) (fa := mL gLst (mCons (mCall0 g_shapes_of (mCons (mVar 4) mNil)) (mCons (mCall0 g_shapes_of (mPick [0] mNil (mCons (mVar 4) mNil))) mNil))) (fb := mL gLst (mCons (mVar 5) (mCons (mVar 5) mNil)))
      (mL_ (mCons_ t (mCons_ t2 mNil_)) rfl) (mL_ (mCons_ (mVar_ rfl) (mCons_ (mVar_ rfl) mNil_)) rfl) (rp_LL (fun s hs => (K.ok s hs).1) K.few) (by decide)).1
    exact (if_f r).trans nx_
  have e5 : B5 S = some (.nx, S) := by
    unfold B5 cAppT
    rw [t]
    have : (L.map Ti).length < sizeLine := by
      have := K.few
      rw [List.length_map, sz]
      omega
    simp only [Option.bind_some, mC_, this, if_true]
  have e6 : B6 S = some (.nx, S) := by
    have lc := mLcM (α := List Int) (vs := [6]) (bt := bName 6) (ft := mOr (m2 gNe (mCall0 g_size_of (mCons (mVar 6) mNil)) (mVar 4)) (m2 gIsN (mCall0 g_is_shape (mCons (mVar 6) mNil)) (mC (.bool true)))) (fe := mVar 6) (fi := mIt (mVar 5)) (k := Ti) (l := L) (p := fun _ => false) (y := Ti) (S := S) (S1 := S) (mIt_ (x := LL L) (mVar_ rfl) rfl) (by have := K.few; rw [sz]; omega) (fun s hs => by
      obtain ⟨h, hsum⟩ := K.ok s hs
      let T : Sl := [some (Li ns), some (.int (k : Int)), some (Li l2), c1, some (.int (n : Int)), some (LL L), some (Ti s)]
      refine ⟨T, T, T, rfl, ?_, fun hh => by cases hh⟩
      refine mOr_ (b := false) (p := false) (m2_ (mCall0_ (mCons_ (mVar_ rfl) mNil_) (p_size_of h)) (mVar_ rfl) ?_) fun _ => m2_ (mCall0_ (mCons_ (mVar_ rfl) mNil_) (p_is_shape s (by have := h.len; omega))) mC_ ?_
      · rw [gNe_I, hsum]
        simp
      · rw [shB_iff.mpr h]
        rfl)
    have em : (L.filter fun _ => false) = [] := by simp
    rw [em] at lc
    have c : mOr (m2 gNe (mCall0 g_shapes_of (mCons (mVar 4) mNil)) (mVar 5)) (m2 gNe (mLc [6] [] (bName 6) (mOr (m2 gNe (mCall0 g_size_of (mCons (mVar 6) mNil)) (mVar 4)) (m2 gIsN (mCall0 g_is_shape (mCons (mVar 6) mNil)) (mC (.bool true)))) (mVar 6) (mIt (mVar 5))) (mL gLst mNil)) S = some (.bool (false || false), S) :=
      mOr_ (m2_ t (mVar_ rfl) neLL) fun _ => m2_ lc (mL_ mNil_ rfl) (neLL (L := []))
    exact (if_f c).trans nx_
  exact ⟨_, _, _, _, (seq_nx e0).trans ((seq_nx e1).trans ((seq_nx e2).trans ((seq_nx e3).trans ((seq_nx e4).trans ((seq_nx e5).trans ((seq_nx e6).trans nx_))))))⟩
theorem Br_ {ns : List Int} {a b c d e : Option D} : ∃ m : Nat, Br (W ns a b c d e) = some ((List.range m).map (fun i => PyData.int (0 + (i : Nat))), W ns a b c d e) := by
  have h1 : mL (g2 gMin2) (mCons (mL (g1 gLen) (mCons (mVar 0) mNil)) (mCons (mC (.int 4)) mNil)) (W ns a b c d e) = some (.int (if (4 : Int) < ns.length then 4 else ns.length), W ns a b c d e) :=
    mL_ (mCons_ (mL_ (mCons_ (mVar_ rfl) mNil_) gLen_L) (mCons_ mC_ mNil_)) rfl
  have h2 : mL (g2 gMax2) (mCons (mC (.int 1)) (mCons (mL (g2 gMin2) (mCons (mL (g1 gLen) (mCons (mVar 0) mNil)) (mCons (mC (.int 4)) mNil))) mNil)) (W ns a b c d e) = some (.int (if (if (4 : Int) < ns.length then 4 else (ns.length : Int)) > 1 then (if (4 : Int) < ns.length then 4 else (ns.length : Int)) else 1), W ns a b c d e) :=
    mL_ (mCons_ mC_ (mCons_ h1 mNil_)) rfl
  obtain ⟨m, hm, hm4⟩ : ∃ m : Nat, (if (if (4 : Int) < ns.length then 4 else (ns.length : Int)) > 1 then (if (4 : Int) < ns.length then 4 else (ns.length : Int)) else 1) = (m : Int) ∧ m ≤ 4 := by
    by_cases q : (4 : Int) < ns.length
    · exact ⟨4, by simp [q], by omega⟩
    · by_cases q1 : (ns.length : Int) > 1
      · exact ⟨ns.length, by simp [q, q1], by omega⟩
      · exact ⟨1, by simp [q, q1], by omega⟩
  rw [hm] at h2
  exact ⟨m, mRg_ (mCons_ h2 mNil_) (gR1_ (by omega))⟩
theorem p_law (known : ∀ n : Nat, n ≤ 12 → ∃ L, Known n L) {ns : List Int} (hn : ns.length ≤ 63) : ∃ S, g_law [some (.list (ns.map PyData.int))] = some (.bool true, S) := by
  obtain ⟨m, hr⟩ := Br_ (ns := ns) (a := none) (b := none) (c := none) (d := none) (e := none)
  obtain ⟨S', e1, a, b, c, d, e, rfl⟩ := cFor_inv (b := bName 1) (k := fun i => .int (0 + (i : Nat))) (l := List.range m) (fb := Bk)
    (fun j S => ∃ a b c d e, S = W ns a b c d e) (fun j hj S hS => by
      obtain ⟨a, b, c, d, e, rfl⟩ := hS
      obtain ⟨b', c', d', e', h⟩ := Bk_ known hn (List.range m)[j] b c d e
      refine ⟨W ns (some (.int (((List.range m)[j] : Nat) : Int))) b c d e, _, ?_, h, _, _, _, _, _, rfl⟩
      rw [Int.zero_add]
      rfl) (S := W ns none none none none none) ⟨_, _, _, _, _, rfl⟩
  refine ⟨[some (.list (ns.map PyData.int))], ?_⟩
  show gFn false [] 6 s_law [some (.list (ns.map PyData.int))] = _
  rw [law_eq]
  exact gFn_rt (S' := W ns a b c d e) ((seq_nx (cForS_ hr e1)).trans (seq_rt (ret_ mC_)))
end K02
end
section
set_option Elab.async false
set_option linter.all false
set_option maxRecDepth 100000
set_option maxHeartbeats 4000000
namespace K02
open PySem PySem.Spec L2 FV
theorem ti_inj {s t : List Int} (h : Ti s = Ti t) : s = t := by
  have h' : PyData.tuple (s.map PyData.int) = PyData.tuple (t.map PyData.int) := h
  injection h' with h'
  exact List.map_inj_right (fun a b e => by injection e) |>.mp h'
theorem all_of {n : Nat} {P : Sl} {K L : List D} (r : A1 (p0 n) = some (.nx, P)) (k : mKeys 1 P = some (.list K, P)) (e : gSorted (.list K) = some (.list L)) : g__law_all [some (.int (n : Int))] = some (.list L, [some (.int (n : Int))]) := by
  have e0 : A0 [some (.int (n : Int)), none, none, none, none, none] = some (.nx, p0 n) := rfl
  have e1 : mL (g1 gSorted) (mCons (mKeys 1) mNil) P = some (.list L, P) := mL_ (mCons_ k mNil_) e
  show gFn true [] 5 s__law_all [some (.int (n : Int))] = _
  rw [all_eq]
  exact gFn_rt (S' := P) ((seq_nx e0).trans ((seq_nx r).trans (seq_rt (ret_ e1))))
theorem known_of {n : Nat} {L K : List (List Int)} (F : Facts n L K) : Known n L where
  told := F.told
  few := F.few
  ok s hs := by
    have h := List.all_eq_true.mp F.ok s hs
    rw [Bool.and_eq_true] at h
    exact ⟨shB_iff.mp h.1, of_decide_eq_true h.2⟩
  all := by
    obtain ⟨P, r, k⟩ := kept_run F.kept
    exact all_of r k (gSorted_is F.sorts ((List.isPerm_iff.mp F.perm).map Ti) F.rises)
end K02
end
section
set_option Elab.async false
set_option linter.all false
set_option maxRecDepth 100000
set_option maxHeartbeats 0
namespace K02
open PySem PySem.Spec L2 FV
def L0 : List (List Int) := [[]]
def K0 : List (List Int) := [[]]
theorem known0 : Known 0 L0 := known_of (K := K0) ⟨by kernel_rfl, by kernel_rfl, by decide +kernel, by decide +kernel, by decide +kernel, by decide +kernel, by decide +kernel⟩
def L1 : List (List Int) := [[1]]
def K1 : List (List Int) := [[1]]
theorem known1 : Known 1 L1 := known_of (K := K1) ⟨by kernel_rfl, by kernel_rfl, by decide +kernel, by decide +kernel, by decide +kernel, by decide +kernel, by decide +kernel⟩
def L2 : List (List Int) := [[1, 1], [2]]
def K2 : List (List Int) := [[2], [1, 1]]
theorem known2 : Known 2 L2 := known_of (K := K2) ⟨by kernel_rfl, by kernel_rfl, by decide +kernel, by decide +kernel, by decide +kernel, by decide +kernel, by decide +kernel⟩
def L3 : List (List Int) := [[1, 1, 1], [2, 1], [3]]
def K3 : List (List Int) := [[3], [2, 1], [1, 1, 1]]
theorem known3 : Known 3 L3 := known_of (K := K3) ⟨by kernel_rfl, by kernel_rfl, by decide +kernel, by decide +kernel, by decide +kernel, by decide +kernel, by decide +kernel⟩
def L4 : List (List Int) := [[1, 1, 1, 1], [2, 1, 1], [2, 2], [3, 1], [4]]
def K4 : List (List Int) := [[4], [3, 1], [2, 2], [2, 1, 1], [1, 1, 1, 1]]
theorem known4 : Known 4 L4 := known_of (K := K4) ⟨by kernel_rfl, by kernel_rfl, by decide +kernel, by decide +kernel, by decide +kernel, by decide +kernel, by decide +kernel⟩
def L5 : List (List Int) := [[1, 1, 1, 1, 1], [2, 1, 1, 1], [2, 2, 1], [3, 1, 1], [3, 2], [4, 1], [5]]
def K5 : List (List Int) := [[5], [4, 1], [3, 2], [3, 1, 1], [2, 2, 1], [2, 1, 1, 1], [1, 1, 1, 1, 1]]
theorem known5 : Known 5 L5 := known_of (K := K5) ⟨by kernel_rfl, by kernel_rfl, by decide +kernel, by decide +kernel, by decide +kernel, by decide +kernel, by decide +kernel⟩
def L6 : List (List Int) := [[1, 1, 1, 1, 1, 1], [2, 1, 1, 1, 1], [2, 2, 1, 1], [2, 2, 2], [3, 1, 1, 1], [3, 2, 1], [3, 3], [4, 1, 1], [4, 2], [5, 1], [6]]
def K6 : List (List Int) := [[6], [5, 1], [4, 2], [4, 1, 1], [3, 3], [3, 2, 1], [3, 1, 1, 1], [2, 2, 2], [2, 2, 1, 1], [2, 1, 1, 1, 1], [1, 1, 1, 1, 1, 1]]
theorem known6 : Known 6 L6 := known_of (K := K6) ⟨by kernel_rfl, by kernel_rfl, by decide +kernel, by decide +kernel, by decide +kernel, by decide +kernel, by decide +kernel⟩
def L7 : List (List Int) := [[1, 1, 1, 1, 1, 1, 1], [2, 1, 1, 1, 1, 1], [2, 2, 1, 1, 1], [2, 2, 2, 1], [3, 1, 1, 1, 1], [3, 2, 1, 1], [3, 2, 2], [3, 3, 1], [4, 1, 1, 1], [4, 2, 1], [4, 3], [5, 1, 1], [5, 2], [6, 1], [7]]
def K7 : List (List Int) := [[7], [6, 1], [5, 2], [5, 1, 1], [4, 3], [4, 2, 1], [4, 1, 1, 1], [3, 3, 1], [3, 2, 2], [3, 2, 1, 1], [3, 1, 1, 1, 1], [2, 2, 2, 1], [2, 2, 1, 1, 1], [2, 1, 1, 1, 1, 1], [1, 1, 1, 1, 1, 1, 1]]
theorem known7 : Known 7 L7 := known_of (K := K7) ⟨by kernel_rfl, by kernel_rfl, by decide +kernel, by decide +kernel, by decide +kernel, by decide +kernel, by decide +kernel⟩
def L8 : List (List Int) := [[1, 1, 1, 1, 1, 1, 1, 1], [2, 1, 1, 1, 1, 1, 1], [2, 2, 1, 1, 1, 1], [2, 2, 2, 1, 1], [2, 2, 2, 2], [3, 1, 1, 1, 1, 1], [3, 2, 1, 1, 1], [3, 2, 2, 1], [3, 3, 1, 1], [3, 3, 2], [4, 1, 1, 1, 1], [4, 2, 1, 1], [4, 2, 2], [4, 3, 1], [4, 4], [5, 1, 1, 1], [5, 2, 1], [5, 3], [6, 1, 1], [6, 2], [7, 1], [8]]
def K8 : List (List Int) := [[8], [7, 1], [6, 2], [6, 1, 1], [5, 3], [5, 2, 1], [5, 1, 1, 1], [4, 4], [4, 3, 1], [4, 2, 2], [4, 2, 1, 1], [4, 1, 1, 1, 1], [3, 3, 2], [3, 3, 1, 1], [3, 2, 2, 1], [3, 2, 1, 1, 1], [3, 1, 1, 1, 1, 1], [2, 2, 2, 2], [2, 2, 2, 1, 1], [2, 2, 1, 1, 1, 1], [2, 1, 1, 1, 1, 1, 1], [1, 1, 1, 1, 1, 1, 1, 1]]
theorem known8 : Known 8 L8 := known_of (K := K8) ⟨by kernel_rfl, by kernel_rfl, by decide +kernel, by decide +kernel, by decide +kernel, by decide +kernel, by decide +kernel⟩
def L9 : List (List Int) := [[1, 1, 1, 1, 1, 1, 1, 1, 1], [2, 1, 1, 1, 1, 1, 1, 1], [2, 2, 1, 1, 1, 1, 1], [2, 2, 2, 1, 1, 1], [2, 2, 2, 2, 1], [3, 1, 1, 1, 1, 1, 1], [3, 2, 1, 1, 1, 1], [3, 2, 2, 1, 1], [3, 2, 2, 2], [3, 3, 1, 1, 1], [3, 3, 2, 1], [3, 3, 3], [4, 1, 1, 1, 1, 1], [4, 2, 1, 1, 1], [4, 2, 2, 1], [4, 3, 1, 1], [4, 3, 2], [4, 4, 1], [5, 1, 1, 1, 1], [5, 2, 1, 1], [5, 2, 2], [5, 3, 1], [5, 4], [6, 1, 1, 1], [6, 2, 1], [6, 3], [7, 1, 1], [7, 2], [8, 1], [9]]
def K9 : List (List Int) := [[9], [8, 1], [7, 2], [7, 1, 1], [6, 3], [6, 2, 1], [6, 1, 1, 1], [5, 4], [5, 3, 1], [5, 2, 2], [5, 2, 1, 1], [5, 1, 1, 1, 1], [4, 4, 1], [4, 3, 2], [4, 3, 1, 1], [4, 2, 2, 1], [4, 2, 1, 1, 1], [4, 1, 1, 1, 1, 1], [3, 3, 3], [3, 3, 2, 1], [3, 3, 1, 1, 1], [3, 2, 2, 2], [3, 2, 2, 1, 1], [3, 2, 1, 1, 1, 1], [3, 1, 1, 1, 1, 1, 1], [2, 2, 2, 2, 1], [2, 2, 2, 1, 1, 1], [2, 2, 1, 1, 1, 1, 1], [2, 1, 1, 1, 1, 1, 1, 1], [1, 1, 1, 1, 1, 1, 1, 1, 1]]
theorem known9 : Known 9 L9 := known_of (K := K9) ⟨by kernel_rfl, by kernel_rfl, by decide +kernel, by decide +kernel, by decide +kernel, by decide +kernel, by decide +kernel⟩
def L10 : List (List Int) := [[2, 1, 1, 1, 1, 1, 1, 1, 1], [2, 2, 1, 1, 1, 1, 1, 1], [2, 2, 2, 1, 1, 1, 1], [2, 2, 2, 2, 1, 1], [2, 2, 2, 2, 2], [3, 1, 1, 1, 1, 1, 1, 1], [3, 2, 1, 1, 1, 1, 1], [3, 2, 2, 1, 1, 1], [3, 2, 2, 2, 1], [3, 3, 1, 1, 1, 1], [3, 3, 2, 1, 1], [3, 3, 2, 2], [3, 3, 3, 1], [4, 1, 1, 1, 1, 1, 1], [4, 2, 1, 1, 1, 1], [4, 2, 2, 1, 1], [4, 2, 2, 2], [4, 3, 1, 1, 1], [4, 3, 2, 1], [4, 3, 3], [4, 4, 1, 1], [4, 4, 2], [5, 1, 1, 1, 1, 1], [5, 2, 1, 1, 1], [5, 2, 2, 1], [5, 3, 1, 1], [5, 3, 2], [5, 4, 1], [5, 5], [6, 1, 1, 1, 1], [6, 2, 1, 1], [6, 2, 2], [6, 3, 1], [6, 4], [7, 1, 1, 1], [7, 2, 1], [7, 3], [8, 1, 1], [8, 2], [9, 1], [10]]
def K10 : List (List Int) := [[10], [9, 1], [8, 2], [8, 1, 1], [7, 3], [7, 2, 1], [7, 1, 1, 1], [6, 4], [6, 3, 1], [6, 2, 2], [6, 2, 1, 1], [6, 1, 1, 1, 1], [5, 5], [5, 4, 1], [5, 3, 2], [5, 3, 1, 1], [5, 2, 2, 1], [5, 2, 1, 1, 1], [5, 1, 1, 1, 1, 1], [4, 4, 2], [4, 4, 1, 1], [4, 3, 3], [4, 3, 2, 1], [4, 3, 1, 1, 1], [4, 2, 2, 2], [4, 2, 2, 1, 1], [4, 2, 1, 1, 1, 1], [4, 1, 1, 1, 1, 1, 1], [3, 3, 3, 1], [3, 3, 2, 2], [3, 3, 2, 1, 1], [3, 3, 1, 1, 1, 1], [3, 2, 2, 2, 1], [3, 2, 2, 1, 1, 1], [3, 2, 1, 1, 1, 1, 1], [3, 1, 1, 1, 1, 1, 1, 1], [2, 2, 2, 2, 2], [2, 2, 2, 2, 1, 1], [2, 2, 2, 1, 1, 1, 1], [2, 2, 1, 1, 1, 1, 1, 1], [2, 1, 1, 1, 1, 1, 1, 1, 1]]
theorem known10 : Known 10 L10 := known_of (K := K10) ⟨by kernel_rfl, by kernel_rfl, by decide +kernel, by decide +kernel, by decide +kernel, by decide +kernel, by decide +kernel⟩
def L11 : List (List Int) := [[2, 2, 1, 1, 1, 1, 1, 1, 1], [2, 2, 2, 1, 1, 1, 1, 1], [2, 2, 2, 2, 1, 1, 1], [2, 2, 2, 2, 2, 1], [3, 1, 1, 1, 1, 1, 1, 1, 1], [3, 2, 1, 1, 1, 1, 1, 1], [3, 2, 2, 1, 1, 1, 1], [3, 2, 2, 2, 1, 1], [3, 2, 2, 2, 2], [3, 3, 1, 1, 1, 1, 1], [3, 3, 2, 1, 1, 1], [3, 3, 2, 2, 1], [3, 3, 3, 1, 1], [3, 3, 3, 2], [4, 1, 1, 1, 1, 1, 1, 1], [4, 2, 1, 1, 1, 1, 1], [4, 2, 2, 1, 1, 1], [4, 2, 2, 2, 1], [4, 3, 1, 1, 1, 1], [4, 3, 2, 1, 1], [4, 3, 2, 2], [4, 3, 3, 1], [4, 4, 1, 1, 1], [4, 4, 2, 1], [4, 4, 3], [5, 1, 1, 1, 1, 1, 1], [5, 2, 1, 1, 1, 1], [5, 2, 2, 1, 1], [5, 2, 2, 2], [5, 3, 1, 1, 1], [5, 3, 2, 1], [5, 3, 3], [5, 4, 1, 1], [5, 4, 2], [5, 5, 1], [6, 1, 1, 1, 1, 1], [6, 2, 1, 1, 1], [6, 2, 2, 1], [6, 3, 1, 1], [6, 3, 2], [6, 4, 1], [6, 5], [7, 1, 1, 1, 1], [7, 2, 1, 1], [7, 2, 2], [7, 3, 1], [7, 4], [8, 1, 1, 1], [8, 2, 1], [8, 3], [9, 1, 1], [9, 2], [10, 1], [11]]
def K11 : List (List Int) := [[11], [10, 1], [9, 2], [9, 1, 1], [8, 3], [8, 2, 1], [8, 1, 1, 1], [7, 4], [7, 3, 1], [7, 2, 2], [7, 2, 1, 1], [7, 1, 1, 1, 1], [6, 5], [6, 4, 1], [6, 3, 2], [6, 3, 1, 1], [6, 2, 2, 1], [6, 2, 1, 1, 1], [6, 1, 1, 1, 1, 1], [5, 5, 1], [5, 4, 2], [5, 4, 1, 1], [5, 3, 3], [5, 3, 2, 1], [5, 3, 1, 1, 1], [5, 2, 2, 2], [5, 2, 2, 1, 1], [5, 2, 1, 1, 1, 1], [5, 1, 1, 1, 1, 1, 1], [4, 4, 3], [4, 4, 2, 1], [4, 4, 1, 1, 1], [4, 3, 3, 1], [4, 3, 2, 2], [4, 3, 2, 1, 1], [4, 3, 1, 1, 1, 1], [4, 2, 2, 2, 1], [4, 2, 2, 1, 1, 1], [4, 2, 1, 1, 1, 1, 1], [4, 1, 1, 1, 1, 1, 1, 1], [3, 3, 3, 2], [3, 3, 3, 1, 1], [3, 3, 2, 2, 1], [3, 3, 2, 1, 1, 1], [3, 3, 1, 1, 1, 1, 1], [3, 2, 2, 2, 2], [3, 2, 2, 2, 1, 1], [3, 2, 2, 1, 1, 1, 1], [3, 2, 1, 1, 1, 1, 1, 1], [3, 1, 1, 1, 1, 1, 1, 1, 1], [2, 2, 2, 2, 2, 1], [2, 2, 2, 2, 1, 1, 1], [2, 2, 2, 1, 1, 1, 1, 1], [2, 2, 1, 1, 1, 1, 1, 1, 1]]
theorem known11 : Known 11 L11 := known_of (K := K11) ⟨by kernel_rfl, by kernel_rfl, by decide +kernel, by decide +kernel, by decide +kernel, by decide +kernel, by decide +kernel⟩
def L12 : List (List Int) := [[2, 2, 2, 1, 1, 1, 1, 1, 1], [2, 2, 2, 2, 1, 1, 1, 1], [2, 2, 2, 2, 2, 1, 1], [2, 2, 2, 2, 2, 2], [3, 2, 1, 1, 1, 1, 1, 1, 1], [3, 2, 2, 1, 1, 1, 1, 1], [3, 2, 2, 2, 1, 1, 1], [3, 2, 2, 2, 2, 1], [3, 3, 1, 1, 1, 1, 1, 1], [3, 3, 2, 1, 1, 1, 1], [3, 3, 2, 2, 1, 1], [3, 3, 2, 2, 2], [3, 3, 3, 1, 1, 1], [3, 3, 3, 2, 1], [3, 3, 3, 3], [4, 1, 1, 1, 1, 1, 1, 1, 1], [4, 2, 1, 1, 1, 1, 1, 1], [4, 2, 2, 1, 1, 1, 1], [4, 2, 2, 2, 1, 1], [4, 2, 2, 2, 2], [4, 3, 1, 1, 1, 1, 1], [4, 3, 2, 1, 1, 1], [4, 3, 2, 2, 1], [4, 3, 3, 1, 1], [4, 3, 3, 2], [4, 4, 1, 1, 1, 1], [4, 4, 2, 1, 1], [4, 4, 2, 2], [4, 4, 3, 1], [4, 4, 4], [5, 1, 1, 1, 1, 1, 1, 1], [5, 2, 1, 1, 1, 1, 1], [5, 2, 2, 1, 1, 1], [5, 2, 2, 2, 1], [5, 3, 1, 1, 1, 1], [5, 3, 2, 1, 1], [5, 3, 2, 2], [5, 3, 3, 1], [5, 4, 1, 1, 1], [5, 4, 2, 1], [5, 4, 3], [5, 5, 1, 1], [5, 5, 2], [6, 1, 1, 1, 1, 1, 1], [6, 2, 1, 1, 1, 1], [6, 2, 2, 1, 1], [6, 2, 2, 2], [6, 3, 1, 1, 1], [6, 3, 2, 1], [6, 3, 3], [6, 4, 1, 1], [6, 4, 2], [6, 5, 1], [6, 6], [7, 1, 1, 1, 1, 1], [7, 2, 1, 1, 1], [7, 2, 2, 1], [7, 3, 1, 1], [7, 3, 2], [7, 4, 1], [7, 5], [8, 1, 1, 1, 1], [8, 2, 1, 1], [8, 2, 2], [8, 3, 1], [8, 4], [9, 1, 1, 1], [9, 2, 1], [9, 3], [10, 1, 1], [10, 2], [11, 1], [12]]
def K12 : List (List Int) := [[12], [11, 1], [10, 2], [10, 1, 1], [9, 3], [9, 2, 1], [9, 1, 1, 1], [8, 4], [8, 3, 1], [8, 2, 2], [8, 2, 1, 1], [8, 1, 1, 1, 1], [7, 5], [7, 4, 1], [7, 3, 2], [7, 3, 1, 1], [7, 2, 2, 1], [7, 2, 1, 1, 1], [7, 1, 1, 1, 1, 1], [6, 6], [6, 5, 1], [6, 4, 2], [6, 4, 1, 1], [6, 3, 3], [6, 3, 2, 1], [6, 3, 1, 1, 1], [6, 2, 2, 2], [6, 2, 2, 1, 1], [6, 2, 1, 1, 1, 1], [6, 1, 1, 1, 1, 1, 1], [5, 5, 2], [5, 5, 1, 1], [5, 4, 3], [5, 4, 2, 1], [5, 4, 1, 1, 1], [5, 3, 3, 1], [5, 3, 2, 2], [5, 3, 2, 1, 1], [5, 3, 1, 1, 1, 1], [5, 2, 2, 2, 1], [5, 2, 2, 1, 1, 1], [5, 2, 1, 1, 1, 1, 1], [5, 1, 1, 1, 1, 1, 1, 1], [4, 4, 4], [4, 4, 3, 1], [4, 4, 2, 2], [4, 4, 2, 1, 1], [4, 4, 1, 1, 1, 1], [4, 3, 3, 2], [4, 3, 3, 1, 1], [4, 3, 2, 2, 1], [4, 3, 2, 1, 1, 1], [4, 3, 1, 1, 1, 1, 1], [4, 2, 2, 2, 2], [4, 2, 2, 2, 1, 1], [4, 2, 2, 1, 1, 1, 1], [4, 2, 1, 1, 1, 1, 1, 1], [4, 1, 1, 1, 1, 1, 1, 1, 1], [3, 3, 3, 3], [3, 3, 3, 2, 1], [3, 3, 3, 1, 1, 1], [3, 3, 2, 2, 2], [3, 3, 2, 2, 1, 1], [3, 3, 2, 1, 1, 1, 1], [3, 3, 1, 1, 1, 1, 1, 1], [3, 2, 2, 2, 2, 1], [3, 2, 2, 2, 1, 1, 1], [3, 2, 2, 1, 1, 1, 1, 1], [3, 2, 1, 1, 1, 1, 1, 1, 1], [2, 2, 2, 2, 2, 2], [2, 2, 2, 2, 2, 1, 1], [2, 2, 2, 2, 1, 1, 1, 1], [2, 2, 2, 1, 1, 1, 1, 1, 1]]
theorem known12 : Known 12 L12 := known_of (K := K12) ⟨by kernel_rfl, by kernel_rfl, by decide +kernel, by decide +kernel, by decide +kernel, by decide +kernel, by decide +kernel⟩
end K02
end
section
set_option Elab.async false
set_option linter.all false
set_option maxRecDepth 100000
set_option maxHeartbeats 4000000
namespace K02
open PySem PySem.Spec L2 FV
theorem known (n : Nat) (h : n ≤ 12) : ∃ L, Known n L := by
  rcases n with _ | _ | _ | _ | _ | _ | _ | _ | _ | _ | _ | _ | _ | n
  · exact ⟨_, known0⟩
  · exact ⟨_, known1⟩
  · exact ⟨_, known2⟩
  · exact ⟨_, known3⟩
  · exact ⟨_, known4⟩
  · exact ⟨_, known5⟩
  · exact ⟨_, known6⟩
  · exact ⟨_, known7⟩
  · exact ⟨_, known8⟩
  · exact ⟨_, known9⟩
  · exact ⟨_, known10⟩
  · exact ⟨_, known11⟩
  · exact ⟨_, known12⟩
  · omega
end K02
theorem PySem.Challenge.cw_rowspushed_k02_whole_shapes_holds : PySem.Challenge.rw_rowspushed_k02_whole_shapes.Holds :=
  K02.holds_of fun _ h => K02.p_law K02.known h
end
