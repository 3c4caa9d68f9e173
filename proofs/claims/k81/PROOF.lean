import PyProof.Rows.All
import Wide.All
import OpenK.AllK
import Wide.FinOn
import HandS.ForMost
import HandS.TupAny
import HandS.Walk
import HandS.Zip
import HandS.Conv
import HandS.Defaults
import HandS.Small
import HandS.IsInst
import HandS.Dict
import HandS.Exc
import KE.GoesEnum
import HandS.HeadEnd
import KE.KStateDown
import Lean
import HandS.Base
import HandS.Call
import HandS.Ends
import HandS.More
import HandS.Words
import HandS.WordsExc
import HandS.Head0
import HandS.Head1
import HandS.Head2
import HandS.HeadHook1
import HandS.HeadHook2
import PySem.Challenge.RW_wirework_k81_latest_by_budget
set_option Elab.async false
set_option linter.all false
set_option maxRecDepth 100000
set_option maxHeartbeats 4000000
/-! DLa: data; what stands in the heap by data; the judgements. -/
namespace DL
open PySem PySem.Spec PyProof.Rows L2

/-! ### data -/
/-- a value by what it is: tuples as lists of data, mutable objects by their place; rol: a locked list (the script) -/
inductive D where
  | non | bl (b : Bool) | int (i : Int) | str (x : Str) | ref (a : Addr) | ty (n : String) | tup (l : List D) | rol (l : List D)
def FzL (H : Hp) (a : Addr) (xs : List V) : Prop := ∃ o, H a = some (.frz o (.lst xs))
mutual
inductive Is (H : Hp) : D → V → Prop
  | non : Is H .non .non
  | bl (b : Bool) : Is H (.bl b) (.bl b)
  | int (i : Int) : Is H (.int i) (.int i)
  | str (x : Str) : Is H (.str x) (.str x)
  | ref (a : Addr) : Is H (.ref a) (.ref a)
  | ty (n : String) : Is H (.ty n) (.ty n)
  | tup {a : Addr} {xs : List V} {l : List D} : H a = some (.tup xs) → IsL H l xs → Is H (.tup l) (.ref a)
  | rol {a : Addr} {xs : List V} {l : List D} : FzL H a xs → IsL H l xs → Is H (.rol l) (.ref a)
inductive IsL (H : Hp) : List D → List V → Prop
  | nil : IsL H [] []
  | cons {d : D} {v : V} {l : List D} {xs : List V} : Is H d v → IsL H l xs → IsL H (d :: l) (v :: xs)
end
/-- tuples and locked lists stand -/
structure Tx (H H' : Hp) : Prop where
  t : ∀ a xs, H a = some (.tup xs) → H' a = some (.tup xs)
  l : ∀ a xs, FzL H a xs → FzL H' a xs
theorem Tx.refl (H : Hp) : Tx H H := ⟨fun _ _ h => h, fun _ _ h => h⟩
theorem Tx.trans {H H1 H2 : Hp} (a : Tx H H1) (b : Tx H1 H2) : Tx H H2 := ⟨fun x y h => b.t x y (a.t x y h), fun x y h => b.l x y (a.l x y h)⟩
theorem Tx.of {H H' : Hp} (h : ∀ a o, H a = some o → (∃ xs, o = .tup xs) ∨ (∃ ob u, o = .frz ob u) → H' a = some o) : Tx H H' where
  t := fun a xs e => h _ _ e (.inl ⟨_, rfl⟩)
  l := fun a xs ⟨o, e⟩ => ⟨o, h _ _ e (.inr ⟨_, _, rfl⟩)⟩
theorem Tx.new {H : Hp} {p : Addr} {o : HO} (h : H p = none) : Tx H (upd H p o) := .of fun a u e _ => by
  rw [upd_ne (ne_of_none e h)]
  exact e
theorem Tx.mut {H : Hp} {p : Addr} {u o : HO} (h : H p = some u) (nt : ∀ xs, u ≠ .tup xs) (nf : ∀ ob w, u ≠ .frz ob w) : Tx H (upd H p o) := .of fun a v e q => by
  have : a ≠ p := fun z => by
    subst z
    rw [h] at e
    cases e
    rcases q with ⟨xs, q⟩ | ⟨ob, w, q⟩
    · exact nt _ q
    · exact nf _ _ q
  rw [upd_ne this]
  exact e
mutual
theorem Is.mono {H H' : Hp} (t : Tx H H') : ∀ {d : D} {v : V}, Is H d v → Is H' d v
  | _, _, .non => .non
  | _, _, .bl b => .bl b
  | _, _, .int b => .int b
  | _, _, .str b => .str b
  | _, _, .ref b => .ref b
  | _, _, .ty b => .ty b
  | _, _, .tup h r => .tup (t.t _ _ h) (IsL.mono t r)
  | _, _, .rol h r => .rol (t.l _ _ h) (IsL.mono t r)
theorem IsL.mono {H H' : Hp} (t : Tx H H') : ∀ {l : List D} {xs : List V}, IsL H l xs → IsL H' l xs
  | _, _, .nil => .nil
  | _, _, .cons h r => .cons (Is.mono t h) (IsL.mono t r)
end
section
variable {H : Hp}
theorem IsL.length : ∀ {l : List D} {xs : List V}, IsL H l xs → l.length = xs.length
  | _, _, .nil => rfl
  | _, _, .cons _ r => by rw [List.length_cons, List.length_cons, IsL.length r]
theorem IsL.get : ∀ {l : List D} {xs : List V} {i : Nat} {d : D}, IsL H l xs → l[i]? = some d → ∃ v, xs[i]? = some v ∧ Is H d v
  | _, _, _, _, .nil, e => by simp at e
  | _, _, 0, _, .cons r _, e => by
    simp at e
    subst e
    exact ⟨_, rfl, r⟩
  | _, _, i + 1, d, .cons _ t, e => by
    obtain ⟨u, h1, h2⟩ := IsL.get (i := i) (d := d) t (by simpa using e)
    exact ⟨u, by simpa using h1, h2⟩
theorem IsL.back : ∀ {l : List D} {xs : List V} {i : Nat} {v : V}, IsL H l xs → xs[i]? = some v → ∃ d, l[i]? = some d ∧ Is H d v
  | _, _, _, _, .nil, e => by simp at e
  | _, _, 0, _, .cons r _, e => by
    simp at e
    subst e
    exact ⟨_, rfl, r⟩
  | _, _, i + 1, d, .cons _ t, e => by
    obtain ⟨u, h1, h2⟩ := IsL.back (i := i) (v := d) t (by simpa using e)
    exact ⟨u, by simpa using h1, h2⟩
theorem IsL.append : ∀ {l m : List D} {xs ys : List V}, IsL H l xs → IsL H m ys → IsL H (l ++ m) (xs ++ ys)
  | _, _, _, _, .nil, s => s
  | _, _, _, _, .cons r t, s => .cons r (IsL.append t s)
theorem IsL.take : ∀ {l : List D} {xs : List V} (n : Nat), IsL H l xs → IsL H (l.take n) (xs.take n)
  | _, _, 0, _ => .nil
  | _, _, _ + 1, .nil => .nil
  | _, _, n + 1, .cons r t => .cons r (IsL.take n t)
theorem IsL.drop : ∀ {l : List D} {xs : List V} (n : Nat), IsL H l xs → IsL H (l.drop n) (xs.drop n)
  | _, _, 0, r => r
  | _, _, _ + 1, .nil => .nil
  | _, _, n + 1, .cons _ t => IsL.drop n t
theorem IsL.set {x : D} {u : V} (r : Is H x u) : ∀ {l : List D} {xs : List V} (i : Nat), IsL H l xs → IsL H (l.set i x) (xs.set i u)
  | _, _, _, .nil => .nil
  | _, _, 0, .cons _ t => .cons r t
  | _, _, i + 1, .cons q t => .cons q (IsL.set r i t)
theorem IsL.erase : ∀ {l : List D} {xs : List V} (i : Nat), IsL H l xs → IsL H (l.eraseIdx i) (xs.eraseIdx i)
  | _, _, _, .nil => .nil
  | _, _, 0, .cons _ t => t
  | _, _, i + 1, .cons q t => .cons q (IsL.erase i t)
theorem IsL.dropLast {l : List D} {xs : List V} (h : IsL H l xs) : IsL H l.dropLast xs.dropLast := by
  rw [List.dropLast_eq_take, List.dropLast_eq_take, h.length]
  exact h.take _
theorem IsL.reverse : ∀ {l : List D} {xs : List V}, IsL H l xs → IsL H l.reverse xs.reverse
  | _, _, .nil => .nil
  | _, _, .cons r t => by
    rw [List.reverse_cons, List.reverse_cons]
    exact (IsL.reverse t).append (.cons r .nil)
theorem IsL.ints : ∀ ns : List Int, IsL H (ns.map D.int) (ns.map V.int)
  | [] => .nil
  | n :: r => .cons (.int n) (IsL.ints r)
theorem IsL.of_ints : ∀ {ns : List Int} {vs : List V}, IsL H (ns.map D.int) vs → vs = ns.map V.int
  | [], _, .nil => rfl
  | n :: r, _, .cons h t => by
    cases h
    rw [IsL.of_ints t, List.map_cons]
theorem IsL.strs : ∀ ns : List Str, IsL H (ns.map D.str) (ns.map V.str)
  | [] => .nil
  | n :: r => .cons (.str n) (IsL.strs r)
theorem IsL.of_strs : ∀ {ns : List Str} {vs : List V}, IsL H (ns.map D.str) vs → vs = ns.map V.str
  | [], _, .nil => rfl
  | n :: r, _, .cons h t => by
    cases h
    rw [IsL.of_strs t, List.map_cons]
theorem IsL.of_bls : ∀ {ns : List Bool} {vs : List V}, IsL H (ns.map D.bl) vs → vs = ns.map V.bl
  | [], _, .nil => rfl
  | n :: r, _, .cons h t => by
    cases h
    rw [IsL.of_bls t, List.map_cons]
theorem IsL.rep {d : D} {v : V} (h : Is H d v) : ∀ n : Nat, IsL H (List.replicate n d) (List.replicate n v)
  | 0 => .nil
  | n + 1 => .cons h (IsL.rep h n)
theorem IsL.flat : ∀ {l m : List (List D)} , True := fun {_ _} => trivial
end

/-! ### pairs by keys -/
def IsKV {κ : Type} (H : Hp) (l : List (κ × D)) (xs : List (κ × V)) : Prop := Paired (fun (p : κ × D) (q : κ × V) => p.1 = q.1 ∧ Is H p.2 q.2) l xs
theorem IsKV.mono {κ : Type} {H H' : Hp} (t : Tx H H') {l : List (κ × D)} {xs : List (κ × V)} (h : IsKV H l xs) : IsKV H' l xs := Paired.mapP h fun _ _ z => ⟨z.1, z.2.mono t⟩
theorem IsKV.length {κ : Type} {H : Hp} {l : List (κ × D)} {xs : List (κ × V)} (h : IsKV H l xs) : l.length = xs.length := Paired.length h

/-! ### mutable objects by data -/
inductive MO where
  | lst (ds : List D)
  /-- a list too, told apart from others by the prover alone -/
  | pin (ds : List D)
  | dK (kvs : List (Key × D))
  | dT (kvs : List (List Key × D))
  | ins (C : Addr) (fs : List (Str × D))
  | xd (fs : List (Str × D))
def MOk (H : Hp) (a : Addr) : MO → Prop
  | .lst ds => ∃ xs, H a = some (.lst xs) ∧ IsL H ds xs
  | .pin ds => ∃ xs, H a = some (.lst xs) ∧ IsL H ds xs
  | .dK kvs => ∃ vs, H a = some (.dK vs) ∧ IsKV H kvs vs
  | .dT kvs => ∃ vs, H a = some (.dT vs) ∧ IsKV H kvs vs
  | .ins C fs => ∃ dx vs, H a = some (.ins C dx vs) ∧ IsKV H fs vs
  | .xd fs => ∃ vs, H a = some (.xd vs) ∧ IsKV H fs vs
theorem MOk.some {H : Hp} {a : Addr} {m : MO} (h : MOk H a m) : ∃ o, H a = Option.some o := by
  cases m with
  | lst ds => obtain ⟨xs, e, _⟩ := h; exact ⟨_, e⟩
  | pin ds => obtain ⟨xs, e, _⟩ := h; exact ⟨_, e⟩
  | dK kvs => obtain ⟨xs, e, _⟩ := h; exact ⟨_, e⟩
  | dT kvs => obtain ⟨xs, e, _⟩ := h; exact ⟨_, e⟩
  | ins C fs => obtain ⟨dx, xs, e, _⟩ := h; exact ⟨_, e⟩
  | xd fs => obtain ⟨xs, e, _⟩ := h; exact ⟨_, e⟩
theorem MOk.mono {H H' : Hp} {a : Addr} {m : MO} (t : Tx H H') (k : ∀ o, H a = Option.some o → H' a = Option.some o) (h : MOk H a m) : MOk H' a m := by
  cases m with
  | lst ds => obtain ⟨xs, e, r⟩ := h; exact ⟨xs, k _ e, r.mono t⟩
  | pin ds => obtain ⟨xs, e, r⟩ := h; exact ⟨xs, k _ e, r.mono t⟩
  | dK kvs => obtain ⟨xs, e, r⟩ := h; exact ⟨xs, k _ e, r.mono t⟩
  | dT kvs => obtain ⟨xs, e, r⟩ := h; exact ⟨xs, k _ e, r.mono t⟩
  | ins C fs => obtain ⟨dx, xs, e, r⟩ := h; exact ⟨dx, xs, k _ e, r.mono t⟩
  | xd fs => obtain ⟨xs, e, r⟩ := h; exact ⟨xs, k _ e, r.mono t⟩
abbrev Mem := Addr → Option MO
def put (M : Mem) (a : Addr) (m : MO) : Mem := fun b => if b = a then some m else M b
theorem put_same {M : Mem} {a : Addr} {m : MO} : put M a m a = some m := by unfold put; rw [if_pos rfl]
theorem put_ne {M : Mem} {a b : Addr} {m : MO} (h : b ≠ a) : put M a m b = M b := by unfold put; rw [if_neg h]
theorem put_put {M : Mem} {a : Addr} {m n : MO} : put (put M a m) a n = put M a n := by
  funext b; unfold put; split <;> rfl
theorem put_comm {M : Mem} {a b : Addr} {m n : MO} (h : a ≠ b) : put (put M a m) b n = put (put M b n) a m := by
  funext c; unfold put
  by_cases h1 : c = b
  · by_cases h2 : c = a
    · exact absurd (h2.symm.trans h1) h
    · rw [if_pos h1, if_neg h2, if_pos h1]
  · rw [if_neg h1]
    by_cases h2 : c = a
    · rw [if_pos h2, if_pos h2]
    · rw [if_neg h2, if_neg h2, if_neg h1]
theorem nn {M : Mem} {a b : Addr} {m : MO} (h : M a = some m) (h' : M b = none) : a ≠ b := by
  intro e; subst e; rw [h] at h'; cases h'
/-- what M says stands in the heap -/
def RelM (H : Hp) (M : Mem) : Prop := ∀ a m, M a = some m → MOk H a m
/-- M knows no more than M' -/
def Sub (M M' : Mem) : Prop := ∀ a m, M a = some m → M' a = some m
theorem Sub.refl (M : Mem) : Sub M M := fun _ _ h => h
theorem Sub.trans {M M1 M2 : Mem} (a : Sub M M1) (b : Sub M1 M2) : Sub M M2 := fun x y h => b x y (a x y h)
theorem Sub.put {M : Mem} {p : Addr} {m : MO} (h : M p = none) : Sub M (put M p m) := fun a u e => by
  rw [put_ne (nn e h)]
  exact e
theorem Sub.upd {M M' : Mem} {p : Addr} {m : MO} (s : Sub M M') : Sub (DL.put M p m) (DL.put M' p m) := fun a u e => by
  unfold DL.put at e ⊢
  by_cases h : a = p
  · rw [if_pos h] at e ⊢; exact e
  · rw [if_neg h] at e ⊢; exact s _ _ e
section
variable {H H' : Hp} {M M' : Mem} {p : Addr}
theorem RelM.sub (r : RelM H M') (s : Sub M M') : RelM H M := fun a m e => r a m (s a m e)
theorem RelM.free (r : RelM H M) (h : H p = none) : M p = none := by
  cases e : M p with
  | none => rfl
  | some m =>
    obtain ⟨o, q⟩ := (r p m e).some
    rw [h] at q
    cases q
theorem RelM.keep (r : RelM H M) (t : Tx H H') (k : ∀ a o, M a ≠ none → H a = some o → H' a = some o) : RelM H' M := fun a m e => (r a m e).mono t fun o q => k a o (by rw [e]; intro z; cases z) q
theorem RelM.fresh {o : HO} (r : RelM H M) (h : H p = none) : RelM (upd H p o) M := r.keep (Tx.new h) fun a u _ e => by
  rw [upd_ne (ne_of_none e h)]
  exact e
theorem RelM.new {o : HO} {m : MO} (r : RelM H M) (h : H p = none) (hm : MOk (upd H p o) p m) : RelM (upd H p o) (put M p m) := fun a u e => by
  by_cases q : a = p
  · subst q
    rw [put_same] at e
    cases e
    exact hm
  · rw [put_ne q] at e
    exact r.fresh h a u e
theorem RelM.set {u o : HO} {m : MO} (r : RelM H M) (h : H p = some u) (nt : ∀ xs, u ≠ .tup xs) (nf : ∀ ob w, u ≠ .frz ob w) (hm : MOk (upd H p o) p m) : RelM (upd H p o) (put M p m) := fun a w e => by
  by_cases q : a = p
  · subst q
    rw [put_same] at e
    cases e
    exact hm
  · rw [put_ne q] at e
    exact (r a w e).mono (Tx.mut h nt nf) fun o' z => by rw [upd_ne q]; exact z
end
/-! ### slots by data -/
abbrev Sl := List (Option D)
def SIs (H : Hp) (σ : L2.St) (Γ : Sl) : Prop := σ.length = Γ.length ∧ ∀ (i : Nat) (d : D), Γ[i]? = some (some d) → ∃ v, σ[i]? = some (some v) ∧ Is H d v
section
variable {H H' : Hp} {σ : L2.St} {Γ : Sl}
theorem SIs.mono (s : SIs H σ Γ) (t : Tx H H') : SIs H' σ Γ := ⟨s.1, fun i d e => let ⟨v, h, r⟩ := s.2 i d e; ⟨v, h, r.mono t⟩⟩
theorem SIs.set {i : Nat} {d : D} {v : V} (s : SIs H σ Γ) (r : Is H d v) : SIs H (σ.set i (some v)) (Γ.set i (some d)) := by
  refine ⟨by rw [List.length_set, List.length_set]; exact s.1, fun j e h => ?_⟩
  by_cases q : i = j
  · subst q
    by_cases hl : i < Γ.length
    · rw [List.getElem?_set_self hl] at h
      cases h
      exact ⟨v, List.getElem?_set_self (by rw [s.1]; exact hl), r⟩
    · rw [List.getElem?_eq_none (by rw [List.length_set]; omega)] at h
      cases h
  · rw [List.getElem?_set_ne q] at h
    rw [List.getElem?_set_ne q]
    exact s.2 j e h
theorem SIs.unset {i : Nat} (s : SIs H σ Γ) : SIs H (σ.set i none) (Γ.set i none) := by
  refine ⟨by rw [List.length_set, List.length_set]; exact s.1, fun j e h => ?_⟩
  by_cases q : i = j
  · subst q
    by_cases hl : i < Γ.length
    · rw [List.getElem?_set_self hl] at h
      cases h
    · rw [List.getElem?_eq_none (by rw [List.length_set]; omega)] at h
      cases h
  · rw [List.getElem?_set_ne q] at h
    rw [List.getElem?_set_ne q]
    exact s.2 j e h
def wipeD (Γ : Sl) : List Nat → Sl
  | [] => Γ
  | v :: vs => (wipeD Γ vs).set v none
theorem SIs.wipe (s : SIs H σ Γ) : ∀ vs : List Nat, SIs H (L2.wipe σ vs) (wipeD Γ vs)
  | [] => s
  | v :: vs => (SIs.wipe s vs).unset
theorem SIs.start {ds : List D} {vs : List V} (h : IsL H ds vs) (N : List Str) : SIs H (L2.start N vs) (ds.map some ++ List.replicate (N.length - ds.length) none) := by
  unfold L2.start
  have hl := h.length
  refine ⟨by simp [hl], fun i d e => ?_⟩
  by_cases hi : i < ds.length
  · rw [List.getElem?_append_left (by simpa using hi), List.getElem?_map] at e
    cases q : ds[i]? with
    | none => rw [q] at e; cases e
    | some d' =>
      rw [q] at e
      cases e
      obtain ⟨v, hv, r⟩ := h.get q
      refine ⟨v, ?_, r⟩
      rw [List.getElem?_append_left (by simp; omega), List.getElem?_map, hv]
      rfl
  · rw [List.getElem?_append_right (by simp; omega), List.getElem?_replicate] at e
    split at e <;> cases e
end
end DL

set_option Elab.async false
set_option linter.all false
set_option maxRecDepth 100000
set_option maxHeartbeats 4000000
/-! DLb: the judgements by data, and the rules of expressions. -/
namespace DL
open PySem PySem.Spec PyProof.Rows L2
abbrev PD := D → Mem → Prop
def PostE (H : Hp) (P : PD) : VK := fun v H' => ∃ d M', Tx H H' ∧ Is H' d v ∧ RelM H' M' ∧ P d M'
def PostT (H : Hp) (P : Bool → Mem → Prop) : Bool → Hp → Prop := fun b H' => ∃ M', Tx H H' ∧ RelM H' M' ∧ P b M'
def PostA (H : Hp) (P : List D → Mem → Prop) : List V → Hp → Prop := fun vs H' => ∃ ds M', Tx H H' ∧ IsL H' ds vs ∧ RelM H' M' ∧ P ds M'
def PostG (H : Hp) (P : Sl → Mem → Prop) : L2.St → Hp → Prop := fun σ H' => ∃ Γ M', Tx H H' ∧ SIs H' σ Γ ∧ RelM H' M' ∧ P Γ M'
/-- an expression at slots Γ and memory M gives a d, leaving M', with P d M' -/
structure WE (X : Cx) (e : Expr) (Γ : Sl) (M : Mem) (P : PD) : Prop where
  run : ∀ (pins : List (Addr × Obj)) (s : Shared) (σ : L2.St) (H : Hp), Inv X pins σ H s → SIs H σ Γ → RelM H M → wpAny (model X.prog X.w) X.A (eval e X.env) (EP X pins σ (PostE H P)) X.xe s
structure WT (X : Cx) (e : Expr) (Γ : Sl) (M : Mem) (P : Bool → Mem → Prop) : Prop where
  run : ∀ (pins : List (Addr × Obj)) (s : Shared) (σ : L2.St) (H : Hp), Inv X pins σ H s → SIs H σ Γ → RelM H M → wpAny (model X.prog X.w) X.A (isTrue e X.env (eval e X.env)) (TP X pins σ (PostT H P)) X.xe s
structure WW (X : Cx) (e : Expr) (Γ : Sl) (M : Mem) (P : Bool → Mem → Prop) : Prop where
  run : ∀ (whole : Sem Value) (pins : List (Addr × Obj)) (s : Shared) (σ : L2.St) (H : Hp), Inv X pins σ H s → SIs H σ Γ → RelM H M → wpAny (model X.prog X.w) X.A (isTrue e X.env whole) (TP X pins σ (PostT H P)) X.xe s
structure WA (X : Cx) (es : List Expr) (Γ : Sl) (M : Mem) (P : List D → Mem → Prop) : Prop where
  run : ∀ (pos : Pos) (pins : List (Addr × Obj)) (s : Shared) (σ : L2.St) (H : Hp), Inv X pins σ H s → SIs H σ Γ → RelM H M → wpAny (model X.prog X.w) X.A (spliced (backTo pos (starEach es X.env))) (AP X pins σ (PostA H P)) X.xe s
structure WG (X : Cx) (tg : Expr) (d : D) (Γ : Sl) (M : Mem) (P : Sl → Mem → Prop) : Prop where
  run : ∀ (pins : List (Addr × Obj)) (s : Shared) (σ : L2.St) (H : Hp) (v : V) (u : Value), Inv X pins σ H s → RelV v u → Is H d v → SIs H σ Γ → RelM H M →
    wpAny (model X.prog X.w) X.A (assign tg X.env u) (fun _ s' => ∃ σ' H', Inv X pins σ' H' s' ∧ PostG H P σ' H') X.xe s
structure WGs (X : Cx) (ts : List Expr) (ds : List D) (Γ : Sl) (M : Mem) (P : Sl → Mem → Prop) : Prop where
  run : ∀ (pins : List (Addr × Obj)) (s : Shared) (σ : L2.St) (H : Hp) (vs : List V) (us : List Value), Inv X pins σ H s → Vals vs us → IsL H ds vs → SIs H σ Γ → RelM H M →
    wpAny (model X.prog X.w) X.A (assignInOrder ((assignEach ts X.env).map (·.2)) us) (fun _ s' => ∃ σ' H', Inv X pins σ' H' s' ∧ PostG H P σ' H') X.xe s
/-- the readings that the judgements are -/
def tW (X : Cx) (e : Expr) : TE := fun σ H Q => ∃ Γ M P, SIs H σ Γ ∧ RelM H M ∧ WE X e Γ M P ∧ ∀ v H', PostE H P v H' → Q v H'
def tWT (X : Cx) (e : Expr) : TT := fun σ H Q => ∃ Γ M P, SIs H σ Γ ∧ RelM H M ∧ WT X e Γ M P ∧ ∀ v H', PostT H P v H' → Q v H'
def tWW (X : Cx) (e : Expr) : TT := fun σ H Q => ∃ Γ M P, SIs H σ Γ ∧ RelM H M ∧ WW X e Γ M P ∧ ∀ v H', PostT H P v H' → Q v H'
def tWA (X : Cx) (es : List Expr) : TA := fun σ H Q => ∃ Γ M P, SIs H σ Γ ∧ RelM H M ∧ WA X es Γ M P ∧ ∀ v H', PostA H P v H' → Q v H'
def tWG (X : Cx) (tg : Expr) : TG := fun v σ H Q => ∃ d Γ M P, Is H d v ∧ SIs H σ Γ ∧ RelM H M ∧ WG X tg d Γ M P ∧ ∀ σ' H', PostG H P σ' H' → Q σ' H'
def tWGs (X : Cx) (ts : List Expr) : TGs := fun vs σ H Q => ∃ ds Γ M P, IsL H ds vs ∧ SIs H σ Γ ∧ RelM H M ∧ WGs X ts ds Γ M P ∧ ∀ σ' H', PostG H P σ' H' → Q σ' H'
section
variable {X : Cx} {e a b c : Expr} {es : List Expr} {tg : Expr} {ts : List Expr} {Γ : Sl} {M : Mem} {P : PD} {PT' : Bool → Mem → Prop} {pos : Pos} {σ : L2.St} {H : Hp}
theorem pe_w : PE X e (tW X e) := ⟨fun pins s σ H Q I ⟨Γ, M, P, hs, hm, h, k⟩ => thn (h.run pins s σ H I hs hm) fun u s' ⟨v, H', I', r, q⟩ => ⟨v, H', I', r, k v H' q⟩⟩
theorem pt_w : PT X e (tWT X e) := ⟨fun pins s σ H Q I ⟨Γ, M, P, hs, hm, h, k⟩ => thn (h.run pins s σ H I hs hm) fun u s' ⟨H', I', q⟩ => ⟨H', I', k u H' q⟩⟩
theorem pw_w : PW X e (tWW X e) := ⟨fun wh pins s σ H Q I ⟨Γ, M, P, hs, hm, h, k⟩ => thn (h.run wh pins s σ H I hs hm) fun u s' ⟨H', I', q⟩ => ⟨H', I', k u H' q⟩⟩
theorem pa_w : PA X es (tWA X es) := ⟨fun pos pins s σ H Q I ⟨Γ, M, P, hs, hm, h, k⟩ => thn (h.run pos pins s σ H I hs hm) fun u s' ⟨v, H', I', r, q⟩ => ⟨v, H', I', r, k v H' q⟩⟩
theorem pg_w : PG X tg (tWG X tg) := ⟨fun pins s σ H v u Q I r ⟨d, Γ, M, P, hd, hs, hm, h, k⟩ => thn (h.run pins s σ H v u I r hd hs hm) fun _ s' ⟨σ', H', I', q⟩ => ⟨σ', H', I', k σ' H' q⟩⟩
theorem pgs_w : PGs X ts (tWGs X ts) := ⟨fun pins s σ H v u Q I r ⟨d, Γ, M, P, hd, hs, hm, h, k⟩ => thn (h.run pins s σ H v u I r hd hs hm) fun _ s' ⟨σ', H', I', q⟩ => ⟨σ', H', I', k σ' H' q⟩⟩
theorem we_of {t : TE} (h : PE X e t) (k : ∀ σ H, SIs H σ Γ → RelM H M → t σ H (PostE H P)) : WE X e Γ M P := ⟨fun pins s σ H I hs hm => h.run pins s σ H _ I (k σ H hs hm)⟩
theorem wt_of {t : TT} (h : PT X e t) (k : ∀ σ H, SIs H σ Γ → RelM H M → t σ H (PostT H PT')) : WT X e Γ M PT' := ⟨fun pins s σ H I hs hm => h.run pins s σ H _ I (k σ H hs hm)⟩
theorem ww_of {t : TT} (h : PW X e t) (k : ∀ σ H, SIs H σ Γ → RelM H M → t σ H (PostT H PT')) : WW X e Γ M PT' := ⟨fun wh pins s σ H I hs hm => h.run wh pins s σ H _ I (k σ H hs hm)⟩
theorem wa_of {t : TA} {P : List D → Mem → Prop} (h : PA X es t) (k : ∀ σ H, SIs H σ Γ → RelM H M → t σ H (PostA H P)) : WA X es Γ M P := ⟨fun pos pins s σ H I hs hm => h.run pos pins s σ H _ I (k σ H hs hm)⟩
theorem wg_of {t : TG} {d : D} {P : Sl → Mem → Prop} (h : PG X tg t) (k : ∀ v σ H, Is H d v → SIs H σ Γ → RelM H M → t v σ H (PostG H P)) : WG X tg d Γ M P := ⟨fun pins s σ H v u I r hd hs hm => h.run pins s σ H v u _ I r (k v σ H hd hs hm)⟩
theorem wgs_of {t : TGs} {ds : List D} {P : Sl → Mem → Prop} (h : PGs X ts t) (k : ∀ vs σ H, IsL H ds vs → SIs H σ Γ → RelM H M → t vs σ H (PostG H P)) : WGs X ts ds Γ M P := ⟨fun pins s σ H v u I r hd hs hm => h.run pins s σ H v u _ I r (k v σ H hd hs hm)⟩
theorem tw {Q : VK} (h : WE X e Γ M P) (hs : SIs H σ Γ) (hm : RelM H M) (k : ∀ v H' d M', Tx H H' → Is H' d v → RelM H' M' → P d M' → Q v H') : tW X e σ H Q := ⟨Γ, M, P, hs, hm, h, fun v H' ⟨d, M', t, r, m, p⟩ => k v H' d M' t r m p⟩
theorem twt {Q : Bool → Hp → Prop} (h : WT X e Γ M PT') (hs : SIs H σ Γ) (hm : RelM H M) (k : ∀ v H' M', Tx H H' → RelM H' M' → PT' v M' → Q v H') : tWT X e σ H Q := ⟨Γ, M, PT', hs, hm, h, fun v H' ⟨M', t, m, p⟩ => k v H' M' t m p⟩
theorem tww {Q : Bool → Hp → Prop} (h : WW X e Γ M PT') (hs : SIs H σ Γ) (hm : RelM H M) (k : ∀ v H' M', Tx H H' → RelM H' M' → PT' v M' → Q v H') : tWW X e σ H Q := ⟨Γ, M, PT', hs, hm, h, fun v H' ⟨M', t, m, p⟩ => k v H' M' t m p⟩
theorem twa {P : List D → Mem → Prop} {Q : List V → Hp → Prop} (h : WA X es Γ M P) (hs : SIs H σ Γ) (hm : RelM H M) (k : ∀ v H' d M', Tx H H' → IsL H' d v → RelM H' M' → P d M' → Q v H') : tWA X es σ H Q := ⟨Γ, M, P, hs, hm, h, fun v H' ⟨d, M', t, r, m, p⟩ => k v H' d M' t r m p⟩
/-! ### names, constants -/
theorem we_var (i : Nat) {x : Str} {d : D} (h : Γ[i]? = some (some d)) (k : P d M) (hN : X.N[i]? = some x := by rfl) (hv : Vis X.env.scope x := by first | exact Or.inl rfl | exact Or.inr (Or.inl rfl) | exact Or.inr (Or.inr rfl)) (hd : (x == ("__debug__" : Str)) = false := by decide)
    (hcd : (x == ("__classdict__" : Str)) = false := by decide) : WE X (.Name x pos) Γ M P :=
  we_of (pv i hN hv hd hcd) fun σ H hs hm => let ⟨v, e, r⟩ := hs.2 i d h; ⟨v, e, d, M, Tx.refl H, r, hm, k⟩
theorem we_int {i : Int} {j : Nat} (k : P (.int i) M) : WE X (.Constant (.int i) j pos) Γ M P := we_of pe_int fun σ H hs hm => ⟨.int i, M, Tx.refl H, .int i, hm, k⟩
theorem we_str {i : Str} {j : Nat} (k : P (.str i) M) : WE X (.Constant (.str i) j pos) Γ M P := we_of pe_str fun σ H hs hm => ⟨.str i, M, Tx.refl H, .str i, hm, k⟩
theorem we_bl {i : Bool} {j : Nat} (k : P (.bl i) M) : WE X (.Constant (.bool i) j pos) Γ M P := we_of pe_bl fun σ H hs hm => ⟨.bl i, M, Tx.refl H, .bl i, hm, k⟩
theorem we_non {j : Nat} (k : P .non M) : WE X (.Constant .none j pos) Γ M P := we_of pe_non fun σ H hs hm => ⟨.non, M, Tx.refl H, .non, hm, k⟩
theorem we_globI {x : Str} {i : Int} {t : Tok} (hm : X.mg x = some (.int i t)) (k : P (.int i) M) (hg : Gl X x := by rfl) (hd : (x == ("__debug__" : Str)) = false := by decide) : WE X (.Name x pos) Γ M P :=
  we_of (pe_glob (v := .int i) hg hm ⟨t, rfl⟩ hd) fun σ H hs hm => ⟨.int i, M, Tx.refl H, .int i, hm, k⟩
theorem we_globS {x : Str} {i : Str} {t : Tok} (hm : X.mg x = some (.str i t)) (k : P (.str i) M) (hg : Gl X x := by rfl) (hd : (x == ("__debug__" : Str)) = false := by decide) : WE X (.Name x pos) Γ M P :=
  we_of (pe_glob (v := .str i) hg hm ⟨t, rfl⟩ hd) fun σ H hs hm => ⟨.str i, M, Tx.refl H, .str i, hm, k⟩
theorem we_globR {x : Str} {i : Addr} (hm : X.mg x = some (.ref i)) (k : P (.ref i) M) (hg : Gl X x := by rfl) (hd : (x == ("__debug__" : Str)) = false := by decide) : WE X (.Name x pos) Γ M P :=
  we_of (pe_glob (v := .ref i) hg hm rfl hd) fun σ H hs hm => ⟨.ref i, M, Tx.refl H, .ref i, hm, k⟩
theorem we_ty {x : Str} {T : String} (hm : X.mg x = none) (k : P (.ty T) M) (hg : Gl X x := by rfl) (hv : bootBuiltins x = some (.type T) := by decide +kernel) (hn : x ≠ "__name__" := by decide) (hd : (x == ("__debug__" : Str)) = false := by decide) : WE X (.Name x pos) Γ M P :=
  we_of (pe_bltn (v := .ty T) hg hm hv rfl hn hd) fun σ H hs hm => ⟨.ty T, M, Tx.refl H, .ty T, hm, k⟩
/-! ### arguments, displays -/
theorem wa_nil {P : List D → Mem → Prop} (k : P [] M) : WA X [] Γ M P := wa_of pa_nil fun σ H hs hm => ⟨[], M, Tx.refl H, .nil, hm, k⟩
theorem wa_cons {P : List D → Mem → Prop} (h : WE X e Γ M fun x M1 => WA X es Γ M1 fun xs M2 => P (x :: xs) M2) (hs : starEach (e :: es) X.env = (false, eval e X.env) :: starEach es X.env := by rfl) : WA X (e :: es) Γ M P :=
  wa_of (pa_cons pe_w pa_w hs) fun σ H hs hm => tw h hs hm fun v H1 d M1 t r m p => twa p (hs.mono t) m fun vs H2 ds M2 t2 r2 m2 p2 => ⟨d :: ds, M2, t.trans t2, .cons (r.mono t2) r2, m2, p2⟩
theorem we_tup {x1 : Nat} (h : WA X es Γ M fun ds M1 => ds.length ≤ sizeLine ∧ P (.tup ds) M1) : WE X (.Tuple es x1 pos) Γ M P :=
  we_of (pe_tup pa_w) fun σ H hs hm => twa h hs hm fun vs H1 ds M1 t r m p => ⟨by rw [← r.length]; exact p.1, fun q hq => ⟨.tup ds, M1, t.trans (Tx.new hq), .tup upd_same (r.mono (Tx.new hq)), m.fresh hq, p.2⟩⟩
theorem we_lst (h : WA X es Γ M fun ds M1 => ds.length ≤ sizeLine ∧ ∀ p, M1 p = none → P (.ref p) (put M1 p (.lst ds))) : WE X (.List es pos) Γ M P :=
  we_of (pe_lst pa_w) fun σ H hs hm => twa h hs hm fun vs H1 ds M1 t r m p => ⟨by rw [← r.length]; exact p.1, fun q hq => ⟨.ref q, put M1 q (.lst ds), t.trans (Tx.new hq), .ref q, m.new hq (show MOk _ _ (.lst ds) from ⟨vs, upd_same, r.mono (Tx.new hq)⟩), p.2 q (m.free hq)⟩⟩
/-! ### operators -/
abbrev B2 := D → D → Mem → PD → Prop
def OpD (X : Cx) (f : Value → Value → Sem Value) (B : B2) : Prop := ∀ (pins : List (Addr × Obj)) (s : Shared) (σ : L2.St) (H : Hp) (x y : D) (xv yv : V) (v u : Value) (M : Mem) (P : PD), Inv X pins σ H s → RelV xv v → RelV yv u → Is H x xv → Is H y yv → RelM H M → B x y M P →
  wpAny (model X.prog X.w) X.A (f v u) (EP X pins σ (PostE H P)) X.xe s
def rD (B : B2) : R2 := fun xv yv H Q => ∃ x y M P, Is H x xv ∧ Is H y yv ∧ RelM H M ∧ B x y M P ∧ ∀ v H', PostE H P v H' → Q v H'
theorem OpD.r {f : Value → Value → Sem Value} {B : B2} (h : OpD X f B) : OpR X f (rD B) := fun pins s σ H xv yv v u Q I rx ry ⟨x, y, M, P, hx, hy, hm, hb, k⟩ =>
  thn (h pins s σ H x y xv yv v u M P I rx ry hx hy hm hb) fun u' s' ⟨v', H', I', r, q⟩ => ⟨v', H', I', r, k v' H' q⟩
theorem OpD.of {f : Value → Value → Sem Value} {r : R2} {B : B2} (h : OpR X f r) (k : ∀ (H : Hp) (x y : D) (xv yv : V) (M : Mem) (P : PD), Is H x xv → Is H y yv → RelM H M → B x y M P → r xv yv H (PostE H P)) : OpD X f B :=
  fun pins s σ H x y xv yv v u M P I rx ry hx hy hm hb => h pins s σ H xv yv v u _ I rx ry (k H x y xv yv M P hx hy hm hb)
theorem we_bin {op : Operator} {B : B2} (ho : OpD X (binaryOp op) B) (h : WE X a Γ M fun x M1 => WE X b Γ M1 fun y M2 => B x y M2 P) : WE X (.BinOp a op b pos) Γ M P :=
  we_of (pe_op ho.r pe_w pe_w) fun σ H hs hm => tw h hs hm fun v H1 d M1 t r m p => tw p (hs.mono t) m fun v2 H2 d2 M2 t2 r2 m2 p2 =>
    ⟨d, d2, M2, P, r.mono t2, r2, m2, p2, fun z H3 ⟨d3, M3, t3, r3, m3, p3⟩ => ⟨d3, M3, (t.trans t2).trans t3, r3, m3, p3⟩⟩
theorem we_cmp {op : CmpOp} {B : B2} (ho : OpD X (compareOp op) B) (h : WE X a Γ M fun x M1 => WE X b Γ M1 fun y M2 => B x y M2 P) (hm : behindInMarks op b = false := by first | exact nomark _ | rfl) : WE X (.Compare a [op] [b] pos) Γ M P :=
  we_of (pe_cmpR ho.r pe_w pe_w hm) fun σ H hs hm => tw h hs hm fun v H1 d M1 t r m p => tw p (hs.mono t) m fun v2 H2 d2 M2 t2 r2 m2 p2 =>
    ⟨d, d2, M2, P, r.mono t2, r2, m2, p2, fun z H3 ⟨d3, M3, t3, r3, m3, p3⟩ => ⟨d3, M3, (t.trans t2).trans t3, r3, m3, p3⟩⟩
def asT (P : Bool → Mem → Prop) : PD := fun d M => ∃ k, d = .bl k ∧ P k M
theorem wt_cmp {op : CmpOp} {B : B2} (ho : OpD X (compareOp op) B) (h : WE X a Γ M fun x M1 => WE X b Γ M1 fun y M2 => B x y M2 (asT PT')) (hm : behindInMarks op b = false := by first | exact nomark _ | rfl) : WT X (.Compare a [op] [b] pos) Γ M PT' :=
  wt_of (pt_cmpR ho.r pe_w pe_w hm) fun σ H hs hm => tw h hs hm fun v H1 d M1 t r m p => tw p (hs.mono t) m fun v2 H2 d2 M2 t2 r2 m2 p2 =>
    ⟨d, d2, M2, _, r.mono t2, r2, m2, p2, fun z H3 ⟨d3, M3, t3, r3, m3, k, e, p3⟩ => by
      subst e
      cases r3
      exact ⟨k, rfl, M3, (t.trans t2).trans t3, m3, p3⟩⟩
/-- a op b op' c -/
theorem we_chain {op op' : CmpOp} {B B' : B2} (ho : OpD X (compareOp op) B) (ho' : OpD X (compareOp op') B')
    (h : WE X a Γ M fun x M1 => WE X b Γ M1 fun y M2 => B x y M2 fun z M3 => ∃ k, z = .bl k ∧ (k = true → WE X c Γ M3 fun w M4 => B' y w M4 P) ∧ (k = false → P (.bl false) M3))
    (hm : lastMarks [op, op'] [b, c] = false := by with_unfolding_all rfl) : WE X (.Compare a [op, op'] [b, c] pos) Γ M P :=
  we_of (pe_chain ho.r ho'.r pe_w pe_w pe_w hm) fun σ H hs hm => tw h hs hm fun v H1 d M1 t r m p => tw p (hs.mono t) m fun v2 H2 d2 M2 t2 r2 m2 p2 =>
    ⟨d, d2, M2, _, r.mono t2, r2, m2, p2, fun z H3 ⟨d3, M3, t3, r3, m3, k, e, p3, p4⟩ => by
      subst e
      cases r3
      refine ⟨k, rfl, ?_⟩
      cases k with
      | false => exact ⟨.bl false, M3, (t.trans t2).trans t3, .bl _, m3, p4 rfl⟩
      | true => exact tw (p3 rfl) (((hs.mono t).mono t2).mono t3) m3 fun v4 H4 d4 M4 t4 r4 m4 p5 => ⟨d2, d4, M4, P, (r2.mono t3).mono t4, r4, m4, p5, fun z H5 ⟨d5, M5, t5, r5, m5, p6⟩ => ⟨d5, M5, (((t.trans t2).trans t3).trans t4).trans t5, r5, m5, p6⟩⟩⟩
theorem wt_chain {op op' : CmpOp} {B B' : B2} (ho : OpD X (compareOp op) B) (ho' : OpD X (compareOp op') B')
    (h : WE X a Γ M fun x M1 => WE X b Γ M1 fun y M2 => B x y M2 fun z M3 => ∃ k, z = .bl k ∧ (k = true → WE X c Γ M3 fun w M4 => B' y w M4 (asT PT')) ∧ (k = false → PT' false M3))
    (hm : lastMarks [op, op'] [b, c] = false := by with_unfolding_all rfl) : WT X (.Compare a [op, op'] [b, c] pos) Γ M PT' :=
  wt_of (pt_chain ho.r ho'.r pe_w pe_w pe_w hm) fun σ H hs hm => tw h hs hm fun v H1 d M1 t r m p => tw p (hs.mono t) m fun v2 H2 d2 M2 t2 r2 m2 p2 =>
    ⟨d, d2, M2, _, r.mono t2, r2, m2, p2, fun z H3 ⟨d3, M3, t3, r3, m3, k, e, p3, p4⟩ => by
      subst e
      cases r3
      refine ⟨k, rfl, ?_⟩
      cases k with
      | false => exact ⟨false, rfl, M3, (t.trans t2).trans t3, m3, p4 rfl⟩
      | true => exact tw (p3 rfl) (((hs.mono t).mono t2).mono t3) m3 fun v4 H4 d4 M4 t4 r4 m4 p5 => ⟨d2, d4, M4, _, (r2.mono t3).mono t4, r4, m4, p5, fun z H5 ⟨d5, M5, t5, r5, m5, k', e', p6⟩ => by
          subst e'
          cases r5
          exact ⟨k', rfl, M5, (((t.trans t2).trans t3).trans t4).trans t5, m5, p6⟩⟩⟩
/-! ### tests -/
theorem wt_val (h : WE X e Γ M (asT PT')) (he : ∀ whole, isTrue e X.env whole = (do let v ← whole; standAt e.pos; holding [v] (truthy v)) := by intro _; rfl) : WT X e Γ M PT' :=
  wt_of (pt_val pe_w he) fun σ H hs hm => tw h hs hm fun v H1 d M1 t r m ⟨k, e, p⟩ => by
    subst e
    cases r
    exact ⟨k, rfl, M1, t, m, p⟩
/-- truth by data -/
def TruD (d : D) (M : Mem) (k : Bool) : Prop := match d with
  | .non => k = false
  | .bl b => k = b
  | .int i => k = (i != 0)
  | .str y => y.length ≤ sizeLine ∧ k = ((y.length : Int) != 0)
  | .tup l => k = !l.isEmpty
  | .rol l => k = !l.isEmpty
  | .ref a => (∃ ds, M a = some (.lst ds) ∧ k = !ds.isEmpty) ∨ ∃ kvs, M a = some (.dK kvs) ∧ k = !kvs.isEmpty
  | _ => False
theorem empty_of {H : Hp} {l : List D} {xs : List V} (r : IsL H l xs) : xs.isEmpty = l.isEmpty := by
  cases r <;> rfl
theorem emptyK_of {κ : Type} {H : Hp} {l : List (κ × D)} {xs : List (κ × V)} (r : IsKV H l xs) : xs.isEmpty = l.isEmpty := by
  cases r <;> rfl
theorem wt_truth (h : WE X e Γ M fun d M1 => ∃ k, TruD d M1 k ∧ PT' k M1) (he : ∀ whole, isTrue e X.env whole = (do let v ← whole; standAt e.pos; holding [v] (truthy v)) := by intro _; rfl) : WT X e Γ M PT' :=
  wt_of (pt_truth pe_w he) fun σ H hs hm => tw h hs hm fun v H1 d M1 t r m ⟨k, e, p⟩ => by
    refine ⟨k, ?_, M1, t, m, p⟩
    cases r with
    | non => exact e
    | bl b => exact e
    | int i => exact e
    | str y => exact e
    | ty n => exact e
    | tup h1 h2 => exact .inr (.inl ⟨_, SqT.of h1, by rw [empty_of h2]; exact e⟩)
    | rol h1 h2 =>
      obtain ⟨o, h1⟩ := h1
      exact .inl ⟨_, .inl (.inr ⟨o, h1⟩), by rw [empty_of h2]; exact e⟩
    | ref a =>
      rcases e with ⟨ds, h1, e⟩ | ⟨ds, h1, e⟩
      · obtain ⟨xs, h2, h3⟩ := m _ _ h1
        exact .inl ⟨xs, SqL.of h2, by rw [empty_of h3]; exact e⟩
      · obtain ⟨xs, h2, h3⟩ := m _ _ h1
        exact .inr (.inr ⟨xs, h2, by rw [emptyK_of h3]; exact e⟩)
theorem ww_and1 (h : WT X a Γ M PT') : WW X (.BoolOp .And [a] pos) Γ M PT' := ww_of (pw_and1 pt_w) fun σ H hs hm => twt h hs hm fun v H' M' t m p => ⟨M', t, m, p⟩
theorem ww_or1 (h : WT X a Γ M PT') : WW X (.BoolOp .Or [a] pos) Γ M PT' := ww_of (pw_or1 pt_w) fun σ H hs hm => twt h hs hm fun v H' M' t m p => ⟨M', t, m, p⟩
theorem ww_and {rest : List Expr} (h : WT X a Γ M fun k M1 => (k = true → WW X (.BoolOp .And (b :: rest) pos) Γ M1 PT') ∧ (k = false → PT' false M1)) : WW X (.BoolOp .And (a :: b :: rest) pos) Γ M PT' :=
  ww_of (pw_and pt_w pw_w) fun σ H hs hm => twt h hs hm fun k H1 M1 t m ⟨p, q⟩ => by
    cases k with
    | true => exact tww (p rfl) (hs.mono t) m fun v H2 M2 t2 m2 p2 => ⟨M2, t.trans t2, m2, p2⟩
    | false => exact ⟨M1, t, m, q rfl⟩
theorem ww_or {rest : List Expr} (h : WT X a Γ M fun k M1 => (k = false → WW X (.BoolOp .Or (b :: rest) pos) Γ M1 PT') ∧ (k = true → PT' true M1)) : WW X (.BoolOp .Or (a :: b :: rest) pos) Γ M PT' :=
  ww_of (pw_or pt_w pw_w) fun σ H hs hm => twt h hs hm fun k H1 M1 t m ⟨p, q⟩ => by
    cases k with
    | false => exact tww (p rfl) (hs.mono t) m fun v H2 M2 t2 m2 p2 => ⟨M2, t.trans t2, m2, p2⟩
    | true => exact ⟨M1, t, m, q rfl⟩
theorem wt_ww (h : WW X e Γ M PT') : WT X e Γ M PT' := ⟨h.run _⟩
theorem wt_not (h : WT X a Γ M fun k M1 => PT' (!k) M1) : WT X (.UnaryOp .Not a pos) Γ M PT' := wt_of (pt_not pt_w) fun σ H hs hm => twt h hs hm fun v H' M' t m p => ⟨M', t, m, p⟩
/-! ### and, or, not as values -/
theorem we_one {op : BoolOp} (h : WE X a Γ M P) : WE X (.BoolOp op [a] pos) Γ M P := we_of (pe_one pe_w) fun σ H hs hm => tw h hs hm fun v H1 d M1 t r m p => ⟨d, M1, t, r, m, p⟩
theorem we_and {rest : List Expr} (h : WE X a Γ M fun d M1 => ∃ k, d = .bl k ∧ (k = true → WE X (.BoolOp .And (b :: rest) pos) Γ M1 P) ∧ (k = false → P (.bl false) M1)) : WE X (.BoolOp .And (a :: b :: rest) pos) Γ M P :=
  we_of (pe_and pe_w pe_w) fun σ H hs hm => tw h hs hm fun v H1 d M1 t r m ⟨k, e, p, q⟩ => by
    subst e
    cases r
    refine ⟨k, rfl, ?_⟩
    cases k with
    | true => exact tw (p rfl) (hs.mono t) m fun v H2 d M2 t2 r2 m2 p2 => ⟨d, M2, t.trans t2, r2, m2, p2⟩
    | false => exact ⟨.bl false, M1, t, .bl _, m, q rfl⟩
theorem we_or {rest : List Expr} (h : WE X a Γ M fun d M1 => ∃ k, d = .bl k ∧ (k = false → WE X (.BoolOp .Or (b :: rest) pos) Γ M1 P) ∧ (k = true → P (.bl true) M1)) : WE X (.BoolOp .Or (a :: b :: rest) pos) Γ M P :=
  we_of (pe_or pe_w pe_w) fun σ H hs hm => tw h hs hm fun v H1 d M1 t r m ⟨k, e, p, q⟩ => by
    subst e
    cases r
    refine ⟨k, rfl, ?_⟩
    cases k with
    | false => exact tw (p rfl) (hs.mono t) m fun v H2 d M2 t2 r2 m2 p2 => ⟨d, M2, t.trans t2, r2, m2, p2⟩
    | true => exact ⟨.bl true, M1, t, .bl _, m, q rfl⟩
theorem we_not (h : WE X a Γ M fun d M1 => ∃ k, d = .bl k ∧ P (.bl (!k)) M1) : WE X (.UnaryOp .Not a pos) Γ M P :=
  we_of (pe_not pe_w) fun σ H hs hm => tw h hs hm fun v H1 d M1 t r m ⟨k, e, p⟩ => by
    subst e
    cases r
    exact ⟨k, rfl, .bl (!k), M1, t, .bl _, m, p⟩
theorem we_ifexp (h : WT X c Γ M fun k M1 => (k = true → WE X a Γ M1 P) ∧ (k = false → WE X b Γ M1 P)) : WE X (.IfExp c a b pos) Γ M P :=
  we_of (pe_ifExp pt_w pe_w pe_w) fun σ H hs hm => twt h hs hm fun k H1 M1 t m ⟨p, q⟩ => by
    cases k with
    | true => exact tw (p rfl) (hs.mono t) m fun v H2 d M2 t2 r2 m2 p2 => ⟨d, M2, t.trans t2, r2, m2, p2⟩
    | false => exact tw (q rfl) (hs.mono t) m fun v H2 d M2 t2 r2 m2 p2 => ⟨d, M2, t.trans t2, r2, m2, p2⟩
theorem we_neg (h : WE X a Γ M fun d M1 => ∃ i, d = .int i ∧ P (.int (-i)) M1) : WE X (.UnaryOp .USub a pos) Γ M P :=
  we_of (pe_un un_neg pe_w) fun σ H hs hm => tw h hs hm fun v H1 d M1 t r m ⟨k, e, p⟩ => by
    subst e
    cases r
    exact ⟨k, rfl, .int (-k), M1, t, .int _, m, p⟩
end
end DL

set_option Elab.async false
set_option linter.all false
set_option maxRecDepth 100000
set_option maxHeartbeats 4000000
/-! DLc: operators, comparisons, subscripts, slices, built-in functions, by data. -/
namespace DL
open PySem PySem.Spec PyProof.Rows L2
theorem rI_i {H : Hp} {v : V} {i : Int} (r : Is H (.int i) v) : v = .int i := by cases r; rfl
theorem rI_s {H : Hp} {v : V} {i : Str} (r : Is H (.str i) v) : v = .str i := by cases r; rfl
theorem rI_b {H : Hp} {v : V} {i : Bool} (r : Is H (.bl i) v) : v = .bl i := by cases r; rfl
theorem rI_r {H : Hp} {v : V} {i : Addr} (r : Is H (.ref i) v) : v = .ref i := by cases r; rfl
theorem rI_n {H : Hp} {v : V} (r : Is H .non v) : v = .non := by cases r; rfl
theorem rI_t {H : Hp} {v : V} {l : List D} (r : Is H (.tup l) v) : ∃ a xs, v = .ref a ∧ H a = some (.tup xs) ∧ IsL H l xs := by
  cases r with
  | tup h1 h2 => exact ⟨_, _, rfl, h1, h2⟩
theorem rI_l {H : Hp} {v : V} {l : List D} (r : Is H (.rol l) v) : ∃ a xs, v = .ref a ∧ FzL H a xs ∧ IsL H l xs := by
  cases r with
  | rol h1 h2 => exact ⟨_, _, rfl, h1, h2⟩
theorem FzL.sq {K : PySem.W.Frag} {H : Hp} {a : Addr} {xs : List V} (h : FzL H a xs) : SqL K H a xs := let ⟨o, h⟩ := h; .inl (.inr ⟨o, h⟩)
section
variable {X : Cx} {H : Hp}
theorem fin {P : PD} {d : D} {v : V} {M : Mem} (r : Is H d v) (hm : RelM H M) (p : P d M) : PostE H P v H := ⟨d, M, Tx.refl H, r, hm, p⟩
theorem fin_new {P : PD} {ds : List D} {xs : List V} {M : Mem} {q : Addr} (hq : H q = none) (r : IsL H ds xs) (hm : RelM H M) (p : ∀ q, M q = none → P (.ref q) (put M q (.lst ds))) : PostE H P (.ref q) (upd H q (.lst xs)) :=
  ⟨.ref q, put M q (.lst ds), Tx.new hq, .ref q, hm.new hq (show MOk _ _ (.lst ds) from ⟨xs, upd_same, r.mono (Tx.new hq)⟩), p q (hm.free hq)⟩
theorem fin_tup {P : PD} {ds : List D} {xs : List V} {M : Mem} {q : Addr} (hq : H q = none) (r : IsL H ds xs) (hm : RelM H M) (p : P (.tup ds) M) : PostE H P (.ref q) (upd H q (.tup xs)) :=
  ⟨.tup ds, M, Tx.new hq, .tup upd_same (r.mono (Tx.new hq)), hm.fresh hq, p⟩
theorem fin_set {P : PD} {d : D} {v : V} {u o : HO} {m : MO} {M : Mem} {q : Addr} (hq : H q = some u) (nt : ∀ xs, u ≠ .tup xs) (nf : ∀ ob w, u ≠ .frz ob w) (r : Is H d v) (hm : RelM H M) (ok : MOk (upd H q o) q m) (p : P d (put M q m)) : PostE H P v (upd H q o) :=
  ⟨d, put M q m, Tx.mut hq nt nf, r.mono (Tx.mut hq nt nf), hm.set hq nt nf ok, p⟩
/-! ### arithmetic -/
def BAdd : B2 := fun x y M P => match x, y with
  | .int i, .int j => P (.int (i + j)) M
  | .str i, .str j => i.length + j.length ≤ sizeLine ∧ P (.str (i ++ j)) M
  | .tup a, .tup b => a.length + b.length ≤ sizeLine ∧ P (.tup (a ++ b)) M
  | .ref a, .ref b => ∃ xs ys, M a = some (.lst xs) ∧ M b = some (.lst ys) ∧ xs.length + ys.length ≤ sizeLine ∧ ∀ p, M p = none → P (.ref p) (put M p (.lst (xs ++ ys)))
  | _, _ => False
theorem op_addAll : OpR X (binaryOp .Add) (fun x y H Q => (rI0 fun i j => .int (i + j)) x y H Q ∨ (∃ i j, x = .str i ∧ y = .str j ∧ i.length + j.length ≤ sizeLine ∧ Q (.str (i ++ j)) H) ∨ rCatA X.K x y H Q ∨ rCat x y H Q) := op_add.or (op_add_str.or (op_catA.or op_cat))
theorem od_add : OpD X (binaryOp .Add) BAdd := .of op_addAll fun H x y xv yv M P hx hy hm hb => by
  cases x with
  | int i =>
    cases y with
    | int j =>
      cases hx
      cases hy
      exact .inl ⟨i, j, rfl, rfl, fin (.int _) hm hb⟩
    | _ => exact False.elim hb
  | str i =>
    cases y with
    | str j =>
      cases hx
      cases hy
      exact .inr (.inl ⟨i, j, rfl, rfl, hb.1, fin (.str _) hm hb.2⟩)
    | _ => exact False.elim hb
  | tup l =>
    cases y with
    | tup m =>
      obtain ⟨hz, p⟩ := hb
      obtain ⟨a, xs, rfl, ha, ra⟩ := rI_t hx
      obtain ⟨b, ys, rfl, hb', rb⟩ := rI_t hy
      refine .inr (.inr (.inl ⟨a, b, xs, ys, rfl, rfl, SqT.of ha, SqT.of hb', by rw [← ra.length, ← rb.length]; exact hz, fun e => ?_, fun _ e => ?_, fun _ _ q hq => fin_tup hq (ra.append rb) hm p⟩))
      · subst e
        cases ra
        exact fin (.tup hb' rb) hm p
      · subst e
        cases rb
        rw [List.append_nil] at p
        exact fin (.tup ha ra) hm p
    | _ => exact False.elim hb
  | ref a =>
    cases y with
    | ref b =>
      obtain ⟨ds, es, ha, hb', hz, p⟩ := hb
      cases hx
      cases hy
      obtain ⟨xs, h1, r1⟩ := hm a _ ha
      obtain ⟨ys, h2, r2⟩ := hm b _ hb'
      exact .inr (.inr (.inr ⟨a, b, xs, ys, rfl, rfl, h1, h2, by rw [← r1.length, ← r2.length]; exact hz, fun q hq => fin_new hq (r1.append r2) hm p⟩))
    | _ => exact False.elim hb
  | _ => exact False.elim hb
/-- ints in, an int out -/
def BI (C : Int → Int → Prop) (g : Int → Int → Int) : B2 := fun x y M P => match x, y with
  | .int i, .int j => C i j ∧ P (.int (g i j)) M
  | _, _ => False
def BI0 (g : Int → Int → Int) : B2 := fun x y M P => match x, y with
  | .int i, .int j => P (.int (g i j)) M
  | _, _ => False
def BB0 (g : Int → Int → Bool) : B2 := fun x y M P => match x, y with
  | .int i, .int j => P (.bl (g i j)) M
  | _, _ => False
theorem odI {f : Value → Value → Sem Value} {C : Int → Int → Prop} {g : Int → Int → Int} (h : OpR X f (rI C fun i j => .int (g i j))) : OpD X f (BI C g) := .of h fun H x y xv yv M P hx hy hm hb => by
  cases x with
  | int i =>
    cases y with
    | int j =>
      cases hx
      cases hy
      exact ⟨i, j, rfl, rfl, hb.1, fin (.int _) hm hb.2⟩
    | _ => exact False.elim hb
  | _ => exact False.elim hb
theorem odI0 {f : Value → Value → Sem Value} {g : Int → Int → Int} (h : OpR X f (rI0 fun i j => .int (g i j))) : OpD X f (BI0 g) := .of h fun H x y xv yv M P hx hy hm hb => by
  cases x with
  | int i =>
    cases y with
    | int j =>
      cases hx
      cases hy
      exact ⟨i, j, rfl, rfl, fin (.int _) hm hb⟩
    | _ => exact False.elim hb
  | _ => exact False.elim hb
theorem odB0 {f : Value → Value → Sem Value} {g : Int → Int → Bool} (h : OpR X f (rI0 fun i j => .bl (g i j))) : OpD X f (BB0 g) := .of h fun H x y xv yv M P hx hy hm hb => by
  cases x with
  | int i =>
    cases y with
    | int j =>
      cases hx
      cases hy
      exact ⟨i, j, rfl, rfl, fin (.bl _) hm hb⟩
    | _ => exact False.elim hb
  | _ => exact False.elim hb
theorem od_sub : OpD X (binaryOp .Sub) (BI0 fun i j => i - j) := odI0 op_sub
theorem od_div : OpD X (binaryOp .FloorDiv) (BI CDiv fun i j => i / j) := odI op_fdiv
theorem od_mod : OpD X (binaryOp .Mod) (BI (fun _ j => 0 < j) fun i j => i % j) := odI op_mod
theorem od_pow : OpD X (binaryOp .Pow) (BI CPow fun i j => i ^ j.toNat) := odI op_pow
def BMul : B2 := fun x y M P => match x, y with
  | .int i, .int j => CMul i j ∧ P (.int (i * j)) M
  | .ref a, .int k => ∃ xs, M a = some (.lst xs) ∧ -(2 ^ 63) ≤ k ∧ k < 2 ^ 63 ∧ xs.length * k.toNat ≤ sizeLine ∧ ∀ p, M p = none → P (.ref p) (put M p (.lst (List.replicate k.toNat xs).flatten))
  | _, _ => False
theorem IsL.repl {H : Hp} {l : List D} {xs : List V} (r : IsL H l xs) : ∀ n : Nat, IsL H (List.replicate n l).flatten (List.replicate n xs).flatten
  | 0 => .nil
  | n + 1 => by
    rw [List.replicate_succ, List.replicate_succ, List.flatten_cons, List.flatten_cons]
    exact r.append (IsL.repl r n)
theorem op_mulAll : OpR X (binaryOp .Mult) (fun x y H Q => (rI CMul fun i j => .int (i * j)) x y H Q ∨ rRep x y H Q) := op_mul.or op_rep
theorem od_mul : OpD X (binaryOp .Mult) BMul := .of op_mulAll fun H x y xv yv M P hx hy hm hb => by
  cases x with
  | int i =>
    cases y with
    | int j =>
      cases hx
      cases hy
      exact .inl ⟨i, j, rfl, rfl, hb.1, fin (.int _) hm hb.2⟩
    | _ => exact False.elim hb
  | ref a =>
    cases y with
    | int k =>
      obtain ⟨ds, ha, h1, h2, hz, p⟩ := hb
      cases hx
      cases hy
      obtain ⟨xs, e1, r1⟩ := hm a _ ha
      exact .inr ⟨a, k, xs, rfl, rfl, e1, h1, h2, by rw [← r1.length]; exact hz, fun q hq => fin_new hq (r1.repl _) hm p⟩
    | _ => exact False.elim hb
  | _ => exact False.elim hb
/-! ### comparisons -/
theorem od_lt : OpD X (compareOp .Lt) (BB0 fun i j => decide (i < j)) := odB0 op_lt
theorem od_le : OpD X (compareOp .LtE) (BB0 fun i j => decide (i ≤ j)) := odB0 op_le
theorem od_gt : OpD X (compareOp .Gt) (BB0 fun i j => decide (j < i)) := odB0 op_gt
theorem od_ge : OpD X (compareOp .GtE) (BB0 fun i j => decide (j ≤ i)) := odB0 op_ge
def BEqu : B2 := fun x y M P => match x, y with
  | .int i, .int j => P (.bl (decide (i = j))) M
  | .str i, .str j => P (.bl (decide (i = j))) M
  | .bl i, .bl j => P (.bl (decide (i = j))) M
  | .non, .non => P (.bl true) M
  | .non, .int _ => P (.bl false) M
  | .int _, .non => P (.bl false) M
  | .non, .bl _ => P (.bl false) M
  | .bl _, .non => P (.bl false) M
  | .non, .str _ => P (.bl false) M
  | .str _, .non => P (.bl false) M
  | .int _, .str _ => P (.bl false) M
  | .str _, .int _ => P (.bl false) M
  | .bl _, .str _ => P (.bl false) M
  | .str _, .bl _ => P (.bl false) M
  | _, _ => False
theorem fin_b {P : PD} {M : Mem} {k k' : Bool} (hm : RelM H M) (p : P (.bl k) M) (e : k' = k) : PostE H P (.bl k') H := by
  subst e
  exact fin (.bl _) hm p
theorem od_eq : OpD X (compareOp .Eq) BEqu := .of op_eq fun H x y xv yv M P hx hy hm hb => by
  cases x <;> cases y <;> first
    | exact False.elim hb
    | (cases hx; cases hy; exact ⟨rfl, fin_b hm hb (by simp)⟩)
def BNe : B2 := fun x y M P => match x, y with
  | .int i, .int j => P (.bl (!decide (i = j))) M
  | .str i, .str j => P (.bl (!decide (i = j))) M
  | .bl i, .bl j => P (.bl (!decide (i = j))) M
  | .non, .non => P (.bl false) M
  | .non, .int _ => P (.bl true) M
  | .int _, .non => P (.bl true) M
  | .non, .bl _ => P (.bl true) M
  | .bl _, .non => P (.bl true) M
  | .non, .str _ => P (.bl true) M
  | .str _, .non => P (.bl true) M
  | .int _, .str _ => P (.bl true) M
  | .str _, .int _ => P (.bl true) M
  | .bl _, .str _ => P (.bl true) M
  | .str _, .bl _ => P (.bl true) M
  | _, _ => False
theorem od_ne : OpD X (compareOp .NotEq) BNe := .of op_ne fun H x y xv yv M P hx hy hm hb => by
  cases x <;> cases y <;> first
    | exact False.elim hb
    | (cases hx; cases hy; exact ⟨rfl, fin_b hm hb (by simp)⟩)
def isN : D → Bool
  | .non => true
  | _ => false
theorem isN_of {d : D} {v : V} (r : Is H d v) : decide (v = .non) = isN d := by
  cases r <;> simp [isN]
def BIs : B2 := fun x y M P => match y with
  | .non => P (.bl (isN x)) M
  | _ => False
def BIsNot : B2 := fun x y M P => match y with
  | .non => P (.bl (!isN x)) M
  | _ => False
theorem od_is : OpD X (compareOp .Is) BIs := .of op_isN fun H x y xv yv M P hx hy hm hb => by
  cases y with
  | non => cases hy; exact ⟨rfl, fin_b hm hb (isN_of hx)⟩
  | _ => exact False.elim hb
theorem od_isnot : OpD X (compareOp .IsNot) BIsNot := .of op_notN fun H x y xv yv M P hx hy hm hb => by
  cases y with
  | non => cases hy; exact ⟨rfl, fin_b hm hb (by rw [isN_of hx])⟩
  | _ => exact False.elim hb
/-- flat data as values -/
def toV : D → Option V
  | .non => some .non
  | .bl b => some (.bl b)
  | .int i => some (.int i)
  | .str x => some (.str x)
  | _ => none
theorem toV_of {d : D} {v u : V} (h : toV d = some u) (r : Is H d v) : v = u ∧ flatV u = true := by
  cases r <;> cases h <;> exact ⟨rfl, rfl⟩
theorem toVs_of : ∀ {l : List D} {xs us : List V}, l.mapM toV = some us → IsL H l xs → xs = us ∧ us.all flatV = true
  | [], xs, us, h, r => by
    cases r
    cases h
    exact ⟨rfl, rfl⟩
  | d :: l, xs, us, h, r => by
    cases r with
    | cons r1 r2 =>
      rw [List.mapM_cons] at h
      cases h1 : toV d with
      | none => rw [h1] at h; cases h
      | some u =>
        rw [h1] at h
        cases h2 : l.mapM toV with
        | none => rw [h2] at h; cases h
        | some us' =>
          rw [h2] at h
          cases h
          obtain ⟨e1, f1⟩ := toV_of h1 r1
          obtain ⟨e2, f2⟩ := toVs_of h2 r2
          refine ⟨by rw [e1, e2], ?_⟩
          rw [List.all_cons, f1, f2]
          rfl
/-- x in a tuple, a list of flat things -/
def BIn (neg : Bool) : B2 := fun x y M P => ∃ u l us, toV x = some u ∧ (y = .tup l ∨ (∃ a, y = .ref a ∧ M a = some (.lst l))) ∧ l.mapM toV = some us ∧ P (.bl (if neg then !inV u us else inV u us)) M
theorem odIn {neg : Bool} {f : Value → Value → Sem Value} (h : OpR X f (rIn X.K neg)) : OpD X f (BIn neg) := .of h fun H x y xv yv M P hx hy hm ⟨u, l, us, hu, hl, hus, p⟩ => by
  obtain ⟨e1, f1⟩ := toV_of hu hx
  subst e1
  rcases hl with e | ⟨a, e, ha⟩
  · subst e
    obtain ⟨a, xs, rfl, h1, h2⟩ := rI_t hy
    obtain ⟨e2, f2⟩ := toVs_of hus h2
    subst e2
    exact ⟨a, xs, rfl, .inr (SqT.of h1), f1, f2, fin (.bl _) hm p⟩
  · subst e
    cases hy
    obtain ⟨xs, h1, h2⟩ := hm a _ ha
    obtain ⟨e2, f2⟩ := toVs_of hus h2
    subst e2
    exact ⟨a, xs, rfl, .inl (SqL.of h1), f1, f2, fin (.bl _) hm p⟩
theorem od_in : OpD X (compareOp .In) (BIn false) := odIn op_in_seq
theorem od_notin : OpD X (compareOp .NotIn) (BIn true) := odIn op_notIn_seq
/-! ### subscripts -/
def IxD : D → D → Mem → PD → Prop := fun x y M P => match x, y with
  | .tup l, .int i => ∃ d, atI l i = some d ∧ P d M
  | .rol l, .int i => ∃ d, atI l i = some d ∧ P d M
  | .ref a, .int i => ∃ l d, M a = some (.lst l) ∧ atI l i = some d ∧ P d M
  | .str z, .int i => z.length ≤ sizeLine ∧ ∃ c, atI z.cps.toList i = some c ∧ P (.str ⟨#[c]⟩) M
  | _, _ => False
theorem IsL.at_ {l : List D} {xs : List V} {i : Int} {d : D} (r : IsL H l xs) (h : atI l i = some d) : ∃ v, atI xs i = some v ∧ Is H d v := by
  unfold atI at h ⊢
  rw [← r.length]
  cases q : ixN l.length i with
  | none => rw [q] at h; cases h
  | some j =>
    rw [q] at h
    exact r.get h
theorem we_sub {a b : Expr} {Γ : Sl} {M : Mem} {P : PD} {pos : Pos} (h : WE X a Γ M fun x M1 => WE X b Γ M1 fun y M2 => IxD x y M2 P) (hs : PlainIx b := by exact fun _ _ => rfl) : WE X (.Subscript a b pos) Γ M P :=
  we_of (pe_ix ix_seq pe_w pe_w hs) fun σ H hs hm => tw h hs hm fun v H1 d M1 t r m p => tw p (hs.mono t) m fun v2 H2 d2 M2 t2 r2 m2 p2 => by
    have r := r.mono t2
    have k : ∀ {v : V} {e : D}, Is H2 e v → P e M2 → PostE H P v H2 := fun z p => ⟨_, M2, t.trans t2, z, m2, p⟩
    cases d with
    | tup l =>
      cases d2 with
      | int i =>
        cases r2
        obtain ⟨a, xs, rfl, h1, h2⟩ := rI_t r
        obtain ⟨e, he, p2⟩ := p2
        obtain ⟨u, hu, ru⟩ := h2.at_ he
        exact .inr (.inl ⟨a, xs, i, u, rfl, rfl, SqT.of h1, hu, k ru p2⟩)
      | _ => exact False.elim p2
    | rol l =>
      cases d2 with
      | int i =>
        cases r2
        obtain ⟨a, xs, rfl, h1, h2⟩ := rI_l r
        obtain ⟨e, he, p2⟩ := p2
        obtain ⟨u, hu, ru⟩ := h2.at_ he
        exact .inl ⟨a, xs, i, u, rfl, rfl, h1.sq, hu, k ru p2⟩
      | _ => exact False.elim p2
    | ref a =>
      cases d2 with
      | int i =>
        cases r2
        cases r
        obtain ⟨l, e, hl, he, p2⟩ := p2
        obtain ⟨xs, h1, h2⟩ := m2 a _ hl
        obtain ⟨u, hu, ru⟩ := h2.at_ he
        exact .inl ⟨a, xs, i, u, rfl, rfl, SqL.of h1, hu, k ru p2⟩
      | _ => exact False.elim p2
    | str z =>
      cases d2 with
      | int i =>
        cases r2
        cases r
        obtain ⟨hz, c, hc, p2⟩ := p2
        exact .inr (.inr ⟨z, i, c, rfl, rfl, hz, hc, k (.str _) p2⟩)
      | _ => exact False.elim p2
    | _ => exact False.elim p2
/-! ### slices -/
def cutD (xs : List D) (lo hi : Option Int) : List D := (xs.drop (HT.sIx xs.length 0 lo)).take (HT.sIx xs.length xs.length hi - HT.sIx xs.length 0 lo)
theorem IsL.cut {l : List D} {xs : List V} (r : IsL H l xs) (lo hi : Option Int) : IsL H (cutD l lo hi) (cutV xs lo hi) := by
  unfold cutD cutV
  rw [r.length]
  exact (r.drop _).take _
def tWO (X : Cx) (e : Option Expr) : TO := match e with
  | none => tNoPart
  | some e => tPart (tW X e)
theorem po_w {e : Option Expr} : PO X e (tWO X e) := by
  cases e with
  | none => exact po_none
  | some e => exact po_some pe_w
/-- a part: none, or an int's expression -/
def WP (X : Cx) (e : Option Expr) (Γ : Sl) (M : Mem) (P : Option Int → Mem → Prop) : Prop := match e with
  | none => P none M
  | some e => WE X e Γ M fun d M1 => ∃ i, d = .int i ∧ P (some i) M1
theorem two {e : Option Expr} {Γ : Sl} {M : Mem} {P : Option Int → Mem → Prop} {σ : L2.St} {H : Hp} {Q : Option Int → Hp → Prop} (h : WP X e Γ M P) (hs : SIs H σ Γ) (hm : RelM H M) (k : ∀ o H' M', Tx H H' → RelM H' M' → P o M' → Q o H') : tWO X e σ H Q := by
  cases e with
  | none => exact k none H M (Tx.refl H) hm h
  | some e =>
    refine tw h hs hm fun v H1 d M1 t r m ⟨i, ei, p⟩ => ?_
    subst ei
    cases r
    exact ⟨i, rfl, k _ _ _ t m p⟩
def SlD : D → Option Int → Option Int → Mem → PD → Prop := fun x lo hi M P => match x with
  | .tup l => P (.tup (cutD l lo hi)) M
  | .ref a => ∃ l, M a = some (.lst l) ∧ ∀ p, M p = none → P (.ref p) (put M p (.lst (cutD l lo hi)))
  | .str z => z.length ≤ sizeLine ∧ P (.str (cutS z lo hi)) M
  | _ => False
theorem SlR.or {r r' : V → Option Int → Option Int → Hp → VK → Prop} (h : SlR X r) (h' : SlR X r') : SlR X (fun x lo hi H Q => r x lo hi H Q ∨ r' x lo hi H Q) := by
  intro pins s σ H x v lo hi a b Q I
  intros
  rename_i q
  rcases q with q | q
  · apply h <;> assumption
  · apply h' <;> assumption
theorem cutV_all {xs : List V} {lo hi : Option Int} (h1 : HT.sIx xs.length 0 lo = 0) (h2 : HT.sIx xs.length xs.length hi = xs.length) : cutV xs lo hi = xs := by
  unfold cutV
  rw [h1, h2]
  simp
theorem we_slice {e : Expr} {lo hi : Option Expr} {p2 pos : Pos} {Γ : Sl} {M : Mem} {P : PD} (h : WE X e Γ M fun x M1 => WP X lo Γ M1 fun l M2 => WP X hi Γ M2 fun u M3 => SlD x l u M3 P) : WE X (.Subscript e (.Slice lo hi none p2) pos) Γ M P :=
  we_of (pe_slice (SlR.or sl_list (SlR.or sl_tupA sl_str)) pe_w po_w po_w) fun σ H hs hm => tw h hs hm fun v H1 d M1 t r m p => two p (hs.mono t) m fun l H2 M2 t2 m2 p2 => two p2 ((hs.mono t).mono t2) m2 fun u H3 M3 t3 m3 p3 => by
    have r := (r.mono t2).mono t3
    have T := (t.trans t2).trans t3
    cases d with
    | tup x =>
      obtain ⟨a, xs, rfl, h1, h2⟩ := rI_t r
      refine .inr (.inl ⟨a, xs, rfl, SqT.of h1, fun ⟨e1, e2⟩ => ?_, fun _ q hq => ?_⟩)
      · refine ⟨.tup (cutD x l u), M3, T, .tup h1 ?_, m3, p3⟩
        have z := h2.cut l u
        rw [cutV_all e1 e2] at z
        exact z
      · obtain ⟨d', M', t', r', m', p'⟩ := fin_tup hq (h2.cut l u) m3 p3
        exact ⟨d', M', T.trans t', r', m', p'⟩
    | ref a =>
      cases r
      obtain ⟨x, hx, p3⟩ := p3
      obtain ⟨xs, h1, h2⟩ := m3 a _ hx
      refine .inl ⟨a, xs, rfl, SqL.of h1, fun q hq => ?_⟩
      obtain ⟨d', M', t', r', m', p'⟩ := fin_new hq (h2.cut l u) m3 p3
      exact ⟨d', M', T.trans t', r', m', p'⟩
    | str z =>
      cases r
      exact .inr (.inr ⟨z, rfl, p3.1, .str _, M3, T, .str _, m3, p3.2⟩)
    | _ => exact False.elim p3
end
end DL

set_option Elab.async false
set_option linter.all false
set_option maxRecDepth 100000
set_option maxHeartbeats 4000000
/-! DLd: calls of built-ins and of own defs, attributes, methods, dicts, by data. -/
namespace DL
open PySem PySem.Spec PyProof.Rows L2
/-! ### built-ins by values -/
abbrev BC := List D → Mem → PD → Prop
def CaD (X : Cx) (f : Value) (B : BC) : Prop := ∀ (pins : List (Addr × Obj)) (s : Shared) (σ : L2.St) (H : Hp) (ds : List D) (xs : List V) (us : List Value) (M : Mem) (P : PD), Inv X pins σ H s → Vals xs us → IsL H ds xs → RelM H M → B ds M P →
  wpAny (model X.prog X.w) X.A (call f us) (EP X pins σ (PostE H P)) X.xe s
def rC (B : BC) : List V → Hp → VK → Prop := fun xs H Q => ∃ ds M P, IsL H ds xs ∧ RelM H M ∧ B ds M P ∧ ∀ v H', PostE H P v H' → Q v H'
section
variable {X : Cx} {H : Hp} {Γ : Sl} {M : Mem} {P : PD} {pos p : Pos} {e o : Expr} {es : List Expr} {x : Str}
theorem CaD.r {f : Value} {B : BC} (h : CaD X f B) : CallR X f (rC B) := fun pins s σ H xs us Q I r ⟨ds, M, P, hd, hm, hb, k⟩ => thn (h pins s σ H ds xs us M P I r hd hm hb) fun u' s' ⟨v', H', I', r', q⟩ => ⟨v', H', I', r', k v' H' q⟩
theorem CaD.of {f : Value} {r : List V → Hp → VK → Prop} {B : BC} (h : CallR X f r) (k : ∀ (H : Hp) (ds : List D) (xs : List V) (M : Mem) (P : PD), IsL H ds xs → RelM H M → B ds M P → r xs H (PostE H P)) : CaD X f B :=
  fun pins s σ H ds xs us M P I r hd hm hb => h pins s σ H xs us _ I r (k H ds xs M P hd hm hb)
theorem we_callB {id : String} {B : BC} (hc : CaD X (.builtin id) B) (hm : X.mg x = none) (h : WA X (e :: es) Γ M fun ds M1 => B ds M1 P) (hg : Gl X x := by rfl) (hv : bootBuiltins x = some (.builtin id) := by decide +kernel) (hn : x ≠ "__name__" := by decide) (hdb : (x == ("__debug__" : Str)) = false := by decide)
    (he : starEach (e :: es) X.env = (false, eval e X.env) :: starEach es X.env := by rfl) (hpl : (backTo pos (starEach es X.env)).any (·.1) = false := by rfl) : WE X (.Call (.Name x p) (e :: es) [] pos) Γ M P :=
  we_of (pe_callB hc.r hg hm hv pa_w hn hdb he hpl) fun σ H hs hm => twa h hs hm fun vs H1 ds M1 t r m p => ⟨ds, M1, P, r, m, p, fun v H2 ⟨d, M2, t2, r2, m2, p2⟩ => ⟨d, M2, t.trans t2, r2, m2, p2⟩⟩
theorem we_callT {T : String} {B : BC} (hc : CaD X (.type T) B) (hm : X.mg x = none) (h : WA X (e :: es) Γ M fun ds M1 => B ds M1 P) (hg : Gl X x := by rfl) (hv : bootBuiltins x = some (.type T) := by decide +kernel) (hn : x ≠ "__name__" := by decide) (hdb : (x == ("__debug__" : Str)) = false := by decide)
    (he : starEach (e :: es) X.env = (false, eval e X.env) :: starEach es X.env := by rfl) (hpl : (backTo pos (starEach es X.env)).any (·.1) = false := by rfl) : WE X (.Call (.Name x p) (e :: es) [] pos) Γ M P :=
  we_of (pe_callTy hc.r hg hm hv pa_w hn hdb he hpl) fun σ H hs hm => twa h hs hm fun vs H1 ds M1 t r m p => ⟨ds, M1, P, r, m, p, fun v H2 ⟨d, M2, t2, r2, m2, p2⟩ => ⟨d, M2, t.trans t2, r2, m2, p2⟩⟩
theorem one_of {H : Hp} {d : D} {xs : List V} (r : IsL H [d] xs) : ∃ v, xs = [v] ∧ Is H d v := by
  cases r with
  | cons r1 r2 => cases r2; exact ⟨_, rfl, r1⟩
theorem two_of {H : Hp} {d e : D} {xs : List V} (r : IsL H [d, e] xs) : ∃ v w, xs = [v, w] ∧ Is H d v ∧ Is H e w := by
  cases r with
  | cons r1 r2 =>
    obtain ⟨w, rfl, r3⟩ := one_of r2
    exact ⟨_, w, rfl, r1, r3⟩
def LenD (d : D) (M : Mem) (n : Nat) : Prop := match d with
  | .tup l => n = l.length
  | .rol l => n = l.length
  | .ref a => ∃ l, M a = some (.lst l) ∧ n = l.length
  | .str z => z.length ≤ sizeLine ∧ n = z.length
  | _ => False
def BLen : BC := fun ds M P => ∃ d n, ds = [d] ∧ LenD d M n ∧ P (.int n) M
theorem cd_len : CaD X (.builtin "len") BLen := .of call_len fun H ds xs M P r hm ⟨d, n, e, hl, p⟩ => by
  subst e
  obtain ⟨v, rfl, q1⟩ := one_of r
  revert q1
  clear r
  intro r
  refine ⟨v, n, rfl, ?_, fin (.int _) hm p⟩
  cases r with
  | tup h1 h2 => exact .inr ⟨_, SqT.of h1, by rw [← h2.length]; exact hl⟩
  | rol h1 h2 => exact .inl ⟨_, h1.sq, by rw [← h2.length]; exact hl⟩
  | ref a =>
    obtain ⟨l, h1, e⟩ := hl
    obtain ⟨xs, h2, h3⟩ := hm a _ h1
    exact .inl ⟨xs, SqL.of h2, by rw [← h3.length]; exact e⟩
  | str z => exact hl
  | _ => exact False.elim hl
def BInt : BC := fun ds M P => match ds with
  | [.int i] => P (.int i) M
  | [.bl k] => P (.int (if k then 1 else 0)) M
  | _ => False
theorem cd_int : CaD X (.type "int") BInt := .of call_int1 fun H ds xs M P r hm hb => by
  match ds, hb with
  | [.int i], hb =>
    obtain ⟨v, rfl, q1⟩ := one_of r
    revert q1
    clear r
    intro r
    cases r
    exact .inl ⟨i, rfl, fin (.int _) hm hb⟩
  | [.bl k], hb =>
    obtain ⟨v, rfl, q1⟩ := one_of r
    revert q1
    clear r
    intro r
    cases r
    exact .inr ⟨k, rfl, fin (.int _) hm hb⟩
theorem max_if (i j : Int) : (if j > i then j else i) = max i j := by
  by_cases h : j > i
  · rw [if_pos h]; omega
  · rw [if_neg h]; omega
theorem min_if (i j : Int) : (if j < i then j else i) = min i j := by
  by_cases h : j < i
  · rw [if_pos h]; omega
  · rw [if_neg h]; omega
def BMax : BC := fun ds M P => ∃ i j, ds = [.int i, .int j] ∧ P (.int (max i j)) M
def BMin : BC := fun ds M P => ∃ i j, ds = [.int i, .int j] ∧ P (.int (min i j)) M
theorem cd_max (hc : X.calm = true) : CaD X (.builtin "max") BMax := .of (call_max2 hc) fun H ds xs M P r hm ⟨i, j, e, p⟩ => by
  subst e
  obtain ⟨v, w, rfl, r1, r2⟩ := two_of r
  cases r1
  cases r2
  exact ⟨i, j, rfl, by rw [max_if]; exact fin (.int _) hm p⟩
theorem cd_min (hc : X.calm = true) : CaD X (.builtin "min") BMin := .of (call_min2 hc) fun H ds xs M P r hm ⟨i, j, e, p⟩ => by
  subst e
  obtain ⟨v, w, rfl, r1, r2⟩ := two_of r
  cases r1
  cases r2
  exact ⟨i, j, rfl, by rw [min_if]; exact fin (.int _) hm p⟩
def BMaxL : BC := fun ds M P => ∃ (a : Addr) (ns : List Int), ds = [.ref a] ∧ M a = some (.lst (ns.map D.int)) ∧ 0 < ns.length ∧ ∀ m, m ∈ ns → (∀ y, y ∈ ns → y ≤ m) → P (.int m) M
theorem cd_maxL (hc : X.calm = true) : CaD X (.builtin "max") BMaxL := .of (cr_max hc) fun H ds xs M P r hm ⟨a, ns, e, h1, h2, p⟩ => by
  subst e
  obtain ⟨v, rfl, q1⟩ := one_of r
  revert q1
  clear r
  intro r
  cases r
  obtain ⟨ys, h3, h4⟩ := hm a _ h1
  have e4 := IsL.of_ints h4
  subst e4
  exact ⟨a, ns, rfl, SqL.of h3, h2, fun m q1 q2 => fin (.int _) hm (p m q1 q2)⟩
def BTuple : BC := fun ds M P => ∃ d l, ds = [d] ∧ (d = .tup l ∨ ∃ a, d = .ref a ∧ M a = some (.lst l)) ∧ P (.tup l) M
theorem cd_tuple : CaD X (.type "tuple") BTuple := .of call_tuple_of fun H ds xs M P r hm ⟨d, l, e, h, p⟩ => by
  subst e
  obtain ⟨v, rfl, q1⟩ := one_of r
  revert q1
  clear r
  intro r
  rcases h with e | ⟨a, e, ha⟩
  · subst e
    obtain ⟨a, xs, rfl, h1, h2⟩ := rI_t r
    exact ⟨a, xs, rfl, .inr ⟨SqT.of h1, fin (.tup h1 h2) hm p⟩⟩
  · subst e
    cases r
    obtain ⟨xs, h1, h2⟩ := hm a _ ha
    exact ⟨a, xs, rfl, .inl ⟨SqL.of h1, fun q hq => fin_tup hq h2 hm p⟩⟩
def BList : BC := fun ds M P => ∃ d l, ds = [d] ∧ (d = .tup l ∨ d = .rol l ∨ ∃ a, d = .ref a ∧ M a = some (.lst l)) ∧ ∀ p, M p = none → P (.ref p) (put M p (.lst l))
theorem cd_list : CaD X (.type "list") BList := .of call_list_of fun H ds xs M P r hm ⟨d, l, e, h, p⟩ => by
  subst e
  obtain ⟨v, rfl, q1⟩ := one_of r
  revert q1
  clear r
  intro r
  rcases h with e | e | ⟨a, e, ha⟩
  · subst e
    obtain ⟨a, xs, rfl, h1, h2⟩ := rI_t r
    exact ⟨a, xs, rfl, .inr (SqT.of h1), fun q hq => fin_new hq h2 hm p⟩
  · subst e
    obtain ⟨a, xs, rfl, h1, h2⟩ := rI_l r
    exact ⟨a, xs, rfl, .inl h1.sq, fun q hq => fin_new hq h2 hm p⟩
  · subst e
    cases r
    obtain ⟨xs, h1, h2⟩ := hm a _ ha
    exact ⟨a, xs, rfl, .inl (SqL.of h1), fun q hq => fin_new hq h2 hm p⟩
/-- list(range(n)) -/
def rgD (a b : Int) : List D := (List.range (b - a).toNat).map fun i => D.int (a + (i : Nat))
theorem IsL.mapped {α : Type} {f : α → D} {g : α → V} (h : ∀ a, Is H (f a) (g a)) : ∀ l : List α, IsL H (l.map f) (l.map g)
  | [] => .nil
  | a :: l => .cons (h a) (IsL.mapped h l)
theorem we_listRg {a : Expr} {p2 pos2 : Pos} (hc : X.calm = true) (hl : X.mg "list" = none) (hr : X.mg "range" = none) (h : WE X a Γ M fun d M1 => ∃ n, d = .int n ∧ RgOk 0 n ∧ ∀ q, M1 q = none → P (.ref q) (put M1 q (.lst (rgD 0 n))))
    (g1 : Gl X "list" := by rfl) (g2 : Gl X "range" := by rfl) (na : starEach [a] X.env = (false, eval a X.env) :: starEach [] X.env := by rfl)
    (nb : starEach [.Call (.Name "range" p2) [a] [] pos2] X.env = (false, eval (.Call (.Name "range" p2) [a] [] pos2) X.env) :: starEach [] X.env := by rfl) : WE X (.Call (.Name "list" p) [.Call (.Name "range" p2) [a] [] pos2] [] pos) Γ M P :=
  we_of (pe_listRg hc g1 hl (prg_1 g2 hr pe_w na) nb) fun σ H hs hm => tw h hs hm fun v H1 d M1 t r m ⟨n, e, ok, p⟩ => by
    subst e
    cases r
    refine ⟨n, rfl, ok, fun q hq => ?_⟩
    obtain ⟨d', M', t', r', m', p'⟩ := fin_new (ds := rgD 0 n) (xs := rgV 0 n) hq (IsL.mapped (fun i => .int _) _) m p
    exact ⟨d', M', t.trans t', r', m', p'⟩
/-- isinstance(x, T), T a built-in class -/
inductive TyD (M : Mem) : D → String → Prop
  | non : TyD M .non "NoneType"
  | bl (b : Bool) : TyD M (.bl b) "bool"
  | int (i : Int) : TyD M (.int i) "int"
  | str (i : Str) : TyD M (.str i) "str"
  | tup (l : List D) : TyD M (.tup l) "tuple"
  | rol (l : List D) : TyD M (.rol l) "list"
  | lst {a : Addr} {l : List D} (h : M a = some (.lst l)) : TyD M (.ref a) "list"
  | dK {a : Addr} {l : List (Key × D)} (h : M a = some (.dK l)) : TyD M (.ref a) "dict"
theorem TyD.of {K : PySem.W.Frag} {d : D} {v : V} {T : String} (h : TyD M d T) (hm : RelM H M) (r : Is H d v) : TyX K H v (.type T) := by
  cases h with
  | non => cases r; exact .base .non
  | bl b => cases r; exact .base (.bl _)
  | int b => cases r; exact .base (.int _)
  | str b => cases r; exact .base (.str _)
  | tup l =>
    obtain ⟨a, xs, rfl, h1, h2⟩ := rI_t r
    exact .base (.tup h1)
  | rol l =>
    obtain ⟨a, xs, rfl, ⟨o, h1⟩, h2⟩ := rI_l r
    exact .base (.frz h1)
  | lst h =>
    cases r
    obtain ⟨xs, h1, h2⟩ := hm _ _ h
    exact .base (.lst h1)
  | dK h =>
    cases r
    obtain ⟨xs, h1, h2⟩ := hm _ _ h
    exact .base (.dK h1)
def BIsi : BC := fun ds M P => ∃ d S T b, ds = [d, .ty T] ∧ TyD M d S ∧ kitB S T = some b ∧ P (.bl b) M
theorem cd_isi : CaD X (.builtin "isinstance") BIsi := .of call_isi fun H ds xs M P r hm ⟨d, S, T, b, e, h1, h2, p⟩ => by
  subst e
  obtain ⟨v, w, rfl, r1, r2⟩ := two_of r
  cases r2
  exact ⟨v, .ty T, .type S, .type T, b, rfl, .ty T, h1.of hm r1, kit_ty h2, fin (.bl _) hm p⟩
/-! ### sums -/
theorem sum_tup {prog : Program} {w : World} {A : Around} {E : Value → Shared → Prop} {s : Shared} {l : Addr} {its : List Value} {ns : List Int} {Q : Value → Shared → Prop} (hh : A.handled = none) (hl : IsTup s.heap l its.toArray) (hi : IntsAre its ns)
    (h : ∀ h' tk t', (∀ b o, s.heap.get? b = some o → h'.get? b = some o) → Q (.int ns.sum t') { s with heap := h', toks := tk }) : wpAny (model prog w) A (call (.builtin "sum") [.ref l]) Q E s := by
  obtain ⟨xs, e⟩ := hi.allInts.items
  have hn : numsOf (intItems xs).toList = ns := by rw [← e]; exact hi.numsOf
  rw [nums_intItems] at hn
  rw [e] at hl
  have hl : s.heap.IsTuple l (intItems xs) := hl
  have hlt : l < s.heap.objs.size := by obtain ⟨_, e, _⟩ := hl; exact Heap.lt_size e
  refine call_sum_walkG (wpAny_pyIter_tuple hl ?_)
  generalize ho : ({ cls := .type "tuple_iterator", data := .fields #[.ref l, .int 0 0] } : Obj) = o
  have hit : (s.heap.push o).IsTupleIter s.heap.objs.size l 0 := by
    subst ho
    exact ⟨_, Heap.get?_push_size _ rfl, rfl, rfl⟩
  refine ⟨_, _, _, _, _, _, numAt xs, rfl, Walks.tuple (A := A.in1) hh s.heap.objs.size l (Nat.ne_of_lt hlt) (intItems xs), ⟨hit, hl.at fun o' e' => Heap.get?_push_of_some _ e'⟩, fun b hb => ?_, (fun _ _ => intItems_at), fun h' tk t' hk => ?_⟩
  · show b < (s.heap.push o).objs.size
    rw [Heap.size_push]
    rcases List.mem_cons.mp hb with rfl | hb
    · exact Nat.lt_succ_self _
    · rcases List.mem_cons.mp hb with rfl | hb
      · exact Nat.lt_succ_of_lt hlt
      · cases hb
  · have := h h' tk t' fun b o' e' => hk b o' (fun z => by
      have z' : b = s.heap.objs.size := by simpa using z
      subst z'
      exact Nat.lt_irrefl _ (Heap.lt_size e')) (Heap.get?_push_of_some _ e')
    rw [← hn] at this
    rw [preSum_eq, List.take_of_length_le (by simp [intItems])]
    exact this
def rSumT (K : PySem.W.Frag) : List V → Hp → VK → Prop := fun vs H Q => ∃ (a : Addr) (ns : List Int), vs = [V.ref a] ∧ SqT K H a (ns.map V.int) ∧ Q (.int ns.sum) H
theorem cr_sumT (hc : X.calm = true) : CallR X (.builtin "sum") (rSumT X.K) := by
  intro pins s σ H vs us Q I r h
  obtain ⟨a, ns, rfl, hs, q⟩ := h
  obtain ⟨its, rv, hl, _⟩ := I.tuple hs
  rw [Vals.ref1 r]
  exact sum_tup (I.ok.hd hc) hl rv.ints fun h' tk t' hk => ⟨.int _, H, I.kept hk, ⟨_, rfl⟩, q⟩
def BSum : BC := fun ds M P => ∃ (d : D) (ns : List Int), ds = [d] ∧ (d = .tup (ns.map D.int) ∨ ∃ a, d = .ref a ∧ M a = some (.lst (ns.map D.int))) ∧ P (.int ns.sum) M
theorem CallR.or {f : Value} {r r' : List V → Hp → VK → Prop} (h : CallR X f r) (h' : CallR X f r') : CallR X f (fun x H Q => r x H Q ∨ r' x H Q) := by
  intro pins s σ H xs us Q I r q
  rcases q with q | q
  · exact h pins s σ H xs us Q I r q
  · exact h' pins s σ H xs us Q I r q
theorem cd_sum (hc : X.calm = true) : CaD X (.builtin "sum") BSum := .of ((cr_sum hc).or (cr_sumT hc)) fun H ds xs M P r hm ⟨d, ns, e, h, p⟩ => by
  subst e
  obtain ⟨v, rfl, q1⟩ := one_of r
  revert q1
  clear r
  intro r
  rcases h with e | ⟨a, e, ha⟩
  · subst e
    obtain ⟨a, xs, rfl, h1, h2⟩ := rI_t r
    have e4 := IsL.of_ints h2
    subst e4
    exact .inr ⟨a, ns, rfl, SqT.of h1, fin (.int _) hm p⟩
  · subst e
    cases r
    obtain ⟨xs, h1, h2⟩ := hm a _ ha
    have e4 := IsL.of_ints h2
    subst e4
    exact .inl ⟨a, ns, rfl, SqL.of h1, fin (.int _) hm p⟩
/-! ### own defs -/
abbrev XD := Value → Option Addr → Mem → Prop
/-- a def's promise by data -/
abbrev DSp := List D → Mem → PD → XD → Prop
def lift (sp : DSp) : Sp := fun vs H Q E => ∃ ds M P R, IsL H ds vs ∧ RelM H M ∧ sp ds M P R ∧ (∀ v H', PostE H P v H' → Q v H') ∧ ∀ cls d H' M', Tx H H' → RelM H' M' → R cls d M' → E cls d H'
abbrev R0 : XD := fun _ _ _ => False
structure DefOk (P : Program) (w : World) (K : PySem.W.Frag) (mg : Str → Option Value) (base : Heap) (CX : CXT) (k : Nat) (x : Str) (ps : List Str) (sp : DSp) : Prop where
  ex : ∃ f fd, mg x = some (.ref f) ∧ PySem.W.keepIn K (.ref f) = true ∧ Binds K fd ps [] ∧ FnOk P w K mg base CX k f fd ps (lift sp)
structure MethOk (P : Program) (w : World) (K : PySem.W.Frag) (mg : Str → Option Value) (base : Heap) (CX : CXT) (k : Nat) (C : Addr) (m : Str) (ps : List Str) (sp : DSp) : Prop where
  ex : ∃ f fd, Meth K C m f ∧ Binds K fd ps [] ∧ FnOk P w K mg base CX k f fd ps (lift sp)
structure MkOk (P : Program) (w : World) (K : PySem.W.Frag) (mg : Str → Option Value) (base : Heap) (CX : CXT) (k : Nat) (x : Str) (C : Addr) (ps : List Str) (sp : DSp) : Prop where
  ex : ∃ f fd, mg x = some (.ref C) ∧ Mk K C f ∧ Binds K fd ps [] ∧ FnOk P w K mg base CX k f fd ps (lift sp)
theorem liftE {sp : DSp} {E : XK} (Q : VK) {ds : List D} {vs : List V} {H0 : Hp} (t : Tx H0 H) (r : IsL H ds vs) (hm : RelM H M) (h : sp ds M P R0) (k : ∀ v H', PostE H0 P v H' → Q v H') : lift sp vs H Q E :=
  ⟨ds, M, P, R0, r, hm, h, fun v H' ⟨d, M', t', r', m', p'⟩ => k v H' ⟨d, M', t.trans t', r', m', p'⟩, fun _ _ _ _ _ _ z => z.elim⟩
theorem we_call {k j : Nat} {ps : List Str} {sp : DSp} (G : DefOk X.prog X.w X.K X.mg X.base CX0 k x ps sp) (hr : Room j X.A) (h : WA X (e :: es) Γ M fun ds M1 => sp ds M1 P R0) (hk : k ≤ j := by decide) (hg : Gl X x := by rfl)
    (hdb : (x == ("__debug__" : Str)) = false := by decide) (he : starEach (e :: es) X.env = (false, eval e X.env) :: starEach es X.env := by rfl) (hpl : (backTo pos (starEach es X.env)).any (·.1) = false := by rfl) : WE X (.Call (.Name x p) (e :: es) [] pos) Γ M P := by
  obtain ⟨f, fd, g1, g2, g3, g4⟩ := G.ex
  refine we_of (pe_call (E := E0) g4 (hr.mono hk) hg g1 g2 g3 .nil pass0 pa_w hdb he hpl) fun σ H hs hm => twa h hs hm fun vs H1 ds M1 t r m p => ?_
  show lift sp (vs ++ []) H1 _ _
  rw [List.append_nil]
  exact liftE _ t r m p fun _ _ z => z
theorem we_call0 {k j : Nat} {ps : List Str} {sp : DSp} (G : DefOk X.prog X.w X.K X.mg X.base CX0 k x ps sp) (hr : Room j X.A) (h : sp [] M P R0) (hk : k ≤ j := by decide) (hg : Gl X x := by rfl)
    (hdb : (x == ("__debug__" : Str)) = false := by decide) : WE X (.Call (.Name x p) [] [] pos) Γ M P := by
  obtain ⟨f, fd, g1, g2, g3, g4⟩ := G.ex
  exact we_of (pe_call0 (E := E0) g4 (hr.mono hk) hg g1 g2 g3 .nil pass0 hdb) fun σ H hs hm => liftE _ (Tx.refl H) .nil hm h fun _ _ z => z
theorem lookup_of {κ : Type} [BEq κ] : ∀ {l : List (κ × D)} {xs : List (κ × V)} (k : κ), IsKV H l xs → (∀ d, l.lookup k = some d → ∃ v, xs.lookup k = some v ∧ Is H d v) ∧ (l.lookup k = none → xs.lookup k = none)
  | _, _, k, .nil => ⟨fun d e => (nomatch (show (none : Option D) = some d from e)), fun _ => rfl⟩
  | (k1, d1) :: l, (k2, v2) :: xs, k, .cons ⟨e, r⟩ t => by
    have e : k1 = k2 := e
    subst e
    obtain ⟨h1, h2⟩ := lookup_of k t
    refine ⟨fun d q => ?_, fun q => ?_⟩
    · rw [List.lookup_cons] at q ⊢
      cases b : k == k1 with
      | true =>
        rw [b] at q
        cases q
        exact ⟨_, rfl, r⟩
      | false =>
        rw [b] at q
        exact h1 d q
    · rw [List.lookup_cons] at q ⊢
      cases b : k == k1 with
      | true => rw [b] at q; cases q
      | false =>
        rw [b] at q
        exact h2 q
theorem we_meth {k j : Nat} {C : Addr} {m : Str} {ps : List Str} {sp : DSp} {apos : Pos} {pl : Sem Bool} (G : MethOk X.prog X.w X.K X.mg X.base CX0 k C m ps sp) (cl : Cls X.K C) (hr : Room j X.A)
    (h : WE X o Γ M fun d M1 => ∃ a fs, d = .ref a ∧ M1 a = some (.ins C fs) ∧ fs.lookup m = none ∧ WA X (e :: es) Γ M1 fun ds M2 => sp (.ref a :: ds) M2 P R0) (hk : k ≤ j := by decide)
    (hst : starEach (e :: es) X.env = (false, eval e X.env) :: starEach es X.env := by rfl) (hpl : (backTo pos (starEach es X.env)).any (·.1) = false := by rfl)
    (ht : eval (.Call (.Attribute o m apos) (e :: es) [] pos) X.env = (do
      let ov ← eval o X.env
      standAt apos.atName
      let (f, first) ← holding [ov] (getMethod ov m pl)
      callWith pos f first (backTo pos (starEach (e :: es) X.env)) (backToKw pos (keywordEach [] X.env))) := by rfl) : WE X (.Call (.Attribute o m apos) (e :: es) [] pos) Γ M P := by
  obtain ⟨f, fd, g1, g2, g3⟩ := G.ex
  refine we_of (pe_meth (E := E0) pe_w cl g1 g3 (hr.mono hk) g2 .nil pass0 pa_w hst hpl ht) fun σ H hs hm => tw h hs hm fun v H1 d M1 t r m ⟨a, fs, ed, ha, hl, p⟩ => ?_
  subst ed
  cases r
  obtain ⟨dx, us, h1, h2⟩ := m a _ ha
  refine ⟨a, dx, us, rfl, h1, (lookup_of _ h2).2 hl, twa p (hs.mono t) m fun vs H2 ds M2 t2 r2 m2 p2 => ?_⟩
  show lift sp (.ref a :: (vs ++ [])) H2 _ _
  rw [List.append_nil]
  exact liftE _ (t.trans t2) (.cons (.ref a) r2) m2 p2 fun _ _ z => z
theorem we_meth0 {k j : Nat} {C : Addr} {m : Str} {ps : List Str} {sp : DSp} {apos : Pos} {pl : Sem Bool} (G : MethOk X.prog X.w X.K X.mg X.base CX0 k C m ps sp) (cl : Cls X.K C) (hr : Room j X.A)
    (h : WE X o Γ M fun d M1 => ∃ a fs, d = .ref a ∧ M1 a = some (.ins C fs) ∧ fs.lookup m = none ∧ sp [.ref a] M1 P R0) (hk : k ≤ j := by decide)
    (ht : eval (.Call (.Attribute o m apos) [] [] pos) X.env = (do
      let ov ← eval o X.env
      standAt apos.atName
      let (f, first) ← holding [ov] (getMethod ov m pl)
      callWith pos f first (backTo pos (starEach [] X.env)) (backToKw pos (keywordEach [] X.env))) := by rfl) : WE X (.Call (.Attribute o m apos) [] [] pos) Γ M P := by
  obtain ⟨f, fd, g1, g2, g3⟩ := G.ex
  refine we_of (pe_meth0 (E := E0) pe_w cl g1 g3 (hr.mono hk) g2 .nil pass0 ht) fun σ H hs hm => tw h hs hm fun v H1 d M1 t r m ⟨a, fs, ed, ha, hl, p⟩ => ?_
  subst ed
  cases r
  obtain ⟨dx, us, h1, h2⟩ := m a _ ha
  exact ⟨a, dx, us, rfl, h1, (lookup_of _ h2).2 hl, liftE _ t (.cons (.ref a) .nil) m p fun _ _ z => z⟩
theorem made_rel {x dx C : Addr} (hm : RelM H M) (hx : H x = none) (hd : H dx = none) (ne : dx ≠ x) : Tx H (upd (upd H dx (.own x)) x (.ins C dx [])) ∧ RelM (upd (upd H dx (.own x)) x (.ins C dx [])) (put M x (.ins C [])) := by
  have h1 : (upd H dx (.own x)) x = none := by rw [upd_ne (Ne.symm ne)]; exact hx
  exact ⟨(Tx.new hd).trans (Tx.new h1), (hm.fresh hd).new h1 (show MOk _ _ (.ins C []) from ⟨dx, [], upd_same, .nil⟩)⟩
theorem we_make {k j : Nat} {C : Addr} {ps : List Str} {sp : DSp} (G : MkOk X.prog X.w X.K X.mg X.base CX0 k x C ps sp) (hr : Room j X.A) (h : WA X (e :: es) Γ M fun ds M1 => ∀ a, M1 a = none → sp (.ref a :: ds) (put M1 a (.ins C [])) (fun d M2 => d = .non ∧ P (.ref a) M2) R0) (hk : k + 1 ≤ j := by decide) (hg : Gl X x := by rfl)
    (hdb : (x == ("__debug__" : Str)) = false := by decide) (he : starEach (e :: es) X.env = (false, eval e X.env) :: starEach es X.env := by rfl) (hpl : (backTo pos (starEach es X.env)).any (·.1) = false := by rfl) : WE X (.Call (.Name x p) (e :: es) [] pos) Γ M P := by
  obtain ⟨f, fd, g1, g2, g3, g4⟩ := G.ex
  refine we_of (pe_make (E := E0) g2 g4 (hr.mono hk) hg g1 g3 .nil pass0 pa_w hdb he hpl) fun σ H hs hm => twa h hs hm fun vs H1 ds M1 t r m p => ?_
  intro x dx hx hd ne
  show lift sp (.ref x :: (vs ++ [])) _ _ _
  rw [List.append_nil]
  obtain ⟨t1, m1⟩ := made_rel (C := C) m hx hd ne
  refine liftE _ (t.trans t1) (.cons (.ref x) (r.mono t1)) m1 (p x (m.free hx)) fun v H' ⟨d, M', t', r', m', e', p'⟩ => ?_
  subst e'
  cases r'
  exact ⟨rfl, .ref x, M', t', .ref x, m', p'⟩
/-! ### attributes -/
theorem we_attr {f : Str} (h : WE X o Γ M fun d M1 => ∃ a C fs y, d = .ref a ∧ M1 a = some (.ins C fs) ∧ Cls X.K C ∧ NoAttr X.K C f ∧ fs.lookup f = some y ∧ P y M1) (hb : attributeBase o f X.env (eval o X.env) = eval o X.env := by rfl) : WE X (.Attribute o f pos) Γ M P :=
  we_of (pe_fld pe_w hb) fun σ H hs hm => tw h hs hm fun v H1 d M1 t r m ⟨a, C, fs, y, ed, ha, cl, na, hl, p⟩ => by
    subst ed
    cases r
    obtain ⟨dx, us, h1, h2⟩ := m a _ ha
    obtain ⟨u, hu, ru⟩ := (lookup_of _ h2).1 _ hl
    exact ⟨a, C, dx, us, u, rfl, h1, cl, na, hu, y, M1, t, ru, m, p⟩
/-! ### a list's methods -/
theorem ml {K : PySem.W.Frag} {a : Addr} {l : List D} (hm : RelM H M) (h : M a = some (.lst l)) : ∃ xs, H a = some (.lst xs) ∧ IsL H l xs ∧ tyV K "list" (.ref a) H := by
  obtain ⟨xs, h1, h2⟩ := hm a _ h
  exact ⟨xs, h1, h2, .inl ⟨rfl, xs, SqL.of h1⟩⟩
theorem set_lst {a : Addr} {l' : List D} {xs xs' : List V} {d : D} {v : V} (hm : RelM H M) (h1 : H a = some (.lst xs)) (r : IsL H l' xs') (rd : Is H d v) (p : P d (put M a (.lst l'))) : PostE H P v (upd H a (.lst xs')) :=
  fin_set h1 (fun _ z => by cases z) (fun _ _ z => by cases z) rd hm (show MOk _ _ (.lst l') from ⟨xs', upd_same, r.mono (Tx.mut h1 (fun _ z => by cases z) (fun _ _ z => by cases z))⟩) p
theorem PostE.tr {H0 : Hp} {v : V} {H' : Hp} (t : Tx H0 H) (h : PostE H P v H') : PostE H0 P v H' := let ⟨d, M', t', r', m', p'⟩ := h; ⟨d, M', t.trans t', r', m', p'⟩
theorem we_append {apos : Pos} (h : WE X o Γ M fun d M1 => ∃ a l, d = .ref a ∧ M1 a = some (.lst l) ∧ WE X e Γ M1 fun y M2 => ∃ l, M2 a = some (.lst l) ∧ l.length < sizeLine ∧ P .non (put M2 a (.lst (l ++ [y]))))
    (hbase : attributeBase o "append" X.env (eval o X.env) = eval o X.env := by rfl)
    (hfew : ((backTo pos (starEach [e] X.env)).all (fun x => !x.1) && (backToKw pos (keywordEach [] X.env)).all (fun x => x.1.isSome) && decide (([e] : List Expr).length + ([] : List Keyword).length + (if ([] : List Keyword).isEmpty then 0 else 1) < 30)) = true := by rfl)
    (hline : (apos.endLine == pos.line) = true := by rfl) (hs : starEach [e] X.env = (false, eval e X.env) :: starEach [] X.env := by rfl) (hplain : (backTo pos (starEach [] X.env)).any (·.1) = false := by rfl) : WE X (.Call (.Attribute o "append" apos) [e] [] pos) Γ M P :=
  we_of (pe_bm PySem.F.plainAttrs_list PySem.F.slot_list_append PySem.F.type_list_append mt_append pe_w (pa_cons pe_w pa_nil hs) hbase hfew hline hs hplain) fun σ H hs hm => tw h hs hm fun v H1 d M1 t r m ⟨a, l, ed, ha, p⟩ => by
    subst ed
    cases r
    obtain ⟨xs, _, _, ty⟩ := ml (K := X.K) m ha
    refine ⟨ty, tw p (hs.mono t) m fun v2 H2 d2 M2 t2 r2 m2 ⟨l2, hl2, hz, p2⟩ => ?_⟩
    obtain ⟨xs2, e2, i2, _⟩ := ml (K := X.K) m2 hl2
    exact ⟨a, xs2, v2, rfl, rfl, e2, by rw [← i2.length]; exact hz, (set_lst m2 e2 (i2.append (.cons r2 .nil)) .non p2).tr (t.trans t2)⟩
theorem we_pop {apos : Pos} (h : WE X o Γ M fun d M1 => ∃ a l y, d = .ref a ∧ M1 a = some (.lst l) ∧ l[l.length - 1]? = some y ∧ P y (put M1 a (.lst l.dropLast)))
    (hbase : attributeBase o "pop" X.env (eval o X.env) = eval o X.env := by rfl) (hline : (apos.endLine == pos.line) = true := by rfl) : WE X (.Call (.Attribute o "pop" apos) [] [] pos) Γ M P :=
  we_of (pe_bm0 PySem.F.plainAttrs_list PySem.F.slot_list_pop PySem.F.type_list_pop mt_pop pe_w hbase hline) fun σ H hs hm => tw h hs hm fun v H1 d M1 t r m ⟨a, l, y, ed, ha, hy, p⟩ => by
    subst ed
    cases r
    obtain ⟨xs, e2, i2, ty⟩ := ml (K := X.K) m ha
    obtain ⟨u, hu, ru⟩ := i2.get hy
    exact ⟨ty, a, xs, u, rfl, rfl, e2, by rw [← i2.length]; exact hu, (set_lst m e2 i2.dropLast ru p).tr t⟩
theorem we_popAt {apos : Pos} (h : WE X o Γ M fun d M1 => ∃ a l, d = .ref a ∧ M1 a = some (.lst l) ∧ WE X e Γ M1 fun i M2 => ∃ (l : List D) (k : Int) (j : Nat) (y : D), M2 a = some (.lst l) ∧ i = .int k ∧ k = (j : Int) ∧ j < 2 ^ 62 ∧ l[j]? = some y ∧ P y (put M2 a (.lst (l.eraseIdx j))))
    (hbase : attributeBase o "pop" X.env (eval o X.env) = eval o X.env := by rfl)
    (hfew : ((backTo pos (starEach [e] X.env)).all (fun x => !x.1) && (backToKw pos (keywordEach [] X.env)).all (fun x => x.1.isSome) && decide (([e] : List Expr).length + ([] : List Keyword).length + (if ([] : List Keyword).isEmpty then 0 else 1) < 30)) = true := by rfl)
    (hline : (apos.endLine == pos.line) = true := by rfl) (hs : starEach [e] X.env = (false, eval e X.env) :: starEach [] X.env := by rfl) (hplain : (backTo pos (starEach [] X.env)).any (·.1) = false := by rfl) : WE X (.Call (.Attribute o "pop" apos) [e] [] pos) Γ M P :=
  we_of (pe_bm PySem.F.plainAttrs_list PySem.F.slot_list_pop PySem.F.type_list_pop mt_popAt pe_w (pa_cons pe_w pa_nil hs) hbase hfew hline hs hplain) fun σ H hs hm => tw h hs hm fun v H1 d M1 t r m ⟨a, l, ed, ha, p⟩ => by
    subst ed
    cases r
    obtain ⟨xs, _, _, ty⟩ := ml (K := X.K) m ha
    refine ⟨ty, tw p (hs.mono t) m fun v2 H2 d2 M2 t2 r2 m2 ⟨l2, k, j, y, hl2, ei, ek, hj, hy, p2⟩ => ?_⟩
    subst ei
    cases r2
    obtain ⟨xs2, e2, i2, _⟩ := ml (K := X.K) m2 hl2
    obtain ⟨u, hu, ru⟩ := i2.get hy
    have hlt : j < xs2.length := (List.getElem?_eq_some_iff.mp hu).1
    exact ⟨a, xs2, k, j, u, rfl, rfl, e2, by omega, by omega, by rw [ek]; exact PySem.StrLaws.seqIndex_nonneg (by omega) (by omega), hu, (set_lst m2 e2 (i2.erase j) ru p2).tr (t.trans t2)⟩
end
end DL

set_option Elab.async false
set_option linter.all false
set_option maxRecDepth 100000
set_option maxHeartbeats 4000000
/-! DLe: dicts, targets, statements, by data. -/
namespace DL
open PySem PySem.Spec PyProof.Rows L2
/-! ### dicts by data -/
section
variable {κ : Type} [DecidableEq κ]
def valD (kvs : List (κ × D)) (k : κ) : Option D := (kvs.find? fun kv => decide (kv.1 = k)).map (·.2)
def putD (kvs : List (κ × D)) (k : κ) (v : D) : List (κ × D) :=
  if (kvs.any fun kv => decide (kv.1 = k)) = true then kvs.map (fun kv => if kv.1 = k then (kv.1, v) else kv) else kvs ++ [(k, v)]
theorem valD_pos {p : κ × D} {r : List (κ × D)} {k : κ} (e : p.1 = k) : valD (p :: r) k = some p.2 := by simp [valD, List.find?_cons, e]
theorem valD_neg {p : κ × D} {r : List (κ × D)} {k : κ} (e : ¬ p.1 = k) : valD (p :: r) k = valD r k := by simp [valD, List.find?_cons, e]
theorem valD_any (k : κ) : ∀ kvs : List (κ × D), (kvs.any fun kv => decide (kv.1 = k)) = (valD kvs k).isSome
  | [] => rfl
  | p :: r => by
    rw [List.any_cons]
    by_cases e : p.1 = k
    · simp only [valD_pos e, decide_eq_true e, Bool.true_or, Option.isSome_some]
    · rw [valD_neg e, decide_eq_false e, Bool.false_or]; exact valD_any k r
theorem valD_map (k j : κ) (y : D) : ∀ kvs : List (κ × D), valD (kvs.map fun kv => if kv.1 = k then (kv.1, y) else kv) j = (valD kvs j).map fun x => if j = k then y else x
  | [] => rfl
  | p :: r => by
    have ih := valD_map k j y r
    rw [List.map_cons]
    by_cases e : p.1 = k
    · rw [if_pos e]
      by_cases q : p.1 = j
      · rw [valD_pos (p := (p.1, y)) q, valD_pos q]
        have : j = k := q.symm.trans e
        simp [this]
      · rw [valD_neg (p := (p.1, y)) q, valD_neg q]
        exact ih
    · rw [if_neg e]
      by_cases q : p.1 = j
      · rw [valD_pos q, valD_pos q]
        have : ¬ j = k := fun z => e (q.trans z)
        simp [this]
      · rw [valD_neg q, valD_neg q]
        exact ih
theorem valD_snoc (k j : κ) (y : D) : ∀ kvs : List (κ × D), valD kvs k = none → valD (kvs ++ [(k, y)]) j = if j = k then some y else valD kvs j
  | [], _ => by
    by_cases e : k = j
    · rw [if_pos e.symm]; exact valD_pos (p := (k, y)) e
    · rw [if_neg (Ne.symm e)]; exact valD_neg (p := (k, y)) e
  | p :: r, h => by
    by_cases q : p.1 = k
    · rw [valD_pos q] at h; cases h
    · rw [valD_neg q] at h
      rw [List.cons_append]
      by_cases q2 : p.1 = j
      · rw [valD_pos q2, valD_pos q2]
        have : ¬ j = k := fun z => q (q2.trans z)
        rw [if_neg this]
      · rw [valD_neg q2, valD_neg q2]
        exact valD_snoc k j y r h
theorem valD_put (kvs : List (κ × D)) (k j : κ) (y : D) : valD (putD kvs k y) j = if j = k then some y else valD kvs j := by
  unfold putD
  rw [valD_any]
  cases e : valD kvs k with
  | none =>
    rw [if_neg (by simp)]
    exact valD_snoc k j y kvs e
  | some x =>
    rw [if_pos (by simp), valD_map]
    by_cases q : j = k
    · subst q
      rw [e, if_pos rfl]
      simp
    · rw [if_neg q]
      cases valD kvs j <;> simp [q]
variable {H : Hp}
theorem IsKV.val {l : List (κ × D)} {xs : List (κ × V)} (k : κ) (h : IsKV H l xs) : (∀ d, valD l k = some d → ∃ v, valV xs k = some v ∧ Is H d v) ∧ (valD l k = none → valV xs k = none) := by
  induction h with
  | nil => exact ⟨fun d e => (nomatch (show (none : Option D) = some d from e)), fun _ => rfl⟩
  | cons r t ih =>
    rename_i p q l xs
    obtain ⟨e, r⟩ := r
    by_cases z : p.1 = k
    · rw [valD_pos z, valV_pos (e ▸ z)]
      exact ⟨fun d q => by cases q; exact ⟨_, rfl, r⟩, fun q => by cases q⟩
    · rw [valD_neg z, valV_neg (e ▸ z)]
      exact ih
theorem IsKV.put {l : List (κ × D)} {xs : List (κ × V)} {k : κ} {d : D} {v : V} (h : IsKV H l xs) (r : Is H d v) : IsKV H (putD l k d) (putK xs k v) := by
  have ea : (l.any fun kv => decide (kv.1 = k)) = (xs.any fun kv => decide (kv.1 = k)) := by
    induction h with
    | nil => rfl
    | cons r t ih =>
      obtain ⟨e, _⟩ := r
      rw [List.any_cons, List.any_cons, ih, e]
  unfold putD putK
  rw [ea]
  by_cases z : (xs.any fun kv => decide (kv.1 = k)) = true
  · rw [if_pos z, if_pos z]
    clear ea z
    induction h with
    | nil => exact .nil
    | cons r1 t ih =>
      rename_i p q l xs
      obtain ⟨e, r1⟩ := r1
      refine .cons ?_ ih
      show (if p.1 = k then (p.1, d) else p).1 = (if q.1 = k then (q.1, v) else q).1 ∧ Is H (if p.1 = k then (p.1, d) else p).2 (if q.1 = k then (q.1, v) else q).2
      by_cases y : p.1 = k
      · rw [if_pos y, if_pos (e ▸ y)]
        exact ⟨e, r⟩
      · rw [if_neg y, if_neg (e ▸ y)]
        exact ⟨e, r1⟩
  · rw [if_neg z, if_neg z]
    clear ea z
    induction h with
    | nil => exact .cons ⟨rfl, r⟩ .nil
    | cons r1 t ih => exact .cons r1 ih
theorem putD_len (kvs : List (κ × D)) (k : κ) (y : D) : (putD kvs k y).length ≤ kvs.length + 1 := by
  unfold putD
  split
  · rw [List.length_map]; omega
  · rw [List.length_append]; exact Nat.le_refl _
end
def kD : Key → D
  | .inl i => .int i
  | .inr s => .str s
theorem kD_of {H : Hp} {k : Key} {v : V} (r : Is H (kD k) v) : v = kV k := by
  cases k with
  | inl i => cases (show Is H (.int i) v from r); rfl
  | inr i => cases (show Is H (.str i) v from r); rfl
theorem kDs_of {H : Hp} : ∀ {ks : List Key} {vs : List V}, IsL H (ks.map kD) vs → vs = ks.map kV
  | [], _, .nil => rfl
  | k :: r, _, .cons h t => by rw [kD_of h, kDs_of t, List.map_cons]
/-- what the dict at a has for y -/
def DGetD (M : Mem) (a : Addr) (y : D) (o : Option D) : Prop := (∃ kvs k, M a = some (.dK kvs) ∧ y = kD k ∧ o = valD kvs k) ∨ ∃ kvs ks, M a = some (.dT kvs) ∧ y = .tup (ks.map kD) ∧ o = valD kvs ks
theorem DGetD.of {H : Hp} {M : Mem} {a : Addr} {y : D} {o : Option D} {yv : V} (h : DGetD M a y o) (hm : RelM H M) (r : Is H y yv) : ∃ ov, DGet H a yv ov ∧ (∀ d, o = some d → ∃ v, ov = some v ∧ Is H d v) ∧ (o = none → ov = none) := by
  rcases h with ⟨kvs, k, ha, e, eo⟩ | ⟨kvs, ks, ha, e, eo⟩
  · subst e eo
    obtain ⟨vs, h1, h2⟩ := hm a _ ha
    have e := kD_of r
    subst e
    exact ⟨_, DGet.k h1, h2.val k⟩
  · subst e eo
    obtain ⟨vs, h1, h2⟩ := hm a _ ha
    obtain ⟨b, xs, rfl, h3, h4⟩ := rI_t r
    have e := kDs_of h4
    subst e
    exact ⟨_, DGet.t h1 h3, h2.val ks⟩
def DPutD (M : Mem) (a : Addr) (y d : D) (M' : Mem) : Prop :=
  (∃ kvs k, M a = some (.dK kvs) ∧ y = kD k ∧ kvs.length < sizeLine ∧ M' = put M a (.dK (putD kvs k d))) ∨ ∃ kvs ks, M a = some (.dT kvs) ∧ y = .tup (ks.map kD) ∧ kvs.length < sizeLine ∧ M' = put M a (.dT (putD kvs ks d))
theorem DPutD.of {H : Hp} {M M' : Mem} {a : Addr} {y d : D} {yv v : V} (h : DPutD M a y d M') (hm : RelM H M) (r : Is H y yv) (rd : Is H d v) : ∃ H', DPut H a yv v H' ∧ Tx H H' ∧ RelM H' M' := by
  rcases h with ⟨kvs, k, ha, e, hl, eM⟩ | ⟨kvs, ks, ha, e, hl, eM⟩
  · subst e eM
    obtain ⟨vs, h1, h2⟩ := hm a _ ha
    have e := kD_of r
    subst e
    have T : ∀ o, Tx H (upd H a o) := fun o => Tx.mut h1 (fun _ z => by cases z) (fun _ _ z => by cases z)
    exact ⟨_, DPut.k h1 (by rw [← h2.length]; exact hl), T _, hm.set h1 (fun _ z => by cases z) (fun _ _ z => by cases z) (show MOk _ _ (.dK _) from ⟨_, upd_same, (h2.put rd).mono (T _)⟩)⟩
  · subst e eM
    obtain ⟨vs, h1, h2⟩ := hm a _ ha
    obtain ⟨b, xs, rfl, h3, h4⟩ := rI_t r
    have e := kDs_of h4
    subst e
    have T : ∀ o, Tx H (upd H a o) := fun o => Tx.mut h1 (fun _ z => by cases z) (fun _ _ z => by cases z)
    exact ⟨_, DPut.t h1 h3 (by rw [← h2.length]; exact hl), T _, hm.set h1 (fun _ z => by cases z) (fun _ _ z => by cases z) (show MOk _ _ (.dT _) from ⟨_, upd_same, (h2.put rd).mono (T _)⟩)⟩
section
variable {X : Cx} {H : Hp} {Γ : Sl} {M : Mem} {P : PD} {pos p : Pos} {e o i : Expr} {es : List Expr} {x : Str} {PT' : Bool → Mem → Prop}
theorem we_dget (hu : X.A.units + 1 < cLine) (h : WE X o Γ M fun x M1 => WE X i Γ M1 fun y M2 => ∃ a d, x = .ref a ∧ DGetD M2 a y (some d) ∧ P d M2) (hs : NoSl i := by exact fun _ _ => rfl) : WE X (.Subscript o i pos) Γ M P :=
  we_of (pe_dget hu pe_w pe_w hs) fun σ H hs hm => tw h hs hm fun v H1 d M1 t r m p => tw p (hs.mono t) m fun v2 H2 d2 M2 t2 r2 m2 ⟨a, d3, e, g, p2⟩ => by
    subst e
    cases r
    obtain ⟨ov, g', k1, _⟩ := g.of m2 r2
    obtain ⟨w, e, rw'⟩ := k1 _ rfl
    subst e
    exact ⟨a, w, rfl, g', d3, M2, t.trans t2, rw', m2, p2⟩
theorem we_din (hu : X.A.units + 1 < cLine) (h : WE X i Γ M fun y M1 => WE X o Γ M1 fun x M2 => ∃ a r, x = .ref a ∧ DGetD M2 a y r ∧ P (.bl r.isSome) M2) (hm : behindInMarks .In o = false := by first | exact nomark _ | rfl) : WE X (.Compare i [.In] [o] pos) Γ M P :=
  we_of (pe_cmp (pc_din hu pe_w pe_w) hm) fun σ H hs hm => tw h hs hm fun v H1 d M1 t r m p => tw p (hs.mono t) m fun v2 H2 d2 M2 t2 r2 m2 ⟨a, o', e, g, p2⟩ => by
    subst e
    cases r2
    obtain ⟨ov, g', k1, k2⟩ := g.of m2 (r.mono t2)
    refine ⟨a, ov, rfl, g', .bl o'.isSome, M2, t.trans t2, ?_, m2, p2⟩
    cases o' with
    | none => rw [k2 rfl]; exact .bl _
    | some d' =>
      obtain ⟨w, e, _⟩ := k1 _ rfl
      rw [e]; exact .bl _
def IsDD (M : Mem) (a : Addr) : Prop := (∃ kvs, M a = some (.dK kvs)) ∨ ∃ kvs, M a = some (.dT kvs)
theorem IsDD.of {a : Addr} (h : IsDD M a) (hm : RelM H M) : IsD H a := by
  rcases h with ⟨kvs, h⟩ | ⟨kvs, h⟩
  · obtain ⟨vs, h1, _⟩ := hm _ _ h
    exact .inl ⟨vs, .inl h1⟩
  · obtain ⟨vs, h1, _⟩ := hm _ _ h
    exact .inr ⟨vs, .inl h1⟩
theorem we_dget2 {f : Expr} {apos : Pos} (hu : X.A.units + 1 < cLine) (h : WE X o Γ M fun x M1 => ∃ a, x = .ref a ∧ IsDD M1 a ∧ WE X e Γ M1 fun y M2 => WE X f Γ M2 fun z M3 => ∃ r, DGetD M3 a y r ∧ P (r.getD z) M3)
    (m : M2 X o "get" apos e f pos := by exact ⟨rfl, rfl, rfl, rfl⟩) : WE X (.Call (.Attribute o "get" apos) [e, f] [] pos) Γ M P :=
  we_of (pe_dget2 hu pe_w pe_w pe_w m) fun σ H hs hm => tw h hs hm fun v H1 d M1 t r m ⟨a, ed, dd, p⟩ => by
    subst ed
    cases r
    refine ⟨a, rfl, dd.of m, tw p (hs.mono t) m fun v2 H2 d2 M2 t2 r2 m2 p2 => tw p2 ((hs.mono t).mono t2) m2 fun v3 H3 d3 M3 t3 r3 m3 ⟨o', g, p3⟩ => ?_⟩
    obtain ⟨ov, g', k1, k2⟩ := g.of m3 (r2.mono t3)
    refine ⟨ov, g', o'.getD d3, M3, (t.trans t2).trans t3, ?_, m3, p3⟩
    cases o' with
    | none => rw [k2 rfl]; exact r3
    | some d' =>
      obtain ⟨w, e, rw'⟩ := k1 _ rfl
      rw [e]; exact rw'
theorem we_dnewK (k : ∀ q, M q = none → P (.ref q) (put M q (.dK []))) : WE X (.Dict [] [] pos) Γ M P :=
  we_of pe_dnewK fun σ H hs hm => fun q hq => ⟨.ref q, _, Tx.new hq, .ref q, hm.new hq (show MOk _ _ (.dK []) from ⟨[], upd_same, .nil⟩), k q (hm.free hq)⟩
theorem we_dnewT (k : ∀ q, M q = none → P (.ref q) (put M q (.dT []))) : WE X (.Dict [] [] pos) Γ M P :=
  we_of pe_dnewT fun σ H hs hm => fun q hq => ⟨.ref q, _, Tx.new hq, .ref q, hm.new hq (show MOk _ _ (.dT []) from ⟨[], upd_same, .nil⟩), k q (hm.free hq)⟩
/-- the pairs of a display, one after another -/
def WPs (X : Cx) (Γ : Sl) : List (Option Expr) → List Expr → Mem → (List (D × D) → Mem → Prop) → Prop
  | some k :: ks, v :: vs, M, Q => WE X k Γ M fun x M1 => WE X v Γ M1 fun y M2 => WPs X Γ ks vs M2 fun r M3 => Q ((x, y) :: r) M3
  | [], [], M, Q => Q [] M
  | _, _, _, _ => False
def trsW (X : Cx) : List (Option Expr) → List Expr → List (TE × TE)
  | some k :: ks, v :: vs => (tW X k, tW X v) :: trsW X ks vs
  | _, _ => []
def allSome : List (Option Expr) → List Expr → Bool
  | some _ :: ks, _ :: vs => allSome ks vs
  | [], [] => true
  | _, _ => false
theorem pps_w : ∀ {ks : List (Option Expr)} {vs : List Expr}, allSome ks vs = true → PPs X pos ks vs (trsW X ks vs)
  | [], [], _ => pps_nil
  | some k :: ks, v :: vs, h => pps_cons pe_w pe_w (pps_w (ks := ks) (vs := vs) h)
  | [], _ :: _, h => by cases h
  | none :: _, _, h => by cases h
  | some _ :: _, [], h => by cases h
def IsLL (H : Hp) (l : List (D × D)) (xs : List (V × V)) : Prop := Paired (fun (p : D × D) (q : V × V) => Is H p.1 q.1 ∧ Is H p.2 q.2) l xs
theorem pairs_w {σ : L2.St} : ∀ {ks : List (Option Expr)} {vs : List Expr} {H : Hp} {M : Mem} {Q : List (D × D) → Mem → Prop} {Q' : List (V × V) → Hp → Prop}, WPs X Γ ks vs M Q → SIs H σ Γ → RelM H M →
    (∀ l xs H' M', Tx H H' → IsLL H' l xs → RelM H' M' → Q l M' → Q' xs H') → tPairs (trsW X ks vs) σ H Q'
  | [], [], H, M, Q, Q', h, hs, hm, k => k [] [] H M (Tx.refl H) .nil hm h
  | some e :: ks, v :: vs, H, M, Q, Q', h, hs, hm, k => tw h hs hm fun v1 H1 d1 M1 t1 r1 m1 p1 => tw p1 (hs.mono t1) m1 fun v2 H2 d2 M2 t2 r2 m2 p2 =>
    pairs_w p2 ((hs.mono t1).mono t2) m2 fun l xs H3 M3 t3 r3 m3 p3 => k _ _ H3 M3 ((t1.trans t2).trans t3) (.cons ⟨(r1.mono t2).mono t3, r2.mono t3⟩ r3) m3 p3
  | [], _ :: _, _, _, _, _, h, _, _, _ => False.elim h
  | none :: _, _, _, _, _, _, h, _, _, _ => by cases h
  | some _ :: _, [], _, _, _, _, h, _, _, _ => by cases h
def mergeD (kvs more : List (Key × D)) : List (Key × D) := more.foldl (fun acc kv => putD acc kv.1 kv.2) kvs
theorem merge_of {H : Hp} : ∀ {more : List (Key × D)} {ms : List (Key × V)} {kvs : List (Key × D)} {vs : List (Key × V)}, IsKV H kvs vs → IsKV H more ms → IsKV H (mergeD kvs more) (mergeK vs ms)
  | _, _, _, _, h, .nil => h
  | (k, d) :: more, (k2, v) :: ms, kvs, vs, h, .cons ⟨e, r⟩ t => by
    have e : k = k2 := e
    subst e
    exact merge_of (kvs := putD kvs k d) (vs := putK vs k v) (h.put r) t
theorem pairs_kv {H : Hp} : ∀ {kvs : List (Key × D)} {xs : List (V × V)}, IsLL H (kvs.map fun kv => (kD kv.1, kv.2)) xs → ∃ vs : List (Key × V), xs = vs.map (fun kv => (kV kv.1, kv.2)) ∧ IsKV H kvs vs
  | [], _, .nil => ⟨[], rfl, .nil⟩
  | (k, d) :: r, (a, b) :: xs, .cons ⟨h1, h2⟩ t => by
    obtain ⟨vs, e, q⟩ := pairs_kv t
    have e1 := kD_of (show Is H (kD k) a from h1)
    subst e e1
    exact ⟨(k, b) :: vs, rfl, .cons ⟨rfl, h2⟩ q⟩
/-- {k: v, ..} -/
theorem we_disp {keys : List (Option Expr)} {values : List Expr} (h : ∀ q, M q = none → WPs X Γ keys values (put M q (.dK [])) fun ps M2 => M2 q = some (.dK []) ∧ ∃ kvs : List (Key × D), ps = kvs.map (fun kv => (kD kv.1, kv.2)) ∧ kvs.length ≤ 15 ∧ P (.ref q) (put M2 q (.dK (mergeD [] kvs))))
    (ha : allSome keys values = true := by rfl) (hall : keys.all (·.isSome) = true := by rfl) (hl : keys.length = values.length := by rfl) (h0 : keys ≠ [] := by exact fun z => by cases z) (h15 : keys.length ≤ 15 := by decide) : WE X (.Dict keys values pos) Γ M P :=
  we_of (pe_disp (pps_w ha) hall hl h0 h15) fun σ H hs hm => fun q hq => by
    have m1 : RelM (upd H q (.dK [])) (put M q (.dK [])) := hm.new hq (show MOk _ _ (.dK []) from ⟨[], upd_same, .nil⟩)
    refine pairs_w (h q (hm.free hq)) (hs.mono (Tx.new hq)) m1 fun l xs H' M' t r m ⟨e, kvs, ek, hz, p⟩ => ?_
    subst ek
    obtain ⟨vs, e1, r1⟩ := pairs_kv r
    subst e1
    obtain ⟨ws, h1, h2⟩ := m q _ e
    cases h2
    have T : ∀ o, Tx H' (upd H' q o) := fun o => Tx.mut h1 (fun _ z => by cases z) (fun _ _ z => by cases z)
    refine ⟨h1, vs, rfl, by rw [← r1.length]; exact hz, .ref q, _, ((Tx.new hq).trans t).trans (T _), .ref q, m.set h1 (fun _ z => by cases z) (fun _ _ z => by cases z) (show MOk _ _ (.dK (mergeD [] kvs)) from ⟨_, upd_same, (merge_of .nil r1).mono (T _)⟩), p⟩
/-! ### targets -/
theorem wg_name (i : Nat) {x : Str} {d : D} {P : Sl → Mem → Prop} (nd : X.N.Nodup) (k : P (Γ.set i (some d)) M) (hi : X.N[i]? = some x := by rfl) (hx : Loc X.env.scope x := by first | exact Or.inl rfl | exact Or.inr rfl)
    (hf : X.fn x = true ∨ X.env.scope.names.lookup x = some .local := by first | exact .inl rfl | exact .inr rfl) : WG X (.Name x pos) d Γ M P :=
  wg_of (pg_name nd hi hx hf) fun v σ H r hs hm => ⟨_, M, Tx.refl H, hs.set r, hm, k⟩
theorem wgs_nil {P : Sl → Mem → Prop} (k : P Γ M) : WGs X [] [] Γ M P := wgs_of pgs_nil fun vs σ H r hs hm => by
  cases r
  exact ⟨rfl, Γ, M, Tx.refl H, hs, hm, k⟩
theorem wgs_cons {P : Sl → Mem → Prop} {d : D} {ds : List D} (h : WG X e d Γ M fun Γ1 M1 => WGs X es ds Γ1 M1 P) (hs : (assignEach (e :: es) X.env).map (·.2) = assign e X.env :: (assignEach es X.env).map (·.2) := by rfl) : WGs X (e :: es) (d :: ds) Γ M P :=
  wgs_of (pgs_cons pg_w pgs_w hs) fun vs σ H r hs hm => by
    cases r with
    | cons r1 r2 =>
      exact ⟨_, _, rfl, d, Γ, M, _, r1, hs, hm, h, fun σ1 H1 ⟨Γ1, M1, t1, s1, m1, p1⟩ => ⟨ds, Γ1, M1, P, r2.mono t1, s1, m1, p1, fun σ2 H2 ⟨Γ2, M2, t2, s2, m2, p2⟩ => ⟨Γ2, M2, t1.trans t2, s2, m2, p2⟩⟩⟩
theorem wg_tup {P : Sl → Mem → Prop} {ds : List D} {k : Nat} {n : Nat} (hc : X.calm = true) (hl : ds.length = n) (h : WGs X es ds Γ M P) (hn : (assignEach es X.env).length = n := by rfl) (hst : (assignEach es X.env).findIdx? (·.1) = none := by rfl) : WG X (.Tuple es k pos) (.tup ds) Γ M P :=
  wg_of (pg_tup hc pgs_w hn hst) fun v σ H r hs hm => by
    obtain ⟨a, xs, rfl, h1, h2⟩ := rI_t r
    exact ⟨a, xs, rfl, SqT.of h1, by rw [← h2.length]; exact hl, ds, Γ, M, P, h2, hs, hm, h, fun _ _ z => z⟩
theorem wg_lsub {P : Sl → Mem → Prop} {d : D} (h : WE X o Γ M fun x M1 => WE X i Γ M1 fun y M2 => ∃ a l j, x = .ref a ∧ M2 a = some (.lst l) ∧ y = .int (j : Nat) ∧ j < l.length ∧ P Γ (put M2 a (.lst (l.set j d))))
    (ha : ∀ v, assign (.Subscript o i pos) X.env v = (do
      let ov ← holding [v] (eval o X.env)
      let iv ← holding [v, ov] (eval i X.env)
      standAt pos
      holding [v, ov, iv] (setItem ov iv v)
      release [v, ov, iv] []) := by intro _; rfl) : WG X (.Subscript o i pos) d Γ M P :=
  wg_of (pg_sub pe_w pe_w set_list ha) fun v σ H r hs hm => tw h hs hm fun v1 H1 d1 M1 t1 r1 m1 p1 => tw p1 (hs.mono t1) m1 fun v2 H2 d2 M2 t2 r2 m2 ⟨a, l, j, e1, ha, e2, hj, p2⟩ => by
    subst e1 e2
    cases r1
    cases r2
    obtain ⟨xs, h1, h2⟩ := m2 a _ ha
    have T : ∀ o, Tx H2 (upd H2 a o) := fun o => Tx.mut h1 (fun _ z => by cases z) (fun _ _ z => by cases z)
    refine ⟨a, xs, j, j, rfl, rfl, h1, ?_, Γ, _, (t1.trans t2).trans (T _), ((hs.mono t1).mono t2).mono (T _), m2.set h1 (fun _ z => by cases z) (fun _ _ z => by cases z) (show MOk _ _ (.lst (l.set j d)) from ⟨_, upd_same, (h2.set ((r.mono t1).mono t2) j).mono (T _)⟩), p2⟩
    unfold ixN
    rw [← h2.length, if_pos (by omega), if_pos (by omega)]
    simp
theorem wg_dsub {P : Sl → Mem → Prop} {d : D} (hu : X.A.units + 1 < cLine) (h : WE X o Γ M fun x M1 => WE X i Γ M1 fun y M2 => ∃ a M3, x = .ref a ∧ DPutD M2 a y d M3 ∧ P Γ M3)
    (ha : ∀ v, assign (.Subscript o i pos) X.env v = (do
      let ov ← holding [v] (eval o X.env)
      let iv ← holding [v, ov] (eval i X.env)
      standAt pos
      holding [v, ov, iv] (setItem ov iv v)
      release [v, ov, iv] []) := by intro _; rfl) : WG X (.Subscript o i pos) d Γ M P :=
  wg_of (pg_sub pe_w pe_w (set_dict hu) ha) fun v σ H r hs hm => tw h hs hm fun v1 H1 d1 M1 t1 r1 m1 p1 => tw p1 (hs.mono t1) m1 fun v2 H2 d2 M2 t2 r2 m2 ⟨a, M3, e1, g, p2⟩ => by
    subst e1
    cases r1
    obtain ⟨H3, g', t3, m3⟩ := g.of m2 r2 ((r.mono t1).mono t2)
    exact ⟨a, H3, rfl, g', Γ, M3, (t1.trans t2).trans t3, ((hs.mono t1).mono t2).mono t3, m3, p2⟩
end
end DL

set_option Elab.async false
set_option linter.all false
set_option maxRecDepth 100000
set_option maxHeartbeats 4000000
/-! DLf: statements, what is walked, loops, comprehensions, defs, by data. -/
namespace DL
open PySem PySem.Spec PyProof.Rows L2
abbrev PS_ := Sl → Mem → Prop
/-- what is wanted behind a statement -/
structure DE where
  nx : PS_
  rt : PD
  bk : PS_ := fun _ _ => False
  ct : PS_ := fun _ _ => False
structure Lk (H : Hp) (E : DE) (Dn : Ends) : Prop where
  nx : ∀ σ' H' Γ' M', Tx H H' → SIs H' σ' Γ' → RelM H' M' → E.nx Γ' M' → Dn.nx σ' H'
  rt : ∀ v H' d M', Tx H H' → Is H' d v → RelM H' M' → E.rt d M' → Dn.rt v H'
  bk : ∀ σ' H' Γ' M', Tx H H' → SIs H' σ' Γ' → RelM H' M' → E.bk Γ' M' → Dn.bk σ' H'
  ct : ∀ σ' H' Γ' M', Tx H H' → SIs H' σ' Γ' → RelM H' M' → E.ct Γ' M' → Dn.ct σ' H'
theorem Lk.tr {H H1 : Hp} {E : DE} {Dn : Ends} (t : Tx H H1) (k : Lk H E Dn) : Lk H1 E Dn :=
  ⟨fun σ' H' Γ' M' t1 => k.nx σ' H' Γ' M' (t.trans t1), fun σ' H' Γ' M' t1 => k.rt σ' H' Γ' M' (t.trans t1), fun σ' H' Γ' M' t1 => k.bk σ' H' Γ' M' (t.trans t1), fun σ' H' Γ' M' t1 => k.ct σ' H' Γ' M' (t.trans t1)⟩
structure WS (X : Cx) (st : Stmt) (Γ : Sl) (M : Mem) (E : DE) : Prop where
  run : ∀ (pins : List (Addr × Obj)) (s : Shared) (σ : L2.St) (H : Hp) (Dn : Ends), Inv X pins σ H s → SIs H σ Γ → RelM H M → Lk H E Dn → wpAny (model X.prog X.w) X.A (exec st X.env) (SP X pins Dn) X.xe s
structure WSs (X : Cx) (st : List Stmt) (Γ : Sl) (M : Mem) (E : DE) : Prop where
  run : ∀ (pins : List (Addr × Obj)) (s : Shared) (σ : L2.St) (H : Hp) (Dn : Ends), Inv X pins σ H s → SIs H σ Γ → RelM H M → Lk H E Dn → wpAny (model X.prog X.w) X.A (execs st X.env) (SP X pins Dn) X.xe s
def tWS (X : Cx) (st : Stmt) : TS := fun Dn σ H => ∃ Γ M E, SIs H σ Γ ∧ RelM H M ∧ WS X st Γ M E ∧ Lk H E Dn
def tWSs (X : Cx) (st : List Stmt) : TS := fun Dn σ H => ∃ Γ M E, SIs H σ Γ ∧ RelM H M ∧ WSs X st Γ M E ∧ Lk H E Dn
section
variable {X : Cx} {st : Stmt} {sts rest a b : List Stmt} {Γ : Sl} {M : Mem} {E : DE} {pos p : Pos} {e o i c value : Expr} {es : List Expr} {x y z : Str}
theorem ps_w : PS X st (tWS X st) := ⟨fun pins s σ H Dn I ⟨Γ, M, E, hs, hm, h, k⟩ => h.run pins s σ H Dn I hs hm k⟩
theorem pss_w : PSs X sts (tWSs X sts) := ⟨fun pins s σ H Dn I ⟨Γ, M, E, hs, hm, h, k⟩ => h.run pins s σ H Dn I hs hm k⟩
theorem ws_of {t : TS} (h : PS X st t) (k : ∀ σ H Dn, SIs H σ Γ → RelM H M → Lk H E Dn → t Dn σ H) : WS X st Γ M E := ⟨fun pins s σ H Dn I hs hm lk => h.run pins s σ H Dn I (k σ H Dn hs hm lk)⟩
theorem wss_of {t : TS} (h : PSs X sts t) (k : ∀ σ H Dn, SIs H σ Γ → RelM H M → Lk H E Dn → t Dn σ H) : WSs X sts Γ M E := ⟨fun pins s σ H Dn I hs hm lk => h.run pins s σ H Dn I (k σ H Dn hs hm lk)⟩
theorem wss_nil (h : E.nx Γ M) : WSs X [] Γ M E := wss_of pss_nil fun σ H Dn hs hm lk => lk.nx σ H Γ M (Tx.refl H) hs hm h
theorem wss_cons (h : WS X st Γ M { E with nx := fun Γ1 M1 => WSs X rest Γ1 M1 E }) : WSs X (st :: rest) Γ M E := wss_of (pss_cons ps_w pss_w) fun σ H Dn hs hm lk =>
  ⟨Γ, M, _, hs, hm, h, ⟨fun σ' H' Γ' M' t s m p => ⟨Γ', M', E, s, m, p, lk.tr t⟩, lk.rt, lk.bk, lk.ct⟩⟩
theorem wss_one (h : WS X st Γ M E) : WSs X [st] Γ M E := wss_of (pss_one ps_w) fun σ H Dn hs hm lk => ⟨Γ, M, E, hs, hm, h, lk⟩
theorem ws_pass (h : E.nx Γ M) : WS X (.Pass pos) Γ M E := ws_of ps_pass fun σ H Dn hs hm lk => lk.nx σ H Γ M (Tx.refl H) hs hm h
theorem ws_break (h : E.bk Γ M) : WS X (.Break pos) Γ M E := ws_of ps_break fun σ H Dn hs hm lk => lk.bk σ H Γ M (Tx.refl H) hs hm h
theorem ws_continue (h : E.ct Γ M) : WS X (.Continue pos) Γ M E := ws_of ps_continue fun σ H Dn hs hm lk => lk.ct σ H Γ M (Tx.refl H) hs hm h
theorem ws_ret (h : WE X e Γ M E.rt) : WS X (.Return (some e) pos) Γ M E := ws_of (ps_ret pe_w) fun σ H Dn hs hm lk => tw h hs hm fun v H1 d M1 t r m p => lk.rt v H1 d M1 t r m p
theorem ws_retN (h : E.rt .non M) : WS X (.Return none pos) Γ M E := ws_of ps_retN fun σ H Dn hs hm lk => lk.rt .non H .non M (Tx.refl H) .non hm h
theorem ws_expr (h : WE X e Γ M fun _ M1 => E.nx Γ M1) (hs : swapsWith e none pos.line X.env = pure false := by rfl) : WS X (.Expr e pos) Γ M E := ws_of (ps_expr pe_w hs) fun σ H Dn hs hm lk => tw h hs hm fun v H1 d M1 t r m p => lk.nx σ H1 Γ M1 t (hs.mono t) m p
theorem ws_if (h : WT X c Γ M fun k M1 => (k = true → WSs X a Γ M1 E) ∧ (k = false → WSs X b Γ M1 E)) : WS X (.If c a b pos) Γ M E := ws_of (ps_if pt_w pss_w pss_w) fun σ H Dn hs hm lk => twt h hs hm fun k H1 M1 t m ⟨p, q⟩ => by
  cases k with
  | true => exact ⟨Γ, M1, E, hs.mono t, m, p rfl, lk.tr t⟩
  | false => exact ⟨Γ, M1, E, hs.mono t, m, q rfl, lk.tr t⟩
theorem ws_set (i : Nat) {pos' : Pos} (nd : X.N.Nodup) (h : WE X e Γ M fun d M1 => E.nx (Γ.set i (some d)) M1) (hi : X.N[i]? = some x := by rfl) (hx : Loc X.env.scope x := by first | exact Or.inl rfl | exact Or.inr rfl)
    (hs : swapsWith e (some (.Name x pos')) pos.line X.env = pure false := by rfl) (hf : X.fn x = true ∨ X.env.scope.names.lookup x = some .local := by first | exact .inl rfl | exact .inr rfl) : WS X (.Assign [.Name x pos'] e pos) Γ M E :=
  ws_of (ps_set nd hi hx pe_w hs hf) fun σ H Dn hs hm lk => tw h hs hm fun v H1 d M1 t r m p => lk.nx _ H1 _ M1 t ((hs.mono t).set r) m p
theorem ws_asg {tg : Expr} (h : WE X e Γ M fun d M1 => WG X tg d Γ M1 E.nx) (hs : swapsWithSole [tg] e pos.line X.env = pure false := by rfl) (hw : swappedStores [tg] e X.env = pure none := by rfl) (h1 : (assignEach [tg] X.env).map (·.2) = [assign tg X.env] := by rfl) : WS X (.Assign [tg] e pos) Γ M E :=
  ws_of (ps_asg pe_w pg_w hs hw h1) fun σ H Dn hs hm lk => tw h hs hm fun v H1 d M1 t r m p => ⟨d, Γ, M1, _, r, hs.mono t, m, p, fun σ' H' ⟨Γ', M', t', s', m', p'⟩ => lk.nx σ' H' Γ' M' (t.trans t') s' m' p'⟩
theorem ws_par (i j : Nat) {a b : Expr} {px py pt pt2 : Pos} {kt k2 : Nat} (hc : X.calm = true) (nd : X.N.Nodup) (h : WA X [a, b] Γ M fun ds M1 => ∃ d e, ds = [d, e] ∧ E.nx ((Γ.set i (some d)).set j (some e)) M1) (hi : X.N[i]? = some x := by rfl) (hj : X.N[j]? = some y := by rfl) (hij : i ≠ j := by decide)
    (hx : X.env.scope.names.lookup x = some .local := by rfl) (hy : X.env.scope.names.lookup y = some .local := by rfl) (hw : swappedStores [.Tuple [.Name x px, .Name y py] kt pt] (.Tuple [a, b] k2 pt2) X.env = pure (some [x, y]) := by rfl)
    (hs : swapsWithSole [.Tuple [.Name x px, .Name y py] kt pt] (.Tuple [a, b] k2 pt2) pos.line X.env = pure false := by rfl) : WS X (.Assign [.Tuple [.Name x px, .Name y py] kt pt] (.Tuple [a, b] k2 pt2) pos) Γ M E :=
  ws_of (ps_par hc nd hi hj hij hx hy pa_w hw hs) fun σ H Dn hs hm lk => twa h hs hm fun vs H1 ds M1 t r m ⟨d, e', ed, p⟩ => by
    subst ed
    obtain ⟨v, w, rfl, r1, r2⟩ := two_of r
    exact ⟨v, w, rfl, lk.nx _ H1 _ M1 t (((hs.mono t).set r1).set r2) m p⟩
/-- a, b, c = x, y, z with plain local names -/
def tPar3 (i j l : Nat) (ta : TA) : TS := fun D σ H => ta σ H fun vs H1 => ∃ v w u, vs = [v, w, u] ∧ D.nx (((σ.set i (some v)).set j (some w)).set l (some u)) H1
theorem ps_par3 {i j l : Nat} {a b c : Expr} {ta : TA} {px py pz pt pt2 : Pos} {kt k2 : Nat} (hc : X.calm = true) (hN : X.N.Nodup) (hi : X.N[i]? = some x) (hj : X.N[j]? = some y) (hl : X.N[l]? = some z) (hij : i ≠ j) (hil : i ≠ l) (hjl : j ≠ l)
    (hx : X.env.scope.names.lookup x = some .local) (hy : X.env.scope.names.lookup y = some .local) (hz : X.env.scope.names.lookup z = some .local) (ha : PA X [a, b, c] ta)
    (hw : swappedStores [.Tuple [.Name x px, .Name y py, .Name z pz] kt pt] (.Tuple [a, b, c] k2 pt2) X.env = pure (some [x, y, z]))
    (hs : swapsWithSole [.Tuple [.Name x px, .Name y py, .Name z pz] kt pt] (.Tuple [a, b, c] k2 pt2) pos.line X.env = pure false := by rfl) :
    PS X (.Assign [.Tuple [.Name x px, .Name y py, .Name z pz] kt pt] (.Tuple [a, b, c] k2 pt2) pos) (tPar3 i j l ta) := by
  refine ⟨fun pins s σ H D I h => ?_⟩
  rw [exec_Assign_arm]
  refine wpAny_bind (wpAny_standAt ?_)
  rw [hs]
  refine wpAny_bind (wpAny_pure ?_)
  rw [if_neg (by decide)]
  refine wpAny_bind (Tuple_ (thn (ha.run _ pins s σ H _ I h) fun us s1 ⟨vs, H1, I1, r1, q1⟩ => ?_))
  obtain ⟨v, w, u, e1, q1⟩ := q1
  subst e1
  obtain ⟨u1, u2, u3, rfl, rv, rw', ru⟩ : ∃ u1 u2 u3, us = [u1, u2, u3] ∧ RelV v u1 ∧ RelV w u2 ∧ RelV u u3 := by
    cases r1 with
    | cons p q =>
      cases q with
      | cons p' q' =>
        cases q' with
        | cons p2 q2 =>
          cases q2
          exact ⟨_, _, _, rfl, p, p', p2⟩
  refine wpAny_newObj_type ?_ (by show 3 ≤ sizeLine; decide)
  have I2 : Inv X pins σ H1 { s1 with heap := s1.heap.push { cls := .type "tuple", data := .seq [u1, u2, u3].toArray } } := I1.kept (t' := s1.toks) fun b o e => Heap.get?_push_of_some _ e
  rw [hw]
  refine wpAny_bind (wpAny_pure ?_)
  show wpAny (model X.prog X.w) X.A (do rule "assign.swapped-stores"; let items ← unpackItems (.ref s1.heap.objs.size) 3 none; assignInOrder [fun v => bindName X.env z v, fun v => bindName X.env y v, fun v => bindName X.env x v] items.reverse; pure Flow.next) _ _ _
  refine wpAny_bind (wpAny_rule (wpAny_bind (unpackItems_tuple (items := #[u1, u2, u3]) (I.ok.hd hc) (IsTup.new s1.heap _) fun h' hx' => ?_)))
  have I3 := I2.kept (h' := h') (t' := s1.toks) fun b o e => hx' b o (Nat.ne_of_lt (Heap.lt_size e)) e
  show wpAny _ _ (assignInOrder [fun v => bindName X.env z v, fun v => bindName X.env y v, fun v => bindName X.env x v] [u3, u2, u1] >>= fun _ => pure Flow.next) _ _ _
  refine wpAny_bind (assignInOrder_cons (wpAny_bindName (store_ok I3 hN hl (.inl hz) ru (fun s2 I4 => ?_) (.inr hz))))
  refine assignInOrder_cons (wpAny_bindName (store_ok I4 hN hj (.inl hy) rw' (fun s3 I5 => ?_) (.inr hy)))
  refine assignInOrder_cons (wpAny_bindName (store_ok I5 hN hi (.inl hx) rv (fun s4 I6 => assignInOrder_nil (wpAny_pure ?_)) (.inr hx)))
  have e : ((σ.set l (some u)).set j (some w)).set i (some v) = ((σ.set i (some v)).set j (some w)).set l (some u) := by
    rw [List.set_comm _ _ (Ne.symm hij), List.set_comm (some u) (some v) (Ne.symm hil), List.set_comm (some u) (some w) (Ne.symm hjl)]
  rw [e] at I6
  exact ⟨_, H1, I6, q1⟩
theorem three_of {H : Hp} {d e f : D} {xs : List V} (r : IsL H [d, e, f] xs) : ∃ v w u, xs = [v, w, u] ∧ Is H d v ∧ Is H e w ∧ Is H f u := by
  cases r with
  | cons r1 r2 =>
    obtain ⟨w, u, rfl, r3, r4⟩ := two_of r2
    exact ⟨_, w, u, rfl, r1, r3, r4⟩
theorem ws_par3 (i j l : Nat) {a b c : Expr} {px py pz pt pt2 : Pos} {kt k2 : Nat} (hc : X.calm = true) (nd : X.N.Nodup) (h : WA X [a, b, c] Γ M fun ds M1 => ∃ d e f, ds = [d, e, f] ∧ E.nx (((Γ.set i (some d)).set j (some e)).set l (some f)) M1) (hi : X.N[i]? = some x := by rfl) (hj : X.N[j]? = some y := by rfl) (hl : X.N[l]? = some z := by rfl) (hij : i ≠ j := by decide) (hil : i ≠ l := by decide) (hjl : j ≠ l := by decide)
    (hx : X.env.scope.names.lookup x = some .local := by rfl) (hy : X.env.scope.names.lookup y = some .local := by rfl) (hz : X.env.scope.names.lookup z = some .local := by rfl)
    (hw : swappedStores [.Tuple [.Name x px, .Name y py, .Name z pz] kt pt] (.Tuple [a, b, c] k2 pt2) X.env = pure (some [x, y, z]) := by rfl)
    (hs : swapsWithSole [.Tuple [.Name x px, .Name y py, .Name z pz] kt pt] (.Tuple [a, b, c] k2 pt2) pos.line X.env = pure false := by rfl) : WS X (.Assign [.Tuple [.Name x px, .Name y py, .Name z pz] kt pt] (.Tuple [a, b, c] k2 pt2) pos) Γ M E :=
  ws_of (ps_par3 hc nd hi hj hl hij hil hjl hx hy hz pa_w hw hs) fun σ H Dn hs hm lk => twa h hs hm fun vs H1 ds M1 t r m ⟨d, e', f, ed, p⟩ => by
    subst ed
    obtain ⟨v, w, u, rfl, r1, r2, r3⟩ := three_of r
    exact ⟨v, w, u, rfl, lk.nx _ H1 _ M1 t ((((hs.mono t).set r1).set r2).set r3) m p⟩
/-- name op= e -/
theorem ws_aug (i : Nat) {op : Operator} {B : B2} {pos' : Pos} {d0 : D} (nd : X.N.Nodup) (ho : OpD X (inplaceOp op) B) (h0 : Γ[i]? = some (some d0)) (h : WE X e Γ M fun d M1 => B d0 d M1 fun z M2 => E.nx (Γ.set i (some z)) M2) (hi : X.N[i]? = some x := by rfl) (hx : Loc X.env.scope x := by first | exact Or.inl rfl | exact Or.inr rfl)
    (hf : X.fn x = true ∨ X.env.scope.names.lookup x = some .local := by first | exact .inl rfl | exact .inr rfl) : WS X (.AugAssign (.Name x pos') op e pos) Γ M E :=
  ws_of (ps_aug nd hi hx pe_w ho.r hf) fun σ H Dn hs hm lk => by
    obtain ⟨v0, e0, r0⟩ := hs.2 i d0 h0
    exact ⟨v0, e0, tw h hs hm fun v H1 d M1 t r m p => ⟨d0, d, M1, _, r0.mono t, r, m, p, fun z H2 ⟨dz, M2, t2, r2, m2, p2⟩ => lk.nx _ H2 _ M2 (t.trans t2) (((hs.mono t).mono t2).set r2) m2 p2⟩⟩
/-! ### attributes stored -/
def putS (f : Str) (d : D) : List (Str × D) → List (Str × D)
  | [] => [(f, d)]
  | (g, x) :: r => if g = f then (g, d) :: r else (g, x) :: putS f d r
theorem IsKV.putF {H : Hp} {f : Str} {d : D} {v : V} (r : Is H d v) : ∀ {l : List (Str × D)} {xs : List (Str × V)}, IsKV H l xs → IsKV H (putS f d l) (L2.putF f v xs)
  | _, _, .nil => .cons ⟨rfl, r⟩ .nil
  | (g, x) :: l, (g2, y) :: xs, .cons ⟨e, r1⟩ t => by
    have e : g = g2 := e
    subst e
    show IsKV H (if g = f then (g, d) :: l else (g, x) :: putS f d l) (if g = f then (g, v) :: xs else (g, y) :: L2.putF f v xs)
    by_cases h : g = f
    · rw [if_pos h, if_pos h]
      exact .cons ⟨rfl, r⟩ t
    · rw [if_neg h, if_neg h]
      exact .cons ⟨rfl, r1⟩ (IsKV.putF r t)
theorem ws_fld {f : Str} {pos' : Pos} (h : WE X value Γ M fun y M1 => WE X o Γ M1 fun d M2 => ∃ a C fs, d = .ref a ∧ M2 a = some (.ins C fs) ∧ Cls X.K C ∧ NoAttr X.K C f ∧ fs.length < 1000 ∧ E.nx Γ (put M2 a (.ins C (putS f y fs))))
    (hs : swapsWith value (some (.Attribute o f pos')) pos.line X.env = pure false := by rfl) : WS X (.Assign [.Attribute o f pos'] value pos) Γ M E :=
  ws_of (ps_fld pe_w pe_w hs) fun σ H Dn hs hm lk => tw h hs hm fun v H1 d M1 t r m p => tw p (hs.mono t) m fun v2 H2 d2 M2 t2 r2 m2 ⟨a, C, fs, ed, ha, cl, na, hl, p2⟩ => by
    subst ed
    cases r2
    obtain ⟨dx, us, h1, h2⟩ := m2 a _ ha
    have T : ∀ o, Tx H2 (upd H2 a o) := fun o => Tx.mut h1 (fun _ z => by cases z) (fun _ _ z => by cases z)
    exact ⟨a, C, dx, us, rfl, h1, cl, na, by rw [← h2.length]; exact hl, lk.nx σ _ Γ _ ((t.trans t2).trans (T _)) (((hs.mono t).mono t2).mono (T _)) (m2.set h1 (fun _ z => by cases z) (fun _ _ z => by cases z) (show MOk _ _ (.ins C _) from ⟨dx, _, upd_same, ((h2.putF (r.mono t2)).mono (T _))⟩)) p2⟩
theorem ws_dput {pos' : Pos} (hu : X.A.units + 1 < cLine) (h : WE X value Γ M fun v M1 => WE X o Γ M1 fun d M2 => WE X i Γ M2 fun y M3 => ∃ a M4, d = .ref a ∧ DPutD M3 a y v M4 ∧ E.nx Γ M4)
    (hs : swapsWith value (some (.Subscript o i pos')) pos.line X.env = pure false := by rfl) : WS X (.Assign [.Subscript o i pos'] value pos) Γ M E :=
  ws_of (ps_dput hu pe_w pe_w pe_w hs) fun σ H Dn hs hm lk => tw h hs hm fun v H1 d M1 t r m p => tw p (hs.mono t) m fun v2 H2 d2 M2 t2 r2 m2 p2 => tw p2 ((hs.mono t).mono t2) m2 fun v3 H3 d3 M3 t3 r3 m3 ⟨a, M4, ed, g, p3⟩ => by
    subst ed
    cases r2
    obtain ⟨H4, g', t4, m4⟩ := g.of m3 r3 ((r.mono t2).mono t3)
    exact ⟨a, H4, rfl, g', lk.nx σ H4 Γ M4 (((t.trans t2).trans t3).trans t4) ((((hs.mono t).mono t2).mono t3).mono t4) m4 p3⟩
/-- a way that cannot be -/
theorem wss_never (h : False) : WSs X sts Γ M E := h.elim
/-! ### while -/
theorem ws_while (hp : PassesOwn (model X.prog X.w) X.A X.env X.xe) (W : Nat → PS_) (m0 : Nat) (h0 : W m0 Γ M) (h : ∀ m Γ M, W m Γ M → WT X c Γ M fun k M1 => (k = true → ∃ N : PS_, (∀ Γ2 M2, N Γ2 M2 → ∃ m', m' < m ∧ W m' Γ2 M2) ∧ WSs X sts Γ M1 { nx := N, ct := N, bk := E.nx, rt := E.rt }) ∧ (k = false → E.nx Γ M1)) : WS X (.While c sts [] pos) Γ M E :=
  ws_of (ps_while hp pt_w pss_w) fun σ H Dn hs hm lk => by
    refine ⟨fun m σ' H' => ∃ Γ M, Tx H H' ∧ SIs H' σ' Γ ∧ RelM H' M ∧ W m Γ M, ⟨m0, Γ, M, Tx.refl H, hs, hm, h0⟩, fun m σ' H' ⟨Γ1, M1, t1, s1, m1, w1⟩ => ?_⟩
    refine twt (h m Γ1 M1 w1) s1 m1 fun k H2 M2 t2 m2 ⟨p, q⟩ => ?_
    cases k with
    | true =>
      obtain ⟨N, hN, hb⟩ := p rfl
      rw [if_pos rfl]
      refine ⟨fun σ3 H3 => ∃ Γ M, Tx H H3 ∧ SIs H3 σ3 Γ ∧ RelM H3 M ∧ N Γ M, fun σ3 H3 ⟨Γ3, M3, t3, s3, m3, n3⟩ => ?_, Γ1, M2, _, s1.mono t2, m2, hb, ?_⟩
      · obtain ⟨m', hl, w'⟩ := hN Γ3 M3 n3
        exact ⟨m', hl, Γ3, M3, t3, s3, m3, w'⟩
      · have T := t1.trans t2
        exact ⟨fun σ3 H3 Γ3 M3 t3 s3 m3 n3 => ⟨Γ3, M3, T.trans t3, s3, m3, n3⟩, (lk.tr T).rt, (lk.tr T).nx, fun σ3 H3 Γ3 M3 t3 s3 m3 n3 => ⟨Γ3, M3, T.trans t3, s3, m3, n3⟩⟩
    | false =>
      rw [if_neg Bool.false_ne_true]
      exact lk.nx σ' H2 Γ1 M2 (t1.trans t2) (s1.mono t2) m2 (q rfl)
/-! ### what is walked -/
/-- J walks the data ds while keep stands -/
def WalkD (H0 : Hp) (J : It) (ds : List D) (keep : Mem → Prop) : Prop := ∃ (G : Hp → Prop) (Y : Nat → Hp → V → Hp → Prop), Walk J ds.length G Y ∧ (∀ H M, Tx H0 H → RelM H M → keep M → G H) ∧
  ∀ i H x H', i < ds.length → G H → Y i H x H' → ∃ d, ds[i]? = some d ∧ Is H' d x ∧ Tx H H' ∧ ∀ M, RelM H M → RelM H' M
structure WI (X : Cx) (tg iter : Expr) (Γ : Sl) (M : Mem) (P : List D → (Mem → Prop) → Mem → Prop) : Prop where
  run : ∀ (pins : List (Addr × Obj)) (s : Shared) (σ : L2.St) (H : Hp), Inv X pins σ H s → SIs H σ Γ → RelM H M →
    wpAny (model X.prog X.w) X.A (eval iter X.env) (fun v s1 => wpAny (model X.prog X.w) X.A (pyIter v) (PIE X pins σ tg fun J H' => ∃ ds keep M', Tx H H' ∧ RelM H' M' ∧ P ds keep M' ∧ WalkD H' J ds keep) X.xe s1) X.xe s
def tWI (X : Cx) (tg iter : Expr) : TI := fun σ H R => ∃ Γ M P, SIs H σ Γ ∧ RelM H M ∧ WI X tg iter Γ M P ∧ ∀ J H' ds keep M', Tx H H' → RelM H' M' → P ds keep M' → WalkD H' J ds keep → R J H'
theorem PIE.imp {pins : List (Addr × Obj)} {σ : L2.St} {tg : Expr} {R R' : It → Hp → Prop} {v : Value} {s : Shared} (h : PIE X pins σ tg R v s) (k : ∀ J H', R J H' → R' J H') : PIE X pins σ tg R' v s := let ⟨it, fp, tn, J, H', e, I, T, a, b, q⟩ := h; ⟨it, fp, tn, J, H', e, I, T, a, b, k J H' q⟩
theorem pi_w {tg iter : Expr} : PI X tg iter (tWI X tg iter) := ⟨fun pins s σ H R I ⟨Γ, M, P, hs, hm, h, k⟩ => thn (h.run pins s σ H I hs hm) fun v s1 h1 => thn h1 fun u s2 h2 => PIE.imp h2 fun J H' ⟨ds, keep, M', t, m, p, w⟩ => k J H' ds keep M' t m p w⟩
theorem wi_of {tg iter : Expr} {P : List D → (Mem → Prop) → Mem → Prop} {wi : TI} (h : PI X tg iter wi) (k : ∀ σ H, SIs H σ Γ → RelM H M → wi σ H fun J H' => ∃ ds keep M', Tx H H' ∧ RelM H' M' ∧ P ds keep M' ∧ WalkD H' J ds keep) : WI X tg iter Γ M P :=
  ⟨fun pins s σ H I hs hm => h.run pins s σ H _ I (k σ H hs hm)⟩
abbrev kAll : Mem → Prop := fun _ => True
theorem walkD_tup {K : PySem.W.Frag} {H : Hp} {a : Addr} {l : List D} {xs : List V} (h1 : H a = some (.tup xs)) (h2 : IsL H l xs) : WalkD H (Itt K a) l kAll := by
  refine ⟨fun H' => Tx H H', YAt xs, ?_, fun H' M t _ _ => t, fun i H1 x H2 hi t ⟨e, q⟩ => ?_⟩
  · rw [h2.length]
    exact walk_tup.mono (fun H' t => SqT.of (t.t _ _ h1)) fun _ _ _ _ _ _ y => y
  · subst e
    obtain ⟨d, hd, r⟩ := h2.back q
    exact ⟨d, hd, r.mono t, Tx.refl _, fun _ z => z⟩
theorem walkD_rol {K : PySem.W.Frag} {H : Hp} {a : Addr} {l : List D} {xs : List V} (h1 : FzL H a xs) (h2 : IsL H l xs) : WalkD H (Itl K a) l kAll := by
  refine ⟨fun H' => Tx H H', YAt xs, ?_, fun H' M t _ _ => t, fun i H1 x H2 hi t ⟨e, q⟩ => ?_⟩
  · rw [h2.length]
    exact walk_list.mono (fun H' t => (t.l _ _ h1).sq) fun _ _ _ _ _ _ y => y
  · subst e
    obtain ⟨d, hd, r⟩ := h2.back q
    exact ⟨d, hd, r.mono t, Tx.refl _, fun _ z => z⟩
theorem walkD_lst {K : PySem.W.Frag} {H : Hp} {a : Addr} {l : List D} : WalkD H (Itl K a) l (fun M => M a = some (.lst l)) := by
  refine ⟨fun H' => ∃ xs, H' a = some (.lst xs) ∧ IsL H' l xs, fun i H x H' => H' = H ∧ ∀ xs, SqL K H a xs → xs[i]? = some x, ?_, fun H' M t m k => m a _ k, fun i H1 x H2 hi ⟨xs, h1, h2⟩ ⟨e, q⟩ => ?_⟩
  · refine ⟨fun i H' hi ⟨xs, h1, h2⟩ => ?_, fun H' ⟨xs, h1, h2⟩ => ⟨xs, SqL.of h1, by rw [h2.length]; exact Nat.le_refl _⟩, fun i H' x H2 hi _ y => y⟩
    obtain ⟨v, hv, _⟩ := h2.get (List.getElem?_eq_getElem hi)
    exact ⟨xs, v, SqL.of h1, hv⟩
  · subst e
    obtain ⟨d, hd, r⟩ := h2.back (q xs (SqL.of h1))
    exact ⟨d, hd, r, Tx.refl _, fun _ z => z⟩
theorem walkD_range {H : Hp} {lo : Int} {n : Nat} : WalkD H (Itr lo n) ((List.range n).map fun i => D.int (lo + (i : Nat))) kAll := by
  refine ⟨fun _ => True, YFn fun i => .int (lo + i), ?_, fun _ _ _ _ _ => trivial, fun i H1 x H2 hi _ ⟨e, q⟩ => ?_⟩
  · rw [List.length_map, List.length_range]
    exact walk_range
  · subst e
    subst q
    rw [List.length_map, List.length_range] at hi
    refine ⟨.int (lo + (i : Nat)), ?_, .int _, Tx.refl _, fun _ z => z⟩
    rw [List.getElem?_map, List.getElem?_range hi]
    rfl
/-- for x in e, e a tuple | a list -/
theorem wi_tup {tg : Expr} {P : List D → (Mem → Prop) → Mem → Prop} (h : WE X e Γ M fun d M1 => ∃ l, d = .tup l ∧ P l kAll M1) : WI X tg e Γ M P :=
  wi_of (pi_tup pe_w) fun σ H hs hm => tw h hs hm fun v H1 d M1 t r m ⟨l, ed, p⟩ => by
    subst ed
    obtain ⟨a, xs, rfl, h1, h2⟩ := rI_t r
    exact ⟨a, rfl, ⟨xs, SqT.of h1⟩, l, kAll, M1, t, m, p, walkD_tup h1 h2⟩
theorem wi_rol {tg : Expr} {P : List D → (Mem → Prop) → Mem → Prop} (h : WE X e Γ M fun d M1 => ∃ l, d = .rol l ∧ P l kAll M1) : WI X tg e Γ M P :=
  wi_of (pi_list pe_w) fun σ H hs hm => tw h hs hm fun v H1 d M1 t r m ⟨l, ed, p⟩ => by
    subst ed
    obtain ⟨a, xs, rfl, h1, h2⟩ := rI_l r
    exact ⟨a, rfl, ⟨xs, h1.sq⟩, l, kAll, M1, t, m, p, walkD_rol h1 h2⟩
theorem wi_lst {tg : Expr} {P : List D → (Mem → Prop) → Mem → Prop} (h : WE X e Γ M fun d M1 => ∃ a l, d = .ref a ∧ M1 a = some (.lst l) ∧ P l (fun M => M a = some (.lst l)) M1) : WI X tg e Γ M P :=
  wi_of (pi_list pe_w) fun σ H hs hm => tw h hs hm fun v H1 d M1 t r m ⟨a, l, ed, ha, p⟩ => by
    subst ed
    cases r
    obtain ⟨xs, h1, h2⟩ := m a _ ha
    exact ⟨a, rfl, ⟨xs, SqL.of h1⟩, l, _, M1, t, m, p, walkD_lst⟩
def rg1 (n : Int) : List D := (List.range n.toNat).map fun i => D.int (0 + (i : Nat))
def rg2 (a b : Int) : List D := (List.range (b - a).toNat).map fun i => D.int (a + (i : Nat))
theorem wi_range1 {tg : Expr} {P : List D → (Mem → Prop) → Mem → Prop} (hr : X.mg "range" = none) (h : WE X e Γ M fun d M1 => ∃ n, d = .int n ∧ -(2 ^ 62) ≤ n ∧ n < 2 ^ 62 ∧ P (rg1 n) kAll M1) (hg : Gl X "range" := by rfl)
    (hs : starEach [e] X.env = (false, eval e X.env) :: starEach [] X.env := by rfl) (hs2 : starEach [e] X.env = [(false, eval e X.env)] := by rfl) : WI X tg (.Call (.Name "range" p) [e] [] pos) Γ M P :=
  wi_of (pi_range1 hg hr (pa_cons pe_w pa_nil hs) hs2) fun σ H hs hm => tw h hs hm fun v H1 d M1 t r m ⟨n, ed, h1, h2, p⟩ => by
    subst ed
    cases r
    exact ⟨n, rfl, h1, h2, rg1 n, kAll, M1, t, m, p, walkD_range⟩
theorem wi_range2 {tg : Expr} {P : List D → (Mem → Prop) → Mem → Prop} (hr : X.mg "range" = none) (h : WE X e Γ M fun d M1 => WE X i Γ M1 fun d2 M2 => ∃ a b, d = .int a ∧ d2 = .int b ∧ (-(2 ^ 62) ≤ a ∧ a < 2 ^ 62 ∧ -(2 ^ 62) ≤ b ∧ b < 2 ^ 62) ∧ P (rg2 a b) kAll M2) (hg : Gl X "range" := by rfl)
    (hs : starEach [e, i] X.env = (false, eval e X.env) :: starEach [i] X.env := by rfl) (hs1 : starEach [i] X.env = (false, eval i X.env) :: starEach [] X.env := by rfl) (hs2 : starEach [e, i] X.env = [(false, eval e X.env), (false, eval i X.env)] := by rfl) (hs3 : starEach [i] X.env = [(false, eval i X.env)] := by rfl) : WI X tg (.Call (.Name "range" p) [e, i] [] pos) Γ M P :=
  wi_of (pi_range2 hg hr (pa_cons pe_w (pa_cons pe_w pa_nil hs1) hs) hs2 hs3) fun σ H hs hm => tw h hs hm fun v H1 d M1 t r m p => tw p (hs.mono t) m fun v2 H2 d2 M2 t2 r2 m2 ⟨a, b, ed, ed2, hb, p2⟩ => by
    subst ed ed2
    cases r
    cases r2
    exact ⟨a, b, rfl, hb, rg2 a b, kAll, M2, t.trans t2, m2, p2, walkD_range⟩
/-- pairs of two lists -/
def zipD (l m : List D) : List D := (l.zip m).map fun p => D.tup [p.1, p.2]
theorem walkD_zip {K : PySem.W.Frag} {H : Hp} {a b : Addr} {l m : List D} : WalkD H (Itz K a b) (zipD l m) (fun M => M a = some (.lst l) ∧ M b = some (.lst m)) := by
  have hlen : (zipD l m).length = min l.length m.length := by unfold zipD; rw [List.length_map, List.length_zip]
  refine ⟨fun H' => (∃ xs, H' a = some (.lst xs) ∧ IsL H' l xs) ∧ ∃ ys, H' b = some (.lst ys) ∧ IsL H' m ys, fun i H x H' => (Itz K a b).yld i H x H', ?_, fun H' M t r k => ⟨r a _ k.1, r b _ k.2⟩, fun i H1 x H2 hi ⟨⟨xs, h1, h2⟩, ys, h3, h4⟩ y => ?_⟩
  · refine ⟨fun i H' hi ⟨⟨xs, h1, h2⟩, ys, h3, h4⟩ => ?_, fun H' ⟨⟨xs, h1, h2⟩, ys, h3, h4⟩ => ?_, fun i H' x H2 hi _ y => y⟩
    · rw [hlen, h2.length, h4.length] at hi
      exact (walk_zip (K := K) (a := a) (b := b) (xs := xs) (ys := ys) rfl).goes i H' hi ⟨SqL.of h1, SqL.of h3⟩
    · rw [hlen, h2.length, h4.length]
      exact (walk_zip (K := K) (a := a) (b := b) (xs := xs) (ys := ys) rfl).stops H' ⟨SqL.of h1, SqL.of h3⟩
  · have hi' : i < min xs.length ys.length := by rw [hlen, h2.length, h4.length] at hi; exact hi
    obtain ⟨T, u, w, e, hT, eH, hu, hw⟩ := (walk_zip (K := K) (a := a) (b := b) (xs := xs) (ys := ys) rfl).yields i H1 x H2 hi' ⟨SqL.of h1, SqL.of h3⟩ y
    subst e eH
    obtain ⟨d1, q1, r1⟩ := h2.back hu
    obtain ⟨d2, q2, r2⟩ := h4.back hw
    refine ⟨.tup [d1, d2], ?_, .tup upd_same (.cons (r1.mono (Tx.new hT)) (.cons (r2.mono (Tx.new hT)) .nil)), Tx.new hT, fun M r => r.fresh hT⟩
    unfold zipD
    rw [List.getElem?_map, show (l.zip m)[i]? = some (d1, d2) from List.getElem?_zip_eq_some.mpr ⟨q1, q2⟩]
    rfl
theorem wi_zip {elts : List Expr} {kk : Nat} {tpos : Pos} {P : List D → (Mem → Prop) → Mem → Prop} (hz : X.mg "zip" = none) (h : WE X e Γ M fun d M1 => WE X i Γ M1 fun d2 M2 => ∃ a b l m, d = .ref a ∧ d2 = .ref b ∧ M2 a = some (.lst l) ∧ M2 b = some (.lst m) ∧ P (zipD l m) (fun M => M a = some (.lst l) ∧ M b = some (.lst m)) M2) (hg : Gl X "zip" := by rfl)
    (hs : starEach [e, i] X.env = (false, eval e X.env) :: starEach [i] X.env := by rfl) (hs1 : starEach [i] X.env = (false, eval i X.env) :: starEach [] X.env := by rfl) (hpl : (backTo pos (starEach [i] X.env)).any (·.1) = false := by rfl) : WI X (.Tuple elts kk tpos) (.Call (.Name "zip" p) [e, i] [] pos) Γ M P :=
  wi_of (pi_zip hg hz (pa_cons pe_w (pa_cons pe_w pa_nil hs1) hs) hs hpl) fun σ H hs hm => tw h hs hm fun v H1 d M1 t r m p => tw p (hs.mono t) m fun v2 H2 d2 M2 t2 r2 m2 ⟨a, b, l, l2, ed, ed2, h1, h2, p2⟩ => by
    subst ed ed2
    cases r
    cases r2
    obtain ⟨xs, q1, q2⟩ := m2 a _ h1
    obtain ⟨ys, q3, q4⟩ := m2 b _ h2
    exact ⟨a, b, xs, ys, rfl, SqL.of q1, SqL.of q3, zipD l l2, _, M2, t.trans t2, m2, p2, walkD_zip⟩
/-! ### for -/
theorem ws_for {tg iter : Expr} (hp : PassesOwn (model X.prog X.w) X.A X.env X.xe) (hc : X.calm = true) (h : WI X tg iter Γ M fun ds keep M1 => ∃ J : Nat → PS_, J 0 Γ M1 ∧ (∀ i Γ' M', i ≤ ds.length → J i Γ' M' → keep M') ∧
      (∀ i d Γ' M', ds[i]? = some d → J i Γ' M' → WG X tg d Γ' M' fun Γ2 M2 => WSs X sts Γ2 M2 { nx := J (i + 1), ct := J (i + 1), bk := E.nx, rt := E.rt }) ∧ ∀ Γ' M', J ds.length Γ' M' → E.nx Γ' M')
    (hs : ∀ x, foldedSetIterable iter X.env x = pure x := by intro _; rfl) : WS X (.For tg iter sts [] pos) Γ M E :=
  ws_of (ps_for hp hc pi_w pg_w pss_w hs) fun σ H Dn hs hm lk => ⟨Γ, M, _, hs, hm, h, fun J H1 ds keep M1 t m ⟨Jv, j0, jk, jt, jd⟩ ⟨G, Y, w, wg, wy⟩ => by
    refine for_it w (fun i σ' H' => ∃ Γ' M', Tx H1 H' ∧ SIs H' σ' Γ' ∧ RelM H' M' ∧ Jv i Γ' M') ⟨Γ, M1, Tx.refl H1, hs.mono t, m, j0⟩ (fun i σ' H' hi ⟨Γ', M', t', s', m', j'⟩ => wg H' M' t' m' (jk i Γ' M' hi j')) (fun i x σ' H' H2 hi ⟨Γ', M', t', s', m', j'⟩ y => ?_) fun σ' H' ⟨Γ', M', t', s', m', j'⟩ => lk.nx σ' H' Γ' M' (t.trans t') s' m' (jd Γ' M' j')
    obtain ⟨d, hd, r, t2, k2⟩ := wy i H' x H2 hi (wg H' M' t' m' (jk i Γ' M' (Nat.le_of_lt hi) j')) y
    refine ⟨d, Γ', M', _, r, s'.mono t2, k2 M' m', jt i d Γ' M' hd j', fun σ3 H3 ⟨Γ3, M3, t3, s3, m3, b3⟩ => ⟨Γ3, M3, _, s3, m3, b3, ?_⟩⟩
    have T := (t'.trans t2).trans t3
    have L := lk.tr (t.trans T)
    exact ⟨fun σ4 H4 Γ4 M4 t4 s4 m4 p4 => ⟨Γ4, M4, T.trans t4, s4, m4, p4⟩, L.rt, L.nx, fun σ4 H4 Γ4 M4 t4 s4 m4 p4 => ⟨Γ4, M4, T.trans t4, s4, m4, p4⟩⟩⟩
end
end DL

set_option Elab.async false
set_option linter.all false
set_option maxRecDepth 100000
set_option maxHeartbeats 4000000
/-! DLg: comprehensions, defs, by data. -/
namespace DL
open PySem PySem.Spec PyProof.Rows L2
/-- a word said in every block of the comprehension -/
abbrev Blks (X : Cx) (scope : Scope) (W : Cx → Prop) : Prop := ∀ (s : Shared) (H : Hp) (C : Addr) (cl : List (Str × Addr)) (fp : List Addr), W (X.blk s H scope (compEnvC scope cl C X.env) fp)
def tB (X : Cx) (scope : Scope) (e : Expr) : TE := fun σ H Q => ∃ Γ M P, SIs H σ Γ ∧ RelM H M ∧ Blks X scope (fun Y => WE Y e Γ M P) ∧ ∀ v H', PostE H P v H' → Q v H'
def tBT (X : Cx) (scope : Scope) (c : Expr) : TT := fun σ H Q => ∃ Γ M P, SIs H σ Γ ∧ RelM H M ∧ Blks X scope (fun Y => WT Y c Γ M P) ∧ ∀ v H', PostT H P v H' → Q v H'
theorem wipe1 {σ : L2.St} {i : Nat} {x : V} : wipe ((wipe σ [i]).set i (some x)) [i] = wipe σ [i] := by
  show (((σ.set i none).set i (some x)).set i none) = σ.set i none
  rw [List.set_set, List.set_set]
theorem wipe2 {σ : L2.St} {i j : Nat} {x y : V} (h : i ≠ j) : wipe (((wipe σ [i, j]).set i (some x)).set j (some y)) [i, j] = wipe σ [i, j] := by
  show (((((σ.set j none).set i none).set i (some x)).set j (some y)).set j none).set i none = (σ.set j none).set i none
  rw [List.set_set, List.set_comm _ _ (Ne.symm h), List.set_set, List.set_set, List.set_comm _ _ h, List.set_set, List.set_comm _ _ (Ne.symm h)]
section
variable {X : Cx} {scope : Scope} {elt iter c : Expr} {Γ : Sl} {M : Mem} {P : PD} {pos px spos : Pos} {E : DE} {x y : Str}
theorem pe_b {s : Shared} {H : Hp} {C : Addr} {cl : List (Str × Addr)} {fp : List Addr} : PE (X.blk s H scope (compEnvC scope cl C X.env) fp) elt (tB X scope elt) := ⟨fun pins s σ H Q I ⟨Γ, M, P, hs, hm, h, k⟩ => thn ((h _ _ _ _ _).run pins s σ H I hs hm) fun u s' ⟨v, H', I', r, q⟩ => ⟨v, H', I', r, k v H' q⟩⟩
theorem pt_b {s : Shared} {H : Hp} {C : Addr} {cl : List (Str × Addr)} {fp : List Addr} : PT (X.blk s H scope (compEnvC scope cl C X.env) fp) c (tBT X scope c) := ⟨fun pins s σ H Q I ⟨Γ, M, P, hs, hm, h, k⟩ => thn ((h _ _ _ _ _).run pins s σ H I hs hm) fun u s' ⟨H', I', q⟩ => ⟨H', I', k u H' q⟩⟩
/-- the words of a comprehension over ds, its new list at p; Γ1 d: the slots at an item d -/
def LcJ (X : Cx) (scope : Scope) (elt : Expr) (ok : D → Prop) (Γ1 : D → Sl) (ds : List D) (keep : Mem → Prop) (p : Addr) (M1 : Mem) (P : PD) : Prop := (∀ d ∈ ds, ok d) ∧ ∃ J : Nat → Mem → Prop, J 0 (put M1 p (.lst [])) ∧ (∀ k M', k ≤ ds.length → J k M' → keep M') ∧
  (∀ (k : Nat) (d : D) (M' : Mem), ds[k]? = some d → J k M' → Blks X scope fun Y => WE Y elt (Γ1 d) M' fun y M3 => ∃ acc, M3 p = some (.lst acc) ∧ acc.length < sizeLine ∧ J (k + 1) (put M3 p (.lst (acc ++ [y])))) ∧ ∀ M', J ds.length M' → P (.ref p) M'
def LcJT (X : Cx) (scope : Scope) (c elt : Expr) (ok : D → Prop) (Γ1 : D → Sl) (ds : List D) (keep : Mem → Prop) (p : Addr) (M1 : Mem) (P : PD) : Prop := (∀ d ∈ ds, ok d) ∧ ∃ J : Nat → Mem → Prop, J 0 (put M1 p (.lst [])) ∧ (∀ k M', k ≤ ds.length → J k M' → keep M') ∧
  (∀ (k : Nat) (d : D) (M' : Mem), ds[k]? = some d → J k M' → Blks X scope fun Y => WT Y c (Γ1 d) M' fun b M2 => (b = true → Blks X scope fun Y => WE Y elt (Γ1 d) M2 fun y M3 => ∃ acc, M3 p = some (.lst acc) ∧ acc.length < sizeLine ∧ J (k + 1) (put M3 p (.lst (acc ++ [y])))) ∧ (b = false → J (k + 1) M2)) ∧
  ∀ M', J ds.length M' → P (.ref p) M'
/-- the item's elements go to slots -/
structure Gt (ok : D → Prop) (g : TG) (vs : List Nat) (Γ : Sl) (Γ1 : D → Sl) : Prop where
  go : ∀ (d : D) (v : V) (σ : L2.St) (H : Hp) (Q : L2.St → Hp → Prop), ok d → Is H d v → SIs H σ Γ → (∀ σ2, SIs H σ2 (Γ1 d) → wipe σ2 vs = wipe σ vs → Q σ2 H) → g v (wipe σ vs) H Q
theorem wipeD_set1 {Γ : Sl} {i : Nat} {d : D} : (wipeD Γ [i]).set i (some d) = Γ.set i (some d) := by
  show (Γ.set i none).set i (some d) = _
  rw [List.set_set]
theorem gt_name {i : Nat} : Gt (fun _ => True) (gName i) [i] Γ (fun d => Γ.set i (some d)) := ⟨fun d v σ H Q _ r hs k => k _ (by
  have z := (hs.wipe [i]).set (i := i) r
  rw [wipeD_set1] at z
  exact z) wipe1⟩
section
variable {wi : TI} {tg : Expr} {g : TG} {ok : D → Prop} {vs : List Nat} {Γ1 : D → Sl}
theorem wipeD_set2 {Γ : Sl} {i j : Nat} {d e : D} (h : i ≠ j) : ((wipeD Γ [i, j]).set i (some d)).set j (some e) = (Γ.set i (some d)).set j (some e) := by
  show ((((Γ.set j none).set i none).set i (some d)).set j (some e)) = _
  rw [List.set_set, List.set_comm _ _ (Ne.symm h), List.set_set, List.set_comm _ _ h]
def dPair (f : D → D → Sl) (z : Sl) : D → Sl
  | .tup [a, b] => f a b
  | _ => z
def isPair (d : D) : Prop := ∃ a b, d = .tup [a, b]
theorem gt_pair {K : PySem.W.Frag} {i j : Nat} (h : i ≠ j) : Gt isPair (gTup K 2 (gCons (gName i) (gCons (gName j) gNil))) [i, j] Γ (dPair (fun a b => (Γ.set i (some a)).set j (some b)) Γ) := ⟨fun d v σ H Q ⟨a, b, e⟩ r hs k => by
  subst e
  obtain ⟨p, xs, rfl, h1, h2⟩ := rI_t r
  cases h2 with
  | cons r1 t =>
    cases t with
    | cons r2 t =>
      cases t
      refine ⟨p, _, rfl, SqT.of h1, rfl, _, _, rfl, _, _, rfl, rfl, k _ ?_ (wipe2 h)⟩
      have z := ((hs.wipe [i, j]).set (i := i) r1).set (i := j) r2
      rw [wipeD_set2 h] at z
      exact z⟩
theorem lc_read {σ : L2.St} {H H1 : Hp} {J : It} {ds : List D} {keep : Mem → Prop} {M1 : Mem} (gt : Gt ok g vs Γ Γ1) (hs : SIs H σ Γ) (t : Tx H H1) (m : RelM H1 M1) (w : WalkD H1 J ds keep) (p : ∀ p, M1 p = none → LcJ X scope elt ok Γ1 ds keep p M1 P) :
    ∀ D, H1 D = none → ∃ W : Nat → Nat → Hp → Prop, (∃ m, W 0 m (upd H1 D (.lst []))) ∧ ∀ i m H', W i m H' →
      (J.stop i H' ∧ PostE H P (.ref D) H') ∨ (J.go i H' ∧ ∃ Nx : Hp → Prop, (∀ H', Nx H' → ∃ m', m' < m ∧ W (i + 1) m' H') ∧ ∀ x H2, J.yld i H' x H2 → g x (wipe σ vs) H2 fun σ2 H2 => wipe σ2 vs = wipe σ vs ∧ tYes σ2 H2 fun b H3 =>
        if b = true then tB X scope elt σ2 H3 fun y H4 => ∃ acc, H4 D = some (.lst acc) ∧ acc.length < sizeLine ∧ Nx (upd H4 D (.lst (acc ++ [y]))) else Nx H3) := by
  intro Dl hD
  obtain ⟨G, Y, w, wg, wy⟩ := w
  obtain ⟨okd, Jv, j0, jk, jt, jd⟩ := p Dl (m.free hD)
  refine lc_it w (fun i H' => ∃ M', Tx H1 H' ∧ RelM H' M' ∧ Jv i M') ⟨_, Tx.new hD, m.new hD (show MOk _ _ (.lst []) from ⟨[], upd_same, .nil⟩), j0⟩ (fun i H' hi ⟨M', t', m', j'⟩ => wg H' M' t' m' (jk i M' hi j')) (fun i x H' H2 hi ⟨M', t', m', j'⟩ y => ?_) fun H' ⟨M', t', m', j'⟩ => ⟨.ref Dl, M', t.trans t', .ref Dl, m', jd M' j'⟩
  obtain ⟨d, hd, r, t2, k2⟩ := wy i H' x H2 hi (wg H' M' t' m' (jk i M' (Nat.le_of_lt hi) j')) y
  have T := (t.trans t').trans t2
  refine gt.go d x σ H2 _ (okd d (List.mem_of_getElem? hd)) r (hs.mono T) fun σ2 hs2 hw => ⟨hw, ?_⟩
  show tB X scope elt σ2 H2 _
  refine ⟨Γ1 d, M', _, hs2, k2 M' m', jt i d M' hd j', fun v H4 ⟨y, M4, t4, r4, m4, acc, ha, hz, jn⟩ => ?_⟩
  obtain ⟨xs, h1, h2⟩ := m4 Dl _ ha
  have T4 : ∀ o, Tx H4 (upd H4 Dl o) := fun o => Tx.mut h1 (fun _ z => by cases z) (fun _ _ z => by cases z)
  exact ⟨xs, h1, by rw [← h2.length]; exact hz, _, ((t'.trans t2).trans t4).trans (T4 _), m4.set h1 (fun _ z => by cases z) (fun _ _ z => by cases z) (show MOk _ _ (.lst (acc ++ [y])) from ⟨_, upd_same, (h2.append (.cons r4 .nil)).mono (T4 _)⟩), jn⟩
theorem lc_readT {σ : L2.St} {H H1 : Hp} {J : It} {ds : List D} {keep : Mem → Prop} {M1 : Mem} (gt : Gt ok g vs Γ Γ1) (hs : SIs H σ Γ) (t : Tx H H1) (m : RelM H1 M1) (w : WalkD H1 J ds keep) (p : ∀ p, M1 p = none → LcJT X scope c elt ok Γ1 ds keep p M1 P) :
    ∀ D, H1 D = none → ∃ W : Nat → Nat → Hp → Prop, (∃ m, W 0 m (upd H1 D (.lst []))) ∧ ∀ i m H', W i m H' →
      (J.stop i H' ∧ PostE H P (.ref D) H') ∨ (J.go i H' ∧ ∃ Nx : Hp → Prop, (∀ H', Nx H' → ∃ m', m' < m ∧ W (i + 1) m' H') ∧ ∀ x H2, J.yld i H' x H2 → g x (wipe σ vs) H2 fun σ2 H2 => wipe σ2 vs = wipe σ vs ∧ tBT X scope c σ2 H2 fun b H3 =>
        if b = true then tB X scope elt σ2 H3 fun y H4 => ∃ acc, H4 D = some (.lst acc) ∧ acc.length < sizeLine ∧ Nx (upd H4 D (.lst (acc ++ [y]))) else Nx H3) := by
  intro Dl hD
  obtain ⟨G, Y, w, wg, wy⟩ := w
  obtain ⟨okd, Jv, j0, jk, jt, jd⟩ := p Dl (m.free hD)
  refine lc_it w (fun i H' => ∃ M', Tx H1 H' ∧ RelM H' M' ∧ Jv i M') ⟨_, Tx.new hD, m.new hD (show MOk _ _ (.lst []) from ⟨[], upd_same, .nil⟩), j0⟩ (fun i H' hi ⟨M', t', m', j'⟩ => wg H' M' t' m' (jk i M' hi j')) (fun i x H' H2 hi ⟨M', t', m', j'⟩ y => ?_) fun H' ⟨M', t', m', j'⟩ => ⟨.ref Dl, M', t.trans t', .ref Dl, m', jd M' j'⟩
  obtain ⟨d, hd, r, t2, k2⟩ := wy i H' x H2 hi (wg H' M' t' m' (jk i M' (Nat.le_of_lt hi) j')) y
  have T := (t.trans t').trans t2
  refine gt.go d x σ H2 _ (okd d (List.mem_of_getElem? hd)) r (hs.mono T) fun σ2 hs2 hw => ⟨hw, ?_⟩
  refine ⟨Γ1 d, M', _, hs2, k2 M' m', jt i d M' hd j', fun b H3 ⟨M3, t3, m3, pt, pf⟩ => ?_⟩
  cases b with
  | false => exact ⟨M3, (t'.trans t2).trans t3, m3, pf rfl⟩
  | true =>
    show tB X scope elt σ2 H3 _
    refine ⟨Γ1 d, M3, _, hs2.mono t3, m3, pt rfl, fun v H4 ⟨y, M4, t4, r4, m4, acc, ha, hz, jn⟩ => ?_⟩
    obtain ⟨xs, h1, h2⟩ := m4 Dl _ ha
    have T4 : ∀ o, Tx H4 (upd H4 Dl o) := fun o => Tx.mut h1 (fun _ z => by cases z) (fun _ _ z => by cases z)
    exact ⟨xs, h1, by rw [← h2.length]; exact hz, _, (((t'.trans t2).trans t3).trans t4).trans (T4 _), m4.set h1 (fun _ z => by cases z) (fun _ _ z => by cases z) (show MOk _ _ (.lst (acc ++ [y])) from ⟨_, upd_same, (h2.append (.cons r4 .nil)).mono (T4 _)⟩), jn⟩
/-- [elt for tg in iter] -/
theorem we_lcG {own : List (Str × Nat)} (hc : X.calm = true) (nd : X.N.Nodup) (bk : BlkOk X.N X.env.scope scope own) (hown : own.map (·.2) = vs) (gt : Gt ok g vs Γ Γ1)
    (hg : ∀ (s : Shared) (H : Hp) (C : Addr) (cl : List (Str × Addr)) (fp : List Addr), PG (X.blk s H scope (compEnvC scope cl C X.env) fp) tg g)
    (h : WI X tg iter Γ M fun ds keep M1 => ∀ p, M1 p = none → LcJ X scope elt ok Γ1 ds keep p M1 P) (hs : ∀ x, foldedSetIterable iter X.env x = pure x := by intro _; rfl) : WE X (.ListComp elt [⟨tg, iter, [], 0⟩] scope pos) Γ M P := by
  subst hown
  exact we_of (pe_lc hc nd pi_w bk hg (fun _ _ _ _ _ => pts_nil) (fun _ _ _ _ _ => pe_b) hs) fun σ H hs hm => ⟨Γ, M, _, hs, hm, h, fun J H1 ds keep M1 t m p w => lc_read gt hs t m w p⟩
theorem we_lcTG {own : List (Str × Nat)} (hc : X.calm = true) (nd : X.N.Nodup) (bk : BlkOk X.N X.env.scope scope own) (hown : own.map (·.2) = vs) (gt : Gt ok g vs Γ Γ1)
    (hg : ∀ (s : Shared) (H : Hp) (C : Addr) (cl : List (Str × Addr)) (fp : List Addr), PG (X.blk s H scope (compEnvC scope cl C X.env) fp) tg g)
    (h : WI X tg iter Γ M fun ds keep M1 => ∀ p, M1 p = none → LcJT X scope c elt ok Γ1 ds keep p M1 P) (hs : ∀ x, foldedSetIterable iter X.env x = pure x := by intro _; rfl) : WE X (.ListComp elt [⟨tg, iter, [c], 0⟩] scope pos) Γ M P := by
  subst hown
  exact we_of (pe_lc hc nd pi_w bk hg (fun _ _ _ _ _ => pts_one pt_b) (fun _ _ _ _ _ => pe_b) hs) fun σ H hs hm => ⟨Γ, M, _, hs, hm, h, fun J H1 ds keep M1 t m p w => lc_readT gt hs t m w p⟩
/-- y = [elt for tg in iter] -/
theorem ws_lcG (i : Nat) {own : List (Str × Nat)} {py : Pos} (hc : X.calm = true) (nd : X.N.Nodup) (hsw : swapsWith (.ListComp elt [⟨tg, iter, [], 0⟩] scope pos) (some (.Name y py)) spos.line X.env = pure true) (bk : BlkOk X.N X.env.scope scope own) (hown : own.map (·.2) = vs) (gt : Gt ok g vs Γ Γ1)
    (hg : ∀ (s : Shared) (H : Hp) (C : Addr) (cl : List (Str × Addr)) (fp : List Addr), PG (X.blk s H scope (compEnvC scope cl C X.env) fp) tg g)
    (h : WI X tg iter Γ M fun ds keep M1 => ∀ p, M1 p = none → LcJ X scope elt ok Γ1 ds keep p M1 fun d M' => E.nx (Γ.set i (some d)) M') (hy : X.N[i]? = some y := by rfl) (hyl : X.env.scope.names.lookup y = some .local := by rfl)
    (hs : ∀ x, foldedSetIterable iter X.env x = pure x := by intro _; rfl) : WS X (.Assign [.Name y py] (.ListComp elt [⟨tg, iter, [], 0⟩] scope pos) spos) Γ M E := by
  subst hown
  exact ws_of (ps_setLc hc nd hy hyl hsw pi_w bk hg (fun _ _ _ _ _ => pts_nil) (fun _ _ _ _ _ => pe_b) hs) fun σ H Dn hs hm lk => ⟨Γ, M, _, hs, hm, h, fun J H1 ds keep M1 t m p w Dl hD => by
    obtain ⟨W, w0, wt⟩ := lc_read (P := fun d M' => E.nx (Γ.set i (some d)) M') gt hs t m w p Dl hD
    refine ⟨W, w0, fun i' m' H' hw => ?_⟩
    rcases wt i' m' H' hw with ⟨st, d, M', t', r', m', p'⟩ | go
    · exact .inl ⟨st, lk.nx _ H' _ M' t' ((hs.mono t').set r') m' p'⟩
    · exact .inr go⟩
theorem ws_lcTG (i : Nat) {own : List (Str × Nat)} {py : Pos} (hc : X.calm = true) (nd : X.N.Nodup) (hsw : swapsWith (.ListComp elt [⟨tg, iter, [c], 0⟩] scope pos) (some (.Name y py)) spos.line X.env = pure true) (bk : BlkOk X.N X.env.scope scope own) (hown : own.map (·.2) = vs) (gt : Gt ok g vs Γ Γ1)
    (hg : ∀ (s : Shared) (H : Hp) (C : Addr) (cl : List (Str × Addr)) (fp : List Addr), PG (X.blk s H scope (compEnvC scope cl C X.env) fp) tg g)
    (h : WI X tg iter Γ M fun ds keep M1 => ∀ p, M1 p = none → LcJT X scope c elt ok Γ1 ds keep p M1 fun d M' => E.nx (Γ.set i (some d)) M') (hy : X.N[i]? = some y := by rfl) (hyl : X.env.scope.names.lookup y = some .local := by rfl)
    (hs : ∀ x, foldedSetIterable iter X.env x = pure x := by intro _; rfl) : WS X (.Assign [.Name y py] (.ListComp elt [⟨tg, iter, [c], 0⟩] scope pos) spos) Γ M E := by
  subst hown
  exact ws_of (ps_setLc hc nd hy hyl hsw pi_w bk hg (fun _ _ _ _ _ => pts_one pt_b) (fun _ _ _ _ _ => pe_b) hs) fun σ H Dn hs hm lk => ⟨Γ, M, _, hs, hm, h, fun J H1 ds keep M1 t m p w Dl hD => by
    obtain ⟨W, w0, wt⟩ := lc_readT (P := fun d M' => E.nx (Γ.set i (some d)) M') gt hs t m w p Dl hD
    refine ⟨W, w0, fun i' m' H' hw => ?_⟩
    rcases wt i' m' H' hw with ⟨st, d, M', t', r', m', p'⟩ | go
    · exact .inl ⟨st, lk.nx _ H' _ M' t' ((hs.mono t').set r') m' p'⟩
    · exact .inr go⟩
end
/-- a pure comprehension's words: each item's element is f of it, the memory as it was -/
theorem lcj_map {ok : D → Prop} {Γ1 : D → Sl} {ds : List D} {keep : Mem → Prop} {p : Addr} {M1 : Mem} (f : D → D) (hz : ds.length ≤ 1000000) (hk : ∀ l, keep (put M1 p (.lst l))) (hok : ∀ d ∈ ds, ok d)
    (h : ∀ (k : Nat) (d : D), ds[k]? = some d → ∀ l, Blks X scope fun Y => WE Y elt (Γ1 d) (put M1 p (.lst l)) fun y M3 => y = f d ∧ M3 = put M1 p (.lst l)) (q : P (.ref p) (put M1 p (.lst (ds.map f)))) : LcJ X scope elt ok Γ1 ds keep p M1 P := by
  refine ⟨hok, fun k M' => M' = put M1 p (.lst ((ds.take k).map f)), rfl, fun k M' _ e => by rw [e]; exact hk _, fun k d M' hd e => ?_, fun M' e => by rw [e, List.take_length]; exact q⟩
  subst e
  intro s H C cl fp
  have z := h k d hd ((ds.take k).map f) s H C cl fp
  refine ⟨fun pins s σ H I hs hm => thn (z.run pins s σ H I hs hm) fun u s' ⟨v, H', I', r, y, M', t, r', m, ey, em⟩ => ⟨v, H', I', r, y, M', t, r', m, (ds.take k).map f, ?_, ?_, ?_⟩⟩
  · rw [em, put_same]
  · have e0 := List.length_take_le' k ds
    have e1 : sizeLine = 16777216 := sizeLine_eq
    rw [List.length_map]
    omega
  · show put M' p _ = put M1 p _
    rw [em, put_put, ey, List.take_add_one, hd]
    simp
end
/-! ### a weaker wish -/
theorem WE.imp {X : Cx} {e : Expr} {Γ : Sl} {M : Mem} {P P' : PD} (h : WE X e Γ M P) (k : ∀ d M', P d M' → P' d M') : WE X e Γ M P' := ⟨fun pins s σ H I hs hm => thn (h.run pins s σ H I hs hm) fun u s' ⟨v, H', I', r, d, M', t, r', m, p⟩ => ⟨v, H', I', r, d, M', t, r', m, k d M' p⟩⟩
theorem WE.sub {X : Cx} {e : Expr} {Γ : Sl} {M M0 : Mem} {P : PD} (h : WE X e Γ M P) (k : Sub M M0) : WE X e Γ M0 P := ⟨fun pins s σ H I hs hm => h.run pins s σ H I hs (hm.sub k)⟩
theorem WSs.sub {X : Cx} {e : List Stmt} {Γ : Sl} {M M0 : Mem} {E : DE} (h : WSs X e Γ M E) (k : Sub M M0) : WSs X e Γ M0 E := ⟨fun pins s σ H Dn I hs hm lk => h.run pins s σ H Dn I hs (hm.sub k) lk⟩
/-! ### the same heap under another telling -/
def Re (M M0 : Mem) : Prop := ∀ H, RelM H M → RelM H M0
theorem Re.refl (M : Mem) : Re M M := fun _ h => h
theorem Re.trans {M M1 M2 : Mem} (a : Re M M1) (b : Re M1 M2) : Re M M2 := fun H h => b H (a H h)
theorem Re.sub {M M1 : Mem} (h : Sub M1 M) : Re M M1 := fun H r => r.sub h
theorem WE.re {X : Cx} {e : Expr} {Γ : Sl} {M M0 : Mem} {P : PD} (k : Re M M0) (h : WE X e Γ M0 P) : WE X e Γ M P := ⟨fun pins s σ H I hs hm => h.run pins s σ H I hs (k H hm)⟩
theorem WG.re {X : Cx} {e : Expr} {d : D} {Γ : Sl} {M M0 : Mem} {P : Sl → Mem → Prop} (k : Re M M0) (h : WG X e d Γ M0 P) : WG X e d Γ M P := ⟨fun pins s σ H v u I r hd hs hm => h.run pins s σ H v u I r hd hs (k H hm)⟩
theorem WS.re {X : Cx} {e : Stmt} {Γ : Sl} {M M0 : Mem} {E : DE} (k : Re M M0) (h : WS X e Γ M0 E) : WS X e Γ M E := ⟨fun pins s σ H Dn I hs hm lk => h.run pins s σ H Dn I hs (k H hm) lk⟩
theorem WSs.re {X : Cx} {e : List Stmt} {Γ : Sl} {M M0 : Mem} {E : DE} (k : Re M M0) (h : WSs X e Γ M0 E) : WSs X e Γ M E := ⟨fun pins s σ H Dn I hs hm lk => h.run pins s σ H Dn I hs (k H hm) lk⟩
theorem re_put {M : Mem} {a : Addr} {m m' : MO} (h : M a = some m) (k : ∀ H, MOk H a m → MOk H a m') : Re M (put M a m') := fun H r b u e => by
  by_cases q : b = a
  · subst q
    rw [put_same] at e
    cases e
    exact k H (r b m h)
  · rw [put_ne q] at e
    exact r b u e
theorem re_pin {M : Mem} {a : Addr} {l : List D} (h : M a = some (.lst l)) : Re M (put M a (.pin l)) := re_put h fun _ z => z
theorem re_lst {M : Mem} {a : Addr} {l : List D} (h : M a = some (.pin l)) : Re M (put M a (.lst l)) := re_put h fun _ z => z
/-- back again -/
theorem re_back {M : Mem} {a : Addr} {l : List D} (h : M a = some (.pin l)) : Re (put M a (.lst l)) M := by
  have e : put (put M a (.lst l)) a (.pin l) = M := by
    funext b
    by_cases q : b = a
    · subst q; rw [put_same, h]
    · rw [put_ne q, put_ne q]
  have := re_pin (M := put M a (.lst l)) put_same
  rw [e] at this
  exact this
/-! ### defs -/
def start (N : List Str) (ds : List D) : Sl := ds.map some ++ List.replicate (N.length - ds.length) none
section
variable {P : Program} {w : World} {K : PySem.W.Frag} {mg : Str → Option Value} {base : Heap}
/-- THE RULE of a def, by data: its body from the arguments; nothing is raised -/
theorem fn_ok {x qual : Str} {params : Arguments} {body : List Stmt} {scope : Scope} {f : Addr} {fd : FuncData} {N ps : List Str} {k : Nat} {sp : DSp} (F : FunD K x qual params body scope [] [] f fd) (S : FnScope N ps scope) (len : ∀ ds M P R, sp ds M P R → ds.length = ps.length)
    (hbody : ∀ (cdv : Value) (A : Around) (outer : List Env) (s : Shared) (H : Hp) (E : XK) (ds : List D) (M : Mem) (Q : PD) (R : XD), Room k (cxOf CX0 P w K mg base N qual scope f cdv A outer s H E).nox.A → sp ds M Q R →
      WSs (cxOf CX0 P w K mg base N qual scope f cdv A outer s H E).nox body (start N ds) M { nx := fun _ M' => ∃ M2, Sub M2 M' ∧ Q .non M2, rt := fun d M' => ∃ M2, Sub M2 M' ∧ Q d M2 }) : FnOk P w K mg base CX0 (k + 1) f fd ps (lift sp) := by
  refine F.ok S (fun vs H Q E ⟨ds, M, P, R, r, hm, h, _⟩ => by rw [← r.length]; exact len _ _ _ _ h) fun cdv A outer s H vs Q E hr ⟨ds, M, P', R, r, hm, h, k1, k2⟩ => ?_
  refine ⟨_, PSs.nox pss_w, start N ds, M, _, SIs.start r N, hm, hbody cdv A outer s H E ds M P' R hr h, ?_⟩
  exact ⟨fun σ' H' Γ' M' t s' m' ⟨M2, su, q⟩ => k1 .non H' ⟨.non, M2, t, .non, m'.sub su, q⟩, fun v H' d M' t r' m' ⟨M2, su, q⟩ => k1 v H' ⟨d, M2, t, r', m'.sub su, q⟩, fun _ _ _ _ _ _ _ z => z.elim, fun _ _ _ _ _ _ _ z => z.elim⟩
end
end DL

set_option Elab.async false
set_option linter.all false
set_option maxRecDepth 100000
set_option maxHeartbeats 4000000
/-! DLh: enumerate over a tuple; keyword calls; repr; pairs as targets of a comprehension. -/
namespace DL
open PySem PySem.Spec PyProof.Rows L2
theorem newCall_enum1 (v : Value) : checkBuiltinCall "enumerate.__new__" ⟨[.type "enumerate", v], []⟩ = pure () := by kernel_rfl
set_option maxHeartbeats 1000000 in
theorem meets_enum1 {v : Value} {o : Obj} {H : Heap → Prop} (B : Begins v o H) :
    Meets (Builtin.«enumerate.__new__» ⟨[.type "enumerate", v], []⟩) (fun _ R s => H s.heap ∧
      R (.ok (.ret (.ref (s.heap.push o).objs.size))) { s with heap := (s.heap.push o).push { cls := .type "enumerate", data := .fields #[.none, .bool false, .ref s.heap.objs.size, rawInt 0, .none, .none] } }) :=
  .of_wp fun prog w A R s h => by
    obtain ⟨hp, g, d, tk, os⟩ := s; obtain ⟨h1, h⟩ := h
    have hsub := sub_enumerate
    have q1 : ∀ {A' : Around} {E : Value → Shared → Prop} {Q : Value → Shared → Prop}, Q (.ref hp.objs.size) ⟨hp.push o, g, d, tk, os⟩ → wpAny (model prog w) A' (pyIter v) Q E ⟨hp, g, d, tk, os⟩ :=
      fun q => B.iter prog w _ _ ⟨hp, g, d, tk, os⟩ _ h1 q
    wp_walk using q1
    refine wpAny_stack_any fun st => wpAny_pure ?_
    split
    · rename_i c _ _ _ _ _
      cases (c == Value.type "enumerate")
      · wp_walk using q1
        exact ⟨_, rfl, h⟩
      · wp_walk using q1
        exact ⟨_, rfl, h⟩
    · wp_walk using q1
      exact ⟨_, rfl, h⟩
section
variable {prog : Program} {w : World} {A : Around} {E : Value → Shared → Prop} {s : Shared}
theorem enum_begins1 {v : Value} {o : Obj} {H : Heap → Prop} {Q : Value → Shared → Prop} (B : Begins v o H) (h1 : H s.heap)
    (h : ∀ h', IsEnum h' (s.heap.objs.size + 1) s.heap.objs.size 0 .none → h'.get? s.heap.objs.size = some o → h'.objs.size = s.heap.objs.size + 2 →
      (∀ b o, s.heap.get? b = some o → h'.get? b = some o) → Q (.ref (s.heap.objs.size + 1)) { s with heap := h' }) :
    wpAny (model prog w) A (call (.type "enumerate") [v]) Q E s := by
  refine callType_new F.called_enumerate (by decide) (F.typeCall_enumerate_1 _) (newCall_enum1 _) (fun obj => F.args_object_init_2 obj _) F.entry_enumerate_new
    (meets_enum1 B) ⟨h1, ?_⟩
  have hz : (s.heap.push o).objs.size = s.heap.objs.size + 1 := Heap.size_push ..
  show _ ∧ _
  rw [hz]
  have he : IsEnum ((s.heap.push o).push { cls := .type "enumerate", data := .fields #[.none, .bool false, .ref s.heap.objs.size, rawInt 0, .none, .none] }) (s.heap.objs.size + 1) s.heap.objs.size 0 .none := by
    have := Heap.get?_push_size (s.heap.push o) (o := { cls := .type "enumerate", data := .fields #[.none, .bool false, .ref s.heap.objs.size, rawInt 0, .none, .none] }) rfl
    rw [hz] at this; exact this
  refine ⟨⟨_, he, rfl⟩, h _ he (Heap.get?_push_of_some _ (Heap.get?_push_size _ B.free)) (by rw [Heap.size_push, hz]) fun b o x => Heap.get?_push_of_some _ (Heap.get?_push_of_some _ x)⟩
end
/-- the tuple at a, each item in a new pair -/
def IteT (K : PySem.W.Frag) (a : Addr) : It :=
  ⟨fun i H => ∃ (xs : List V) (x : V), SqT K H a xs ∧ xs[i]? = some x, fun i H v H' => ∃ T x, v = .ref T ∧ H T = none ∧ H' = upd H T (.tup [.int (i : Nat), x]) ∧ ∀ xs, SqT K H a xs → xs[i]? = some x, fun i H => ∃ xs : List V, SqT K H a xs ∧ xs.length ≤ i⟩
theorem turn_enumT {P : Program} {w : World} {K : PySem.W.Frag} {elts : List Expr} {kk : Nat} {tpos : Pos} (a e it : Addr) :
    Turn P w K (.Tuple elts kk tpos) (IteT K a) [e, it] e (fun i h => (∃ old, IsEnum h e it ((i : Nat) : Int) old) ∧ h.IsTupleIter it a i ∧ e ≠ it ∧ a ≠ it ∧ a ≠ e) where
  mem := by simp
  obj := fun i h st b hb => by
    obtain ⟨⟨old, he⟩, ⟨o, ho, hc, hd⟩, _⟩ := st
    have e' : b = e ∨ b = it := by simpa using hb
    rcases e' with z | z
    · rw [z]; exact ⟨_, he, fun v q => nomatch q⟩
    · rw [z]; exact ⟨o, ho, fun v q => by rw [hd] at q; cases q⟩
  keep := fun i h h' st k => let ⟨⟨old, he⟩, hi, hne⟩ := st; ⟨⟨old, k e (by simp) _ he⟩, hi.at fun o q => k it (by simp) o q, hne⟩
  item := by
    intro X hP hw hK hc i pins s σ H E I hf st hg
    subst hP hw hK
    obtain ⟨⟨old, he⟩, hit, hne, ha, hae⟩ := st
    obtain ⟨xs, x, hq, hx⟩ := hg
    obtain ⟨its, rv, p, hz⟩ := I.tuple hq
    obtain ⟨u, hu, ru⟩ := rv.get hx
    have hel : e < s.heap.objs.size := Heap.lt_size he
    have hil : it < s.heap.objs.size := by obtain ⟨_, q, _⟩ := hit; exact Heap.lt_size q
    have p' : s.heap.IsTuple a its.toArray := p
    have hlt : i < its.toArray.size := by
      have := (List.getElem?_eq_some_iff.mp hu).1
      simpa using this
    refine wpAny_pyNext_enum_itemD (Draws.tuple (prog := X.prog) (w := X.w) (A := X.A.in1) (I.ok.hd hc) it a ha its.toArray) he ⟨hit, p'⟩ hlt hne (fun hm => ?_) fun y h' tk hP ho st' hT hsz hk => ?_
    · have e' : e = it ∨ e = a := by simpa using hm
      rcases e' with z | z
      · exact hne z
      · exact hae z.symm
    obtain ⟨hit', _⟩ := st'
    have ey : y = u := by
      have hu' : its.toArray[i]? = some u := by simpa using hu
      rw [hu'] at hP
      exact (Option.some.inj hP).symm
    subst ey
    refine ⟨_, rfl, wpAny_letOwnedTupleGo_enum (s := { s with heap := h', toks := tk + 1 }) ho fun h'' he' sb => ?_⟩
    have hT2 : h''.get? s.heap.objs.size = some { cls := .type "tuple", data := .seq #[.int i tk, y] } := (sb.2 _ (Nat.ne_of_gt hel)).trans hT
    have new : ObjOk X.prog X.w (upd H s.heap.objs.size (.tup [.int (i : Nat), x])) h'' s.heap.objs.size (.tup [.int (i : Nat), x]) :=
      ⟨by show 2 ≤ sizeLine; decide, [.int i tk, y], .cons ⟨_, rfl⟩ (.cons ru .nil), ⟨_, hT2, rfl, _, rfl⟩⟩
    have I1 : Inv X pins σ (upd H s.heap.objs.size (.tup [.int (i : Nat), x])) { s with heap := h'', toks := tk + 1 } :=
      I.turnedNew (ch := [e, it]) (fun b ob hb q => (sb.2 b (fun z => hb (by simp [z]))).trans (hk b ob (fun z => hb (by simp [z])) (fun z => hb (by simp [z])) q)) hf (Nat.le_refl _) new
    refine ⟨.ref s.heap.objs.size, _, I1, rfl, ⟨_, x, rfl, I.hok.fresh (Nat.le_refl _), rfl, fun ys hy => by rw [I.tuple_inj hy hq]; exact hx⟩, ⟨⟨y, ?_⟩, hit'.at fun o q => (sb.2 it (Ne.symm hne)).trans q, hne, ha, hae⟩, fun b hb => ?_⟩
    · have e1 : ((i + 1 : Nat) : Int) = (i : Int) + 1 := by omega
      rw [e1]; exact he'
    · have hb' : b < s.heap.objs.size := by
        have e' : b = e ∨ b = it := by simpa using hb
        rcases e' with z | z
        · rw [z]; exact hel
        · rw [z]; exact hil
      rw [upd_ne (Nat.ne_of_lt hb')]
      exact (hf b hb).1
  done := by
    intro X hP hw hK hc i pins s σ H E I hf st hg
    subst hP hw hK
    obtain ⟨⟨old, he⟩, hit, hne, ha, hae⟩ := st
    obtain ⟨xs, hq, hx⟩ := hg
    obtain ⟨its, rv, p, hz⟩ := I.tuple hq
    obtain ⟨f0, f1, f2, f3, f4, f5⟩ := hf it (by simp)
    have hl := rv.length
    have D : Draws X.prog X.w X.A.in1 it [it, a] i (fun _ _ => True) (fun j h => j = i ∧ h.IsTupleIter it a i ∧ h.IsTuple a its.toArray) := {
      live := fun _ _ st => let ⟨o, ho, _⟩ := st.2.1; ⟨o, ho⟩
      frame := fun _ _ _ st hk => ⟨st.1, st.2.1.at fun o e => hk it (by simp) o e, st.2.2.at fun o e => hk a (by simp) o e⟩
      item := fun j s Q E hj st hQ => (Nat.lt_irrefl _ (st.1 ▸ hj)).elim
      done := fun s Q E st hE => wpAny_nextOf_tuple_end (I.ok.hd hc) st.2.1 st.2.2 (by simp; omega) hE }
    exact wpAny_pyNext_enum_endD D he ⟨rfl, hit, p⟩ fun h' eb => ⟨rfl, I.turned (t' := s.toks) (fun b o hb q => eb b o hb q) f0 f1 f3 f4 f5⟩
  self := fun A i s Q E st h => let ⟨⟨_, he⟩, _⟩ := st; wpAny_pyIter_enum he h
theorem pi_enumT {X : Cx} {e : Expr} {ta : TA} {p pos tpos : Pos} {elts : List Expr} {kk : Nat} (hg : Gl X "enumerate") (hm : X.mg "enumerate" = none) (ha : PA X [e] ta) (hs : starEach [e] X.env = [(false, eval e X.env)] := by rfl) :
    PI X (.Tuple elts kk tpos) (.Call (.Name "enumerate" p) [e] [] pos) (fun σ H R => ta σ H fun vs H1 => ∃ a xs, vs = [.ref a] ∧ SqT X.K H1 a xs ∧ R (IteT X.K a) H1) := by
  refine ⟨fun pins s σ H R I h => ?_⟩
  refine Call_ (ld_blt I hg hm boot_enumerate (PyProof.Rows.callWith_type1 (thn (ha.run pos pins s σ H _ I h) fun us s1 ⟨vs, H1, I1, r1, q1⟩ => ?_) hs rfl))
  obtain ⟨a, xs, ex, hq, q⟩ := q1
  subst ex
  cases r1 with
  | cons r rr =>
    cases rr
    cases r
    obtain ⟨its, rv, p', hz⟩ := I1.tuple hq
    have pt : s1.heap.IsTuple a its.toArray := p'
    refine enum_begins1 (begins_tuple a its.toArray) pt fun h' he hit hsz hk => wpAny_pyIter_enum he ?_
    have I2 : Inv X pins σ H1 { s1 with heap := h' } := I1.kept (t' := s1.toks) hk
    have hal : a < s1.heap.objs.size := by obtain ⟨o, ho, _⟩ := pt; exact Heap.lt_size ho
    refine ⟨s1.heap.objs.size + 1, [s1.heap.objs.size + 1, s1.heap.objs.size], _, _, H1, rfl, I2, turn_enumT a (s1.heap.objs.size + 1) s1.heap.objs.size, ⟨⟨.none, he⟩, ⟨_, hit, rfl, rfl⟩, Nat.succ_ne_self _, Nat.ne_of_lt hal, Nat.ne_of_lt (Nat.lt_succ_of_lt hal)⟩, fun b hb => ?_, q⟩
    have e' : b = s1.heap.objs.size + 1 ∨ b = s1.heap.objs.size := by simpa using hb
    have hle : s1.heap.objs.size ≤ b := by
      rcases e' with z | z
      · rw [z]; exact Nat.le_add_right _ _
      · rw [z]; exact Nat.le_refl _
    exact I1.fpOk hle (I1.hok.fresh hle)
def enumD (l : List D) : List D := (List.range l.length).map fun i => D.tup [.int (i : Nat), l.getD i .non]
theorem enumD_at {l : List D} {i : Nat} {d : D} (h : l[i]? = some d) : (enumD l)[i]? = some (.tup [.int (i : Nat), d]) := by
  have hi : i < l.length := (List.getElem?_eq_some_iff.mp h).1
  unfold enumD
  rw [List.getElem?_map, List.getElem?_range hi]
  simp [List.getD, h]
theorem enumD_len {l : List D} : (enumD l).length = l.length := by unfold enumD; rw [List.length_map, List.length_range]
theorem walkD_enumT {K : PySem.W.Frag} {H : Hp} {a : Addr} {l : List D} {xs : List V} (h1 : H a = some (.tup xs)) (h2 : IsL H l xs) : WalkD H (IteT K a) (enumD l) kAll := by
  refine ⟨fun H' => Tx H H', fun i H x H' => (IteT K a).yld i H x H', ?_, fun H' M t _ _ => t, fun i H1 x H2 hi t y => ?_⟩
  · rw [enumD_len]
    refine ⟨fun i H' hi t => ?_, fun H' t => ⟨xs, SqT.of (t.t _ _ h1), by rw [h2.length]; exact Nat.le_refl _⟩, fun i H' x H2 hi _ y => y⟩
    obtain ⟨v, hv, _⟩ := h2.get (List.getElem?_eq_getElem hi)
    exact ⟨xs, v, SqT.of (t.t _ _ h1), hv⟩
  · obtain ⟨T, v, e, hT, eH, q⟩ := y
    subst e eH
    obtain ⟨d, hd, r⟩ := h2.back (q xs (SqT.of (t.t _ _ h1)))
    exact ⟨_, enumD_at hd, .tup upd_same (.cons (.int _) (.cons ((r.mono t).mono (Tx.new hT)) .nil)), Tx.new hT, fun M r => r.fresh hT⟩
section
variable {X : Cx} {Γ : Sl} {M : Mem} {e : Expr} {p pos : Pos}
theorem wi_enumT {elts : List Expr} {kk : Nat} {tpos : Pos} {P : List D → (Mem → Prop) → Mem → Prop} (hz : X.mg "enumerate" = none) (h : WE X e Γ M fun d M1 => ∃ l, d = .tup l ∧ P (enumD l) kAll M1) (hg : Gl X "enumerate" := by rfl)
    (hs : starEach [e] X.env = (false, eval e X.env) :: starEach [] X.env := by rfl) (hs2 : starEach [e] X.env = [(false, eval e X.env)] := by rfl) : WI X (.Tuple elts kk tpos) (.Call (.Name "enumerate" p) [e] [] pos) Γ M P :=
  wi_of (pi_enumT hg hz (pa_cons pe_w pa_nil hs) hs2) fun σ H hs hm => tw h hs hm fun v H1 d M1 t r m ⟨l, ed, p⟩ => by
    subst ed
    obtain ⟨a, xs, rfl, h1, h2⟩ := rI_t r
    exact ⟨a, xs, rfl, SqT.of h1, enumD l, kAll, M1, t, m, p, walkD_enumT h1 h2⟩
end
end DL

set_option Elab.async false
set_option linter.all false
set_option maxRecDepth 100000
set_option maxHeartbeats 4000000
/-! DLi: repr of nested data; calls by keywords; the law's own entry (no repr under way there). -/
namespace DL
open PySem PySem.Spec PyProof.Rows L2
/-! ### repr -/
mutual
def toP : D → Option PyData
  | .non => some .none
  | .bl b => some (.bool b)
  | .int i => some (.int i)
  | .str x => some (.str x)
  | .tup l => (toPs l).map PyData.tuple
  | .ref _ => none
  | .ty _ => none
  | .rol _ => none
def toPs : List D → Option (List PyData)
  | [] => some []
  | d :: l => (toP d).bind fun p => (toPs l).map fun ps => p :: ps
end
section
variable {X : Cx} {pins : List (Addr × Obj)} {σ : L2.St} {H : Hp} {s : Shared}
mutual
theorem reads_of (I : Inv X pins σ H s) : ∀ {d : D} {v : V} {u : Value} {p : PyData}, Is H d v → RelV v u → toP d = some p → ∃ as, Reads s.heap u p as
  | .non, _, _, _, .non, r, e => by
    rw [toP] at e
    cases e
    cases r
    exact ⟨_, .none⟩
  | .bl b, _, _, _, .bl _, r, e => by
    rw [toP] at e
    cases e
    cases r
    exact ⟨_, .bool b⟩
  | .int b, _, _, _, .int _, r, e => by
    rw [toP] at e
    cases e
    obtain ⟨t, r⟩ := r
    subst r
    exact ⟨_, .int b t⟩
  | .str b, _, _, _, .str _, r, e => by
    rw [toP] at e
    cases e
    obtain ⟨t, r⟩ := r
    subst r
    exact ⟨_, .str b t⟩
  | .tup l, _, _, _, .tup h1 h2, r, e => by
    rw [toP] at e
    cases q : toPs l with
    | none => rw [q] at e; cases e
    | some ps =>
      rw [q] at e
      cases e
      cases r
      obtain ⟨its, rv, ht, hz⟩ := I.tuple (SqT.of h1)
      obtain ⟨as, ra⟩ := readsAll_of I h2 rv q
      obtain ⟨o, ho, hc, n, hd⟩ := ht
      exact ⟨as, .tuple ho hc hd (by simpa using ra)⟩
  | .ref _, _, _, _, _, _, e => by rw [toP] at e; cases e
  | .ty _, _, _, _, _, _, e => by rw [toP] at e; cases e
  | .rol _, _, _, _, _, _, e => by rw [toP] at e; cases e
theorem readsAll_of (I : Inv X pins σ H s) : ∀ {l : List D} {vs : List V} {us : List Value} {ps : List PyData}, IsL H l vs → Vals vs us → toPs l = some ps → ∃ as, ReadsAll s.heap us ps as
  | [], _, _, _, .nil, r, e => by
    rw [toPs] at e
    cases e
    cases r
    exact ⟨_, .nil⟩
  | d :: l, _, _, _, .cons h1 h2, r, e => by
    rw [toPs] at e
    cases q1 : toP d with
    | none => rw [q1] at e; cases e
    | some p =>
      rw [q1] at e
      cases q2 : toPs l with
      | none => rw [q2] at e; cases e
      | some ps =>
        rw [q2] at e
        cases e
        cases r with
        | cons r1 r2 =>
          obtain ⟨as, ra⟩ := reads_of I h1 r1 q1
          obtain ⟨bs, rb⟩ := readsAll_of I h2 r2 q2
          exact ⟨_, .cons ra rb⟩
end
end
/-- repr of a list of tuples and scalars -/
def BRepr : BC := fun ds M P => ∃ (a : Addr) (l : List D) (ps : List PyData), ds = [.ref a] ∧ M a = some (.lst l) ∧ toPs l = some ps ∧ (PyData.list ps).showable = true ∧ (PyData.list ps).hasDict = false ∧ (PyData.list ps).depth ≤ 60 ∧ (PyData.list ps).shown.length ≤ sizeLine ∧ P (.str (PyData.list ps).shown) M
theorem cd_repr {X : Cx} (hg : X.A.guards = some []) (hu : X.A.units + 64 < cLine) : CaD X (.builtin "repr") BRepr := by
  intro pins s σ H ds xs us M P I r hd hm ⟨a, l, ps, e, ha, hp, h1, h2, h3, h4, p⟩
  subst e
  obtain ⟨v, rfl, q1⟩ := one_of hd
  cases q1
  obtain ⟨ys, g1, g2⟩ := hm a _ ha
  rw [Vals.ref1 r]
  obtain ⟨its, rv, hl, hz⟩ := I.list (SqL.of g1)
  obtain ⟨as, ra⟩ := readsAll_of I g2 rv hp
  obtain ⟨o, ho, hc, n, hdt⟩ := hl.isList
  exact repr_of_reads' (.list ho hc hdt (by simpa using ra)) h1 (PyData.noDict_hsm h2) hg (by omega) (fun _ _ e => e) (fun h' u tk hk => ⟨.str _, H, I.kept hk, ⟨u, rfl⟩, fin (.str _) hm p⟩) h4
/-! ### calls by keywords alone -/
structure KDefOk (P : Program) (w : World) (K : PySem.W.Frag) (mg : Str → Option Value) (base : Heap) (CX : CXT) (k : Nat) (x : Str) (ps ks : List Str) (perm : List D → List D) (sp : DSp) : Prop where
  ex : ∃ (f : Addr) (fd : FuncData) (g : List Value → List Value → List Value) (gV : List V → List V → List V), mg x = some (.ref f) ∧ PySem.W.keepIn K (.ref f) = true ∧ KBn K fd ps 0 ks g gV ∧ FnOk P w K mg base CX k f fd ps (lift sp) ∧
    ∀ (H : Hp) (ds : List D) (vs : List V), ds.length = ks.length → IsL H ds vs → IsL H (perm ds) (gV [] vs)
section
variable {X : Cx} {Γ : Sl} {M : Mem} {P : PD} {x : Str} {p pos kpos : Pos} {e : Expr} {kws : List Keyword} {nm : Option Str}
/-- the keywords' values -/
structure WK (X : Cx) (kws : List Keyword) (Γ : Sl) (M : Mem) (P : List D → Mem → Prop) : Prop where
  run : ∀ (pos : Pos) (pins : List (Addr × Obj)) (s : Shared) (σ : L2.St) (H : Hp), Inv X pins σ H s → SIs H σ Γ → RelM H M →
    wpAny (model X.prog X.w) X.A (evalAll ((backToKw pos (keywordEach kws X.env)).map (·.2))) (AP X pins σ (PostA H P)) X.xe s
def tWK (X : Cx) (kws : List Keyword) : TA := fun σ H Q => ∃ Γ M P, SIs H σ Γ ∧ RelM H M ∧ WK X kws Γ M P ∧ ∀ vs H', PostA H P vs H' → Q vs H'
theorem pk_w : PK X kws (tWK X kws) := ⟨fun pos pins s σ H Q I ⟨Γ, M, P, hs, hm, h, k⟩ => thn (h.run pos pins s σ H I hs hm) fun us s' ⟨vs, H', I', r, q⟩ => ⟨vs, H', I', r, k vs H' q⟩⟩
theorem wk_of {P : List D → Mem → Prop} {t : TA} (h : PK X kws t) (k : ∀ σ H, SIs H σ Γ → RelM H M → t σ H (PostA H P)) : WK X kws Γ M P := ⟨fun pos pins s σ H I hs hm => h.run pos pins s σ H _ I (k σ H hs hm)⟩
theorem twk {P : List D → Mem → Prop} {σ : L2.St} {H : Hp} {Q : List V → Hp → Prop} (h : WK X kws Γ M P) (hs : SIs H σ Γ) (hm : RelM H M) (k : ∀ v H' d M', Tx H H' → IsL H' d v → RelM H' M' → P d M' → Q v H') : tWK X kws σ H Q := ⟨Γ, M, P, hs, hm, h, fun v H' ⟨d, M', t, r, m, p⟩ => k v H' d M' t r m p⟩
theorem wk_nil {P : List D → Mem → Prop} (k : P [] M) : WK X [] Γ M P := wk_of pk_nil fun σ H hs hm => ⟨[], M, Tx.refl H, .nil, hm, k⟩
theorem wk_cons {P : List D → Mem → Prop} (h : WE X e Γ M fun x M1 => WK X kws Γ M1 fun xs M2 => P (x :: xs) M2) : WK X (⟨nm, e, kpos⟩ :: kws) Γ M P :=
  wk_of (pk_cons pe_w pk_w) fun σ H hs hm => tw h hs hm fun v H1 d M1 t r m p => twk p (hs.mono t) m fun vs H2 ds M2 t2 r2 m2 p2 => ⟨d :: ds, M2, t.trans t2, .cons (r.mono t2) r2, m2, p2⟩
theorem pe_callK0 {CX : CXT} {k : Nat} {f : Addr} {fd : FuncData} {ps ks : List Str} {sp : Sp} {E : XK} {tk : TA} {g : List Value → List Value → List Value} {gV : List V → List V → List V} (F : FnOk X.prog X.w X.K X.mg X.base CX k f fd ps sp) (hr : Room k X.A) (hg : Gl X x) (hm : X.mg x = some (.ref f)) (hk : PySem.W.keepIn X.K (.ref f) = true) (hb : KBn X.K fd ps 0 ks g gV) (hx : Passes CX X E)
    (hkw : PK X kws tk) (hall : (backToKw pos (keywordEach kws X.env)).all (·.1.isSome) = true) (hks : (backToKw pos (keywordEach kws X.env)).filterMap (·.1) = ks) (hdb : (x == ("__debug__" : Str)) = false)
    (hpl : ((backTo pos (starEach [] X.env)).any (·.1) || (backToKw pos (keywordEach kws X.env)).any (·.1.isNone)) = false) :
    PE X (.Call (.Name x p) [] kws pos) (tCallN 0 ks.length sp gV E tNil tk) := by
  refine ⟨fun pins s σ H Q I h => ?_⟩
  refine wpAny_Call_Name_kw (ld_glob I hg hm ?_ hdb)
  refine PySem.W.callWith_KW0 (h₀ := X.base) I.ok.mod.kin hk hall ?_ hpl
  refine thn (hkw.run pos pins s σ H _ I h) fun ws s2 ⟨zs, H2, I2, rz, l1, l2, q2⟩ => ⟨I2.kIn, ?_⟩
  rw [hks]
  exact run_fnN F hr hb hx I2 .nil rz l1 l2 q2
theorem we_callK {k j : Nat} {ps ks : List Str} {perm : List D → List D} {sp : DSp} (G : KDefOk X.prog X.w X.K X.mg X.base CX0 k x ps ks perm sp) (hr : Room j X.A) (h : WK X kws Γ M fun ds M1 => ds.length = ks.length ∧ sp (perm ds) M1 P R0) (hk : k ≤ j := by decide) (hg : Gl X x := by rfl)
    (hall : (backToKw pos (keywordEach kws X.env)).all (·.1.isSome) = true := by rfl) (hks : (backToKw pos (keywordEach kws X.env)).filterMap (·.1) = ks := by rfl) (hdb : (x == ("__debug__" : Str)) = false := by decide)
    (hpl : ((backTo pos (starEach [] X.env)).any (·.1) || (backToKw pos (keywordEach kws X.env)).any (·.1.isNone)) = false := by rfl) : WE X (.Call (.Name x p) [] kws pos) Γ M P := by
  obtain ⟨f, fd, g, gV, g1, g2, g3, g4, g5⟩ := G.ex
  refine we_of (pe_callK0 (E := E0) g4 (hr.mono hk) hg g1 g2 g3 pass0 pk_w hall hks hdb hpl) fun σ H hs hm => ?_
  show tWK X kws σ H _
  refine twk h hs hm fun vs H1 ds M1 t r m ⟨hl, p⟩ => ⟨rfl, by rw [← r.length]; exact hl, ?_⟩
  exact liftE _ t (g5 H1 ds vs hl r) m p fun _ _ z => z
end
/-! ### the script -/
/-- the law's argument: a list of ints that nobody changes -/
def Scr (K : PySem.W.Frag) (d : D) (ns : List Int) : Prop := d = .rol (ns.map D.int) ∨ ∃ a, d = .ref a ∧ ∀ H, SqL K H a (ns.map V.int)
section
variable {X : Cx} {Γ : Sl} {M : Mem} {P : PD} {x : Str} {p pos : Pos} {e i : Expr} {H : Hp}
theorem Scr.at {K : PySem.W.Frag} {d : D} {ns : List Int} {v : V} (h : Scr K d ns) (r : Is H d v) : ∃ a, v = .ref a ∧ SqL K H a (ns.map V.int) ∧ ∀ H', Tx H H' → SqL K H' a (ns.map V.int) := by
  rcases h with e | ⟨a, e, q⟩
  · subst e
    obtain ⟨a, xs, rfl, h1, h2⟩ := rI_l r
    have e4 := IsL.of_ints h2
    subst e4
    exact ⟨a, rfl, h1.sq, fun H' t => (t.l _ _ h1).sq⟩
  · subst e
    cases r
    exact ⟨a, rfl, q H, fun H' _ => q H'⟩
def BLenS (K : PySem.W.Frag) : BC := fun ds M P => ∃ d ns, ds = [d] ∧ Scr K d ns ∧ P (.int ns.length) M
theorem cd_lenS : CaD X (.builtin "len") (BLenS X.K) := .of call_len fun H ds xs M P r hm ⟨d, ns, e, hl, p⟩ => by
  subst e
  obtain ⟨v, rfl, q1⟩ := one_of r
  obtain ⟨a, rfl, hq, _⟩ := hl.at q1
  exact ⟨.ref a, ns.length, rfl, .inl ⟨_, hq, by rw [List.length_map]⟩, fin (.int _) hm p⟩
def BListS (K : PySem.W.Frag) : BC := fun ds M P => ∃ d ns, ds = [d] ∧ Scr K d ns ∧ ∀ p, M p = none → P (.ref p) (put M p (.lst (ns.map D.int)))
theorem cd_listS : CaD X (.type "list") (BListS X.K) := .of call_list_of fun H ds xs M P r hm ⟨d, ns, e, h, p⟩ => by
  subst e
  obtain ⟨v, rfl, q1⟩ := one_of r
  obtain ⟨a, rfl, hq, _⟩ := h.at q1
  exact ⟨a, _, rfl, .inl hq, fun q hq => fin_new hq (IsL.ints ns) hm p⟩
theorem we_subS {a b : Expr} (h : WE X a Γ M fun x M1 => WE X b Γ M1 fun y M2 => ∃ ns i n, Scr X.K x ns ∧ y = .int i ∧ atI ns i = some n ∧ P (.int n) M2) (hs : PlainIx b := by exact fun _ _ => rfl) : WE X (.Subscript a b pos) Γ M P :=
  we_of (pe_ix ix_seq pe_w pe_w hs) fun σ H hs hm => tw h hs hm fun v H1 d M1 t r m p => tw p (hs.mono t) m fun v2 H2 d2 M2 t2 r2 m2 ⟨ns, i, n, hsc, e, hn, p2⟩ => by
    subst e
    cases r2
    obtain ⟨a, rfl, hq, _⟩ := hsc.at (r.mono t2)
    refine .inl ⟨a, _, i, .int n, rfl, rfl, hq, ?_, .int n, M2, t.trans t2, .int _, m2, p2⟩
    unfold atI at hn ⊢
    rw [List.length_map]
    cases q : ixN ns.length i with
    | none => rw [q] at hn; cases hn
    | some j =>
      rw [q] at hn
      show (ns.map V.int)[j]? = _
      rw [List.getElem?_map, show ns[j]? = some n from hn]
      rfl
theorem wi_scr {tg : Expr} {P : List D → (Mem → Prop) → Mem → Prop} (h : WE X e Γ M fun d M1 => ∃ ns, Scr X.K d ns ∧ P (ns.map D.int) kAll M1) : WI X tg e Γ M P :=
  wi_of (pi_list pe_w) fun σ H hs hm => tw h hs hm fun v H1 d M1 t r m ⟨ns, hsc, p⟩ => by
    obtain ⟨a, rfl, hq, hk⟩ := hsc.at r
    refine ⟨a, rfl, ⟨_, hq⟩, ns.map D.int, kAll, M1, t, m, p, fun H' => Tx H1 H', YAt (ns.map V.int), ?_, fun H' M t _ _ => t, fun i H2 x H3 hi t ⟨e, q⟩ => ?_⟩
    · have e : (ns.map D.int).length = (ns.map V.int).length := by rw [List.length_map, List.length_map]
      rw [e]
      exact walk_list.mono (fun H' t => hk H' t) fun _ _ _ _ _ _ y => y
    · subst e
      have i1 : IsL H3 (ns.map D.int) (ns.map V.int) := IsL.ints ns
      obtain ⟨d, hd, r⟩ := i1.back q
      exact ⟨d, hd, r, Tx.refl _, fun _ z => z⟩
end
/-! ### the law's own entry: no repr is under way there -/
structure LawFn (P : Program) (w : World) (K : PySem.W.Frag) (mg : Str → Option Value) (base : Heap) (f : Addr) (fd : FuncData) (x : Str) (sp : Sp) : Prop where
  run : ∀ (s : Shared) (H : Hp) (args : Args) (u : Value) (v : V) (Q : VK) (E : XK), Env0 P w K mg base callerA [] s H → BindsTo s fd args [(x, u)] → RelV v u → sp [v] H Q E → codeAny (model P w) callerA (.call (.ref f) args) (CR CX0 [] P w H s Q E) s
end DL

set_option Elab.async false
set_option linter.all false
set_option maxRecDepth 100000
set_option maxHeartbeats 4000000
/-! DLj: a law's def at its own entry, and the walk's end for it. -/
namespace DL
open PySem PySem.Spec PyProof.Rows L2
/-- a law: it gives True for each script of at most n ints -/
def spLaw (K : PySem.W.Frag) (n : Nat) : V → Hp → VK → Prop := fun v H Q => ∃ (d : D) (ns : List Int), Is H d v ∧ Scr K d ns ∧ ns.length ≤ n ∧ ∀ H', Q (.bl true) H'
theorem law_fn {P : Program} {w : World} {K : PySem.W.Frag} {mg : Str → Option Value} {base : Heap} {n k : Nat} {x y qual : Str} {params : Arguments} {body : List Stmt} {scope : Scope} {f : Addr} {fd : FuncData} {N : List Str} (F : FunD K y qual params body scope [] [] f fd) (S : FnScope N [x] scope) (hr : Room (k + 1) callerA)
    (hbody : ∀ (cdv : Value) (s : Shared) (H : Hp) (E : XK) (d : D) (ns : List Int), Room k (cxOf CX0 P w K mg base N qual scope f cdv callerA [] s H E).nox.A → (cxOf CX0 P w K mg base N qual scope f cdv callerA [] s H E).nox.A.guards = some [] → Scr K d ns → ns.length ≤ n →
      WSs (cxOf CX0 P w K mg base N qual scope f cdv callerA [] s H E).nox body (start N [d]) (fun _ => none) { nx := fun _ _ => False, rt := fun d _ => d = .bl true }) :
    LawFn P w K mg base f fd x (fun vs H Q _ => ∃ v, vs = [v] ∧ spLaw K n v H Q) := by
  obtain ⟨oc, od, dV, kV, doc, pm, an, cdv, ct, osl, rfl, lk, hcd, _, _⟩ := F.ex
  refine ⟨fun s H args u v Q E e0 hb r ⟨v', ev, hsp⟩ => ?_⟩
  cases ev
  have KX : K.In s.heap := e0.mod.kin.keeps fun b o e => (e0.bs b o e).1
  have lim : s.heap.NoLimit := e0.mod.nolimit.keeps fun b o e => (e0.bs b o e).1
  have hkind : ∀ z ∈ [(x, u)], scope.names.lookup z.1 = some .local ∨ (scope.names.lookup z.1 = some .cell ∧ ((cellsFrom (s.heap.objs.size + 1) scope.names []).lookup z.1).isSome = true) := fun z hz => by
    obtain rfl := List.mem_singleton.mp hz
    rcases S.par x (List.mem_singleton.mpr rfl) with q | q
    · exact .inl q
    · exact .inr ⟨q, PySem.W.cellsFrom_some _ _ _ (.inl q)⟩
  refine codeAny_call_function hr.depth (KX _ _ lk) rfl S.co S.gen rfl (PySem.W.codeRec_of KX hcd) (hb _ _ _ _ ?_)
  refine wpAny_newFunctionEnv_cells S.kind hkind fun env he s1 x1 => ?_
  subst he
  refine ⟨lim.keeps x1.toInCall.keep, codeAny_func ?_⟩
  obtain ⟨d, ns, hd, hsc, hn, hq⟩ := hsp
  have hb2 : PSs (cxOf CX0 P w K mg base N qual scope f cdv callerA [] s H E) body (tWSs (cxOf CX0 P w K mg base N qual scope f cdv callerA [] s H E).nox body) := PSs.nox pss_w
  have I : Inv (cxOf CX0 P w K mg base N qual scope f cdv callerA [] s H E) [] (L2.start N [v]) H s1 := inv_start (ps := [x]) (us := [u]) S hr.hd e0 rfl (.cons r .nil) x1
  have hw := hbody cdv s H E d ns (hr.deeper _) rfl hsc hn
  have lnk : tWSs (cxOf CX0 P w K mg base N qual scope f cdv callerA [] s H E).nox body { nx := fun _ H' => Q .non H', rt := Q } (L2.start N [v]) H := by
    refine ⟨start N [d], fun _ => none, _, SIs.start (.cons hd .nil) N, fun a m (e : (none : Option MO) = some m) => (nomatch e), hw, ?_⟩
    exact ⟨fun σ' H' Γ' M' t s' m' z => z.elim, fun v H' d' M' t r' m' e => by
      subst e
      cases r'
      exact hq H', fun _ _ _ _ _ _ _ z => z.elim, fun _ _ _ _ _ _ _ z => z.elim⟩
  refine wpAny_mono (hb2.run [] s1 (L2.start N [v]) H _ I lnk) (fun fl s' hs => ?_) fun e s' hs => hs
  have fin : ∀ {σ' : L2.St} {H' : Hp} {v : V} {u : Value}, Inv (cxOf CX0 P w K mg base N qual scope f cdv callerA [] s H E) [] σ' H' s' → RelV v u → Q v H' → CE [] P w H s Q u s' :=
    fun {σ' H' v u} J rv q => ⟨v, H', J.os, J.bare, J.base, J.hok, rv, q⟩
  cases fl with
  | ret u =>
    obtain ⟨v, σ', H', J, rv, q⟩ := hs
    exact fin J rv q
  | next =>
    obtain ⟨σ', H', J, q⟩ := hs
    exact fin (v := V.non) (u := Value.none) J rfl q
  | brk =>
    obtain ⟨_, _, _, q⟩ := hs
    exact False.elim q
  | cont =>
    obtain ⟨_, _, _, q⟩ := hs
    exact False.elim q
/-- what the script is at the entry -/
theorem scr_of {K : PySem.W.Frag} {H : Hp} {a : Addr} {ns : List Int} (ho : Only H) (h : SqL K H a (ns.map V.int)) : ∃ d, Is H d (.ref a) ∧ Scr K d ns := by
  rcases h with (h | ⟨o, h⟩) | h
  · rcases ho a with e | ⟨o, xs, e⟩
    · rw [h] at e; cases e
    · rw [h] at e; cases e
  · exact ⟨.rol (ns.map D.int), .rol ⟨o, h⟩ (IsL.ints ns), .inl rfl⟩
  · exact ⟨.ref a, .ref a, .inr ⟨a, rfl, fun _ => .inr h⟩⟩
/-- the call of the law, from the heap behind the top: nothing but the script may be tracked -/
theorem law_run {P : Program} {w : World} {K : PySem.W.Frag} {mg mb : Str → Option Value} {fa a : Addr} {fd : FuncData} {n : Nat} {x : Str} {s₁ : Shared} {vs : List Value} {ns : List Int}
    (KX : K.In s₁.heap) (hns : s₁.heap.Ns mainGlobals mg) (hb : s₁.heap.Ns builtinsNs mb) (hbb : ∀ x : Str, x ≠ "__name__" → mb x = bootBuiltins x) (hlim : s₁.heap.NoLimit) (hg : s₁.gens = #[])
    (ha : s₁.heap.get? a = some { cls := .type "list", data := .seq vs.toArray }) (hi : IntsAre vs ns) (hl : ns.length ≤ n) (hl2 : ns.length ≤ sizeLine)
    (F : ∀ base : Heap, K.In base → base.Ns mainGlobals mg → LawFn P w K mg base fa fd x (fun vs H Q _ => ∃ v, vs = [v] ∧ spLaw K n v H Q)) (hbind : ∀ (s : Shared) (u : Value), BindsTo s fd ⟨[u], []⟩ [(x, u)]) :
    codeAny (model P w) callerA (.call (.ref fa) ⟨[.ref a], []⟩) (fun r s' => r = .ok (.ret (.bool true)) ∧ OldK s₁.heap s'.heap ∧ s'.os = s₁.os ∧ AllBare s'.gens) s₁ := by
  have main : ∀ H : Hp, Only H → SqL K H a (ns.map V.int) → HOk P w H s₁.heap → (∀ b, b ≠ a → H b = none) → (H a = none ∨ K.lookup a = none) →
      codeAny (model P w) callerA (.call (.ref fa) ⟨[.ref a], []⟩) (fun r s' => r = .ok (.ret (.bool true)) ∧ OldK s₁.heap s'.heap ∧ s'.os = s₁.os ∧ AllBare s'.gens) s₁ := by
    intro H hO hS hok hA hK
    have old : ∀ {b : Addr} {o : Obj}, s₁.heap.get? b = some o → (b = a → H a = none) → (hidT s₁.heap H).get? b = some o := fun {b o} e z => hidT_get e (by
      by_cases q : b = a
      · subst q; exact z rfl
      · exact hA b q)
    have ns_ : ∀ {b : Addr} {m : Str → Option Value}, s₁.heap.Ns b m → (hidT s₁.heap H).Ns b m := fun {b m} ⟨o, es, ep, e, d, r⟩ => ⟨o, es, ep, old e (fun q => by
      subst q
      rw [ha] at e
      cases e
      exact absurd (show Data.seq vs.toArray _ = Data.dict es ep from d) (fun z => by cases z)), d, r⟩
    have kin : K.In (hidT s₁.heap H) := fun b o e => old (KX b o e) fun q => by
      subst q
      rcases hK with z | z
      · exact z
      · rw [z] at e; cases e
    have env0 : Env0 P w K mg (hidT s₁.heap H) callerA [] s₁ H :=
      ⟨rfl, ⟨kin, ns_ hns, ⟨mb, ns_ hb, hbb⟩, let ⟨mc, h1, h2⟩ := hlim; ⟨mc, ns_ h1, h2⟩⟩, fun b o e => of_hidT e, Nat.le_of_eq (hidT_size _ _), trivial, fun b hb => (nomatch (show b ∈ ([] : List Addr) from hb)), hok, .of_eq hg⟩
    obtain ⟨d, hd, hsc⟩ := scr_of hO hS
    refine codeAny_mono ((F _ kin (ns_ hns)).run s₁ H ⟨[.ref a], []⟩ (.ref a) (.ref a) (fun v _ => v = .bl true) (fun _ _ _ => False) env0 (hbind s₁ (.ref a)) rfl ⟨_, rfl, d, ns, hd, hsc, hl, fun _ => rfl⟩) fun r s' h => ?_
    cases r with
    | error e => exact False.elim h
    | ok fl =>
      cases fl with
      | next => exact False.elim h
      | brk => exact False.elim h
      | cont => exact False.elim h
      | ret u =>
        obtain ⟨v, H', os, bare, un, hok', r', q⟩ := h
        cases (show v = .bl true from q)
        cases (show u = Value.bool true from r')
        refine ⟨rfl, OldK.of_keep fun b o e => ?_, os, bare⟩
        cases q : H b with
        | none => exact un.keep b o e q (fun z => nomatch (show b ∈ ([] : List Addr) from z)) (by simp)
        | some u =>
          rcases hO b with z | ⟨ob, xs, z⟩
          · rw [q] at z; cases z
          · have g1 := (hok b _ z).1
            rw [e] at g1
            cases g1
            exact (hok' b _ (un.frzs b _ _ z)).1
  have rv := vals_ints hi
  have lenV := hi.length
  cases hk : K.lookup a with
  | some o =>
    have e := KX a o hk
    rw [ha] at e
    cases e
    exact main (fun _ => none) (fun _ => .inl rfl) (.inr ⟨_, vs.toArray, _, hk, rfl, rfl, rfl, by rw [List.size_toArray, lenV]; exact hl2, by simpa using rv⟩) (fun b u z => nomatch (show (none : Option HO) = some u from z)) (fun _ _ => rfl) (.inl rfl)
  | none =>
    have at_ : ∀ {b : Addr} {u : HO}, (if b = a then some (HO.frz { cls := .type "list", data := .seq vs.toArray } (.lst (ns.map V.int))) else none) = some u → b = a ∧ u = .frz { cls := .type "list", data := .seq vs.toArray } (.lst (ns.map V.int)) := fun {b u} z => by
      by_cases q : b = a
      · rw [if_pos q] at z
        cases z
        exact ⟨q, rfl⟩
      · rw [if_neg q] at z
        cases z
    refine main (fun b => if b = a then some (.frz { cls := .type "list", data := .seq vs.toArray } (.lst (ns.map V.int))) else none) (fun b => ?_) (.inl (.inr ⟨_, if_pos rfl⟩)) (fun b u z => ?_) (fun b q => if_neg q) (.inr hk)
    · by_cases q : b = a
      · exact .inr ⟨_, _, if_pos q⟩
      · exact .inl (if_neg q)
    · obtain ⟨rfl, rfl⟩ := at_ z
      exact ⟨ha, by rw [List.length_map]; exact hl2, vs, _, rv, ha⟩
/-- the walk's end over a head by facts -/
theorem walk_ofG {l : PySem.W.OpenLaw} {n : Nat} {q : Program} {loose : List Str} {XP : (Str → Option Value) → Heap → Prop} {YP : World → Heap → Prop} {d : DefRec} {x : Str}
    (hn : l.most = some n) (hn2 : n ≤ sizeLine) (hdf : d.params.defaults = [])
    (F : ∀ (w : World) (mg : Str → Option Value) (fa : Addr) (h : Heap), YP w h → h.Ns mainGlobals mg → mg d.name = some (.ref fa) →
      ∃ (K : PySem.W.Frag) (fd : FuncData), K.In h ∧ (∀ (s : Shared) (u : Value), BindsTo s fd ⟨[u], []⟩ [(x, u)]) ∧
        ∀ base : Heap, K.In base → base.Ns mainGlobals mg → LawFn l.prog w K mg base fa fd x (fun vs H Q _ => ∃ v, vs = [v] ∧ spLaw K n v H Q)) :
    PySem.W.WalkO q loose XP YP l.row.toRowW d [] (fun f vs => PySem.call f vs) := by
  refine Att.attach_call hn hdf fun w s₀ s₁ mg mb fa o pm cd doc a vs ns G Y ho hd hcd hmg hobj hints hlen hg => ?_
  obtain ⟨K, fd, KX, hb, hF⟩ := F w mg fa _ Y G.T.g hmg
  exact law_run KX G.T.g G.T.b G.T.builtins G.T.nolimit hg hobj hints hlen (Nat.le_trans hlen hn2) hF hb
end DL

set_option Elab.async false
set_option linter.all false
set_option maxRecDepth 100000
set_option maxHeartbeats 0
namespace Hd
open PySem PySem.Spec PyProof.Rows L2
def topS (i : Nat) : Stmt := PySem.Challenge.pw_wirework_k81_latest_by_budget.main.body.getD i (.Pass ⟨0, 0, 0, 0⟩)
def d_way_of : He.DefD := ⟨("way_of", none), "way_of", "way_of", defArgs (topS 1), defBody (topS 1), defScope (topS 1), [], []⟩
def d_many_of : He.DefD := ⟨("many_of", none), "many_of", "many_of", defArgs (topS 2), defBody (topS 2), defScope (topS 2), [], []⟩
def d_lane_of : He.DefD := ⟨("lane_of", none), "lane_of", "lane_of", defArgs (topS 3), defBody (topS 3), defScope (topS 3), [], []⟩
def d_next_slot : He.DefD := ⟨("next_slot", none), "next_slot", "next_slot", defArgs (topS 4), defBody (topS 4), defScope (topS 4), [], []⟩
def d_delays_of : He.DefD := ⟨("delays_of", none), "delays_of", "delays_of", defArgs (topS 5), defBody (topS 5), defScope (topS 5), [], []⟩
def d_greater_of : He.DefD := ⟨("greater_of", none), "greater_of", "greater_of", defArgs (topS 7), defBody (topS 7), defScope (topS 7), [], []⟩
def d_slots_from : He.DefD := ⟨("slots_from", none), "slots_from", "slots_from", defArgs (topS 8), defBody (topS 8), defScope (topS 8), [], []⟩
def d_caller_within : He.DefD := ⟨("caller_within", none), "caller_within", "caller_within", defArgs (topS 11), defBody (topS 11), defScope (topS 11), [], []⟩
def d_latest : He.DefD := ⟨("latest", none), "latest", "latest", defArgs (topS 12), defBody (topS 12), defScope (topS 12), [], []⟩
def d_common_multiple : He.DefD := ⟨("common_multiple", none), "common_multiple", "common_multiple", defArgs (topS 13), defBody (topS 13), defScope (topS 13), [], []⟩
def d_starts_of : He.DefD := ⟨("starts_of", none), "starts_of", "starts_of", defArgs (topS 14), defBody (topS 14), defScope (topS 14), [], []⟩
def d_stair_within : He.DefD := ⟨("stair_within", none), "stair_within", "stair_within", defArgs (topS 15), defBody (topS 15), defScope (topS 15), [], []⟩
def d_law_mixed : He.DefD := ⟨("_law_mixed", none), "_law_mixed", "_law_mixed", defArgs (topS 17), defBody (topS 17), defScope (topS 17), [], []⟩
def d_law_draw : He.DefD := ⟨("_law_draw", none), "_law_draw", "_law_draw", defArgs (topS 18), defBody (topS 18), defScope (topS 18), [], []⟩
def d_law_start : He.DefD := ⟨("_law_start", none), "_law_start", "_law_start", defArgs (topS 19), defBody (topS 19), defScope (topS 19), [], []⟩
def d_law_same : He.DefD := ⟨("_law_same", none), "_law_same", "_law_same", defArgs (topS 20), defBody (topS 20), defScope (topS 20), [], []⟩
def d_law_pick : He.DefD := ⟨("_law_pick", none), "_law_pick", "_law_pick", defArgs (topS 21), defBody (topS 21), defScope (topS 21), [], []⟩
def d_law_bound : He.DefD := ⟨("_law_bound", none), "_law_bound", "_law_bound", defArgs (topS 22), defBody (topS 22), defScope (topS 22), [], []⟩
def d_law_way : He.DefD := ⟨("_law_way", none), "_law_way", "_law_way", defArgs (topS 23), defBody (topS 23), defScope (topS 23), [], []⟩
def d_law_design : He.DefD := ⟨("_law_design", none), "_law_design", "_law_design", defArgs (topS 24), defBody (topS 24), defScope (topS 24), [], []⟩
def d_law_bounds : He.DefD := ⟨("_law_bounds", none), "_law_bounds", "_law_bounds", defArgs (topS 25), defBody (topS 25), defScope (topS 25), [], []⟩
def d_law_ticks : He.DefD := ⟨("_law_ticks", none), "_law_ticks", "_law_ticks", defArgs (topS 26), defBody (topS 26), defScope (topS 26), [], []⟩
def d_law_behind : He.DefD := ⟨("_law_behind", none), "_law_behind", "_law_behind", defArgs (topS 27), defBody (topS 27), defScope (topS 27), [], []⟩
def d_law_line : He.DefD := ⟨("_law_line", none), "_law_line", "_law_line", defArgs (topS 28), defBody (topS 28), defScope (topS 28), [], []⟩
def d_law_outcome : He.DefD := ⟨("_law_outcome", none), "_law_outcome", "_law_outcome", defArgs (topS 29), defBody (topS 29), defScope (topS 29), [], []⟩
def d_law_letter : He.DefD := ⟨("_law_letter", none), "_law_letter", "_law_letter", defArgs (topS 30), defBody (topS 30), defScope (topS 30), [], []⟩
def d_law_call : He.DefD := ⟨("_law_call", none), "_law_call", "_law_call", defArgs (topS 31), defBody (topS 31), defScope (topS 31), [], []⟩
def d_law_wheels : He.DefD := ⟨("_law_wheels", none), "_law_wheels", "_law_wheels", defArgs (topS 32), defBody (topS 32), defScope (topS 32), [], []⟩
def d_law_lanes : He.DefD := ⟨("_law_lanes", none), "_law_lanes", "_law_lanes", defArgs (topS 33), defBody (topS 33), defScope (topS 33), [], []⟩
def d_law_lcm : He.DefD := ⟨("_law_lcm", none), "_law_lcm", "_law_lcm", defArgs (topS 34), defBody (topS 34), defScope (topS 34), [], []⟩
def d_law_dealt : He.DefD := ⟨("_law_dealt", none), "_law_dealt", "_law_dealt", defArgs (topS 35), defBody (topS 35), defScope (topS 35), [], []⟩
def d_law_fails : He.DefD := ⟨("_law_fails", none), "_law_fails", "_law_fails", defArgs (topS 36), defBody (topS 36), defScope (topS 36), [], []⟩
def d_law_latest : He.DefD := ⟨("_law_latest", none), "_law_latest", "_law_latest", defArgs (topS 37), defBody (topS 37), defScope (topS 37), [], []⟩
def d_law_stair_within : He.DefD := ⟨("_law_stair_within", none), "_law_stair_within", "_law_stair_within", defArgs (topS 38), defBody (topS 38), defScope (topS 38), [], []⟩
def d_law : He.DefD := ⟨("law", none), "law", "law", defArgs (topS 39), defBody (topS 39), defScope (topS 39), [], []⟩
def d_BudgetWay_init : He.DefD := ⟨("BudgetWay", some "__init__"), "__init__", "BudgetWay.__init__", defArgs (inClass (topS 9) 0), defBody (inClass (topS 9) 0), defScope (inClass (topS 9) 0), [], []⟩
def d_BudgetWay_slot_of : He.DefD := ⟨("BudgetWay", some "slot_of"), "slot_of", "BudgetWay.slot_of", defArgs (inClass (topS 9) 1), defBody (inClass (topS 9) 1), defScope (inClass (topS 9) 1), [], []⟩
def d_BudgetWay_latest_from : He.DefD := ⟨("BudgetWay", some "latest_from"), "latest_from", "BudgetWay.latest_from", defArgs (inClass (topS 9) 2), defBody (inClass (topS 9) 2), defScope (inClass (topS 9) 2), [], []⟩
def d_BudgetWay_put_letter : He.DefD := ⟨("BudgetWay", some "put_letter"), "put_letter", "BudgetWay.put_letter", defArgs (inClass (topS 9) 3), defBody (inClass (topS 9) 3), defScope (inClass (topS 9) 3), [], []⟩
def d_BudgetCaller_init : He.DefD := ⟨("BudgetCaller", some "__init__"), "__init__", "BudgetCaller.__init__", defArgs (inClass (topS 10) 0), defBody (inClass (topS 10) 0), defScope (inClass (topS 10) 0), [], []⟩
def d_BudgetCaller_put_letters : He.DefD := ⟨("BudgetCaller", some "put_letters"), "put_letters", "BudgetCaller.put_letters", defArgs (inClass (topS 10) 1), defBody (inClass (topS 10) 1), defScope (inClass (topS 10) 1), [], []⟩
def d_BudgetCaller_put_call : He.DefD := ⟨("BudgetCaller", some "put_call"), "put_call", "BudgetCaller.put_call", defArgs (inClass (topS 10) 2), defBody (inClass (topS 10) 2), defScope (inClass (topS 10) 2), [], []⟩
def fn : List He.DefD := [d_way_of, d_many_of, d_lane_of, d_next_slot, d_delays_of, d_greater_of, d_slots_from, d_caller_within, d_latest, d_common_multiple, d_starts_of, d_stair_within, d_law_mixed, d_law_draw, d_law_start, d_law_same, d_law_pick, d_law_bound, d_law_way, d_law_design, d_law_bounds, d_law_ticks, d_law_behind, d_law_line, d_law_outcome, d_law_letter, d_law_call, d_law_wheels, d_law_lanes, d_law_lcm, d_law_dealt, d_law_fails, d_law_latest, d_law_stair_within, d_law, d_BudgetWay_init, d_BudgetWay_slot_of, d_BudgetWay_latest_from, d_BudgetWay_put_letter, d_BudgetCaller_init, d_BudgetCaller_put_letters, d_BudgetCaller_put_call]
def fa : List He.Fa := [.glo "way_of", .glo "many_of", .glo "lane_of", .glo "next_slot", .glo "delays_of", .glo "greater_of", .glo "slots_from", .glo "caller_within", .glo "latest", .glo "common_multiple", .glo "starts_of", .glo "stair_within", .glo "_law_mixed", .glo "_law_draw", .glo "_law_start", .glo "_law_same", .glo "_law_pick", .glo "_law_bound", .glo "_law_way", .glo "_law_design", .glo "_law_bounds", .glo "_law_ticks", .glo "_law_behind", .glo "_law_line", .glo "_law_outcome", .glo "_law_letter", .glo "_law_call", .glo "_law_wheels", .glo "_law_lanes", .glo "_law_lcm", .glo "_law_dealt", .glo "_law_fails", .glo "_law_latest", .glo "_law_stair_within", .glo "law", .glo "BudgetWay", .cls "BudgetWay", .mkr "BudgetWay", .meth "BudgetWay" "slot_of", .meth "BudgetWay" "latest_from", .meth "BudgetWay" "put_letter", .noat "BudgetWay" "ahead", .noat "BudgetWay" "comes", .noat "BudgetWay" "fails", .noat "BudgetWay" "firsts", .noat "BudgetWay" "reads", .noat "BudgetWay" "told_by", .noat "BudgetWay" "tolds", .noat "BudgetWay" "trips", .noat "BudgetWay" "way", .glo "BudgetCaller", .cls "BudgetCaller", .mkr "BudgetCaller", .meth "BudgetCaller" "put_letters", .meth "BudgetCaller" "put_call", .noat "BudgetCaller" "begun_at", .noat "BudgetCaller" "budget", .noat "BudgetCaller" "done_at", .noat "BudgetCaller" "heard_at", .noat "BudgetCaller" "letters", .noat "BudgetCaller" "part", .noat "BudgetCaller" "sides", .noat "BudgetCaller" "turns", .free "bool", .free "enumerate", .free "int", .free "isinstance", .free "len", .free "list", .free "max", .free "min", .free "range", .free "repr", .free "str", .free "sum", .free "tuple", .free "zip"]
def nm0 : List Str := ["way_of", "many_of", "lane_of", "next_slot", "delays_of", "greater_of", "slots_from", "caller_within", "latest", "common_multiple", "starts_of", "stair_within", "_law_mixed", "_law_draw", "_law_start", "_law_same", "_law_pick", "_law_bound", "_law_way", "_law_design", "_law_bounds", "_law_ticks", "_law_behind", "_law_line", "_law_outcome", "_law_letter", "_law_call", "_law_wheels", "_law_lanes", "_law_lcm"]
def nm1 : List Str := ["_law_dealt", "_law_fails", "_law_latest", "_law_stair_within", "BudgetWay", "BudgetCaller"]
def nms : List Str := nm0 ++ nm1
abbrev R : PySem.W.OpenRow := PySem.W.OpenLaw.row PySem.Challenge.rw_wirework_k81_latest_by_budget
abbrev hk : PySem.W.Hook := He.hookD 5 fa fn
def ob (s : PySem.W.SharedT) : He.AlD := He.obsDG 5 fa fn (HandSHeadRun.getT s)
theorem ob_eq (s : PySem.W.SharedT) : ob s = hk.obs s.abs := He.obsDG_eq (HandSHeadRun.getT_eq s)
theorem run (w : World) : HandSHeadRun.RunEq R (PySem.W.view R.prog [39]) hk ob 4000 nms w := by
  intro os
  kernel_rfl
end Hd

set_option Elab.async false
set_option linter.all false
set_option maxRecDepth 100000
set_option maxHeartbeats 4000000
/-! Kt: what stands in the module (Ct), defs found by name; small steps of the data layer. -/
namespace DL
open PySem PySem.Spec PyProof.Rows L2
section
variable {M : Mem} {P : PD} {i j : Int} {l : List D} {d : D} {a : Addr}
theorem b_addI (k : P (.int (i + j)) M) : BAdd (.int i) (.int j) M P := k
theorem b_addT {l m : List D} (h : l.length + m.length ≤ sizeLine) (k : P (.tup (l ++ m)) M) : BAdd (.tup l) (.tup m) M P := ⟨h, k⟩
theorem b_addL {a b : Addr} {l m : List D} (h1 : M a = some (.lst l)) (h2 : M b = some (.lst m)) (h : l.length + m.length ≤ sizeLine) (k : ∀ p, M p = none → P (.ref p) (put M p (.lst (l ++ m)))) : BAdd (.ref a) (.ref b) M P := ⟨l, m, h1, h2, h, k⟩
theorem b_sub {g : Int → Int → Int} (k : P (.int (g i j)) M) : BI0 g (.int i) (.int j) M P := k
theorem b_i {C : Int → Int → Prop} {g : Int → Int → Int} (h : C i j) (k : P (.int (g i j)) M) : BI C g (.int i) (.int j) M P := ⟨h, k⟩
theorem b_mul (h : CMul i j) (k : P (.int (i * j)) M) : BMul (.int i) (.int j) M P := ⟨h, k⟩
theorem b_cmp {g : Int → Int → Bool} (k : P (.bl (g i j)) M) : BB0 g (.int i) (.int j) M P := k
theorem b_eqI (k : P (.bl (decide (i = j))) M) : BEqu (.int i) (.int j) M P := k
theorem b_eqS {i j : Str} (k : P (.bl (decide (i = j))) M) : BEqu (.str i) (.str j) M P := k
theorem b_is {x : D} (k : P (.bl (isN x)) M) : BIs x .non M P := k
theorem b_isnot {x : D} (k : P (.bl (!isN x)) M) : BIsNot x .non M P := k
theorem t_bl {Q : Bool → Mem → Prop} {k : Bool} (h : Q k M) : asT Q (.bl k) M := ⟨k, rfl, h⟩
theorem i_tup (h : atI l i = some d) (k : P d M) : IxD (.tup l) (.int i) M P := ⟨d, h, k⟩
theorem i_lst (ha : M a = some (.lst l)) (h : atI l i = some d) (k : P d M) : IxD (.ref a) (.int i) M P := ⟨l, d, ha, h, k⟩
theorem atI_last {α : Type} {l : List α} {d : α} (h : l[l.length - 1]? = some d) : atI l (-1) = some d := by
  have hl : l.length - 1 < l.length := (List.getElem?_eq_some_iff.mp h).1
  unfold atI ixN
  rw [if_neg (by omega), if_pos (by omega)]
  simp only [Option.bind_some]
  have e : ((l.length : Int) + -1).toNat = l.length - 1 := by omega
  have e2 : ((-1 : Int) + l.length).toNat = l.length - 1 := by omega
  simpa [e, e2] using h
theorem c_len {n : Nat} (h : LenD d M n) (k : P (.int n) M) : BLen [d] M P := ⟨d, n, rfl, h, k⟩
theorem c_max (k : P (.int (max i j)) M) : BMax [.int i, .int j] M P := ⟨i, j, rfl, k⟩
theorem c_min (k : P (.int (min i j)) M) : BMin [.int i, .int j] M P := ⟨i, j, rfl, k⟩
theorem c_int (k : P (.int i) M) : BInt [.int i] M P := k
theorem c_intB {b : Bool} (k : P (.int (if b then 1 else 0)) M) : BInt [.bl b] M P := k
theorem c_tupT (k : P (.tup l) M) : BTuple [.tup l] M P := ⟨_, l, rfl, .inl rfl, k⟩
theorem c_tupL (ha : M a = some (.lst l)) (k : P (.tup l) M) : BTuple [.ref a] M P := ⟨_, l, rfl, .inr ⟨a, rfl, ha⟩, k⟩
end
end DL
namespace K81
open PySem PySem.Spec PyProof.Rows L2 DL
structure Ct (K : PySem.W.Frag) (mg : Str → Option Value) (base : Heap) : Prop where
  c : He.SaysD Hd.fa Hd.fn K
  X : K.In base
  G : base.Ns mainGlobals mg
section
variable {P : Program} {w : World} {K : PySem.W.Frag} {mg : Str → Option Value} {base : Heap}
theorem Ct.fr (C : Ct K mg base) (j : Nat) {x : Str} (hj : Hd.fa[j]? = some (.free x) := by rfl) : mg x = none := He.free_ok C.X C.G (C.c.fact j hj)
theorem Ct.df (C : Ct K mg base) (i j : Nat) {x : Str} {d : He.DefD} {k : Nat} {ps : List Str} {sp : DSp} (hd : d.at_ = (x, none)) (h1 : d.dvs K = []) (h2 : d.kws K = [])
    (b : ∀ (kV doc pm : Value) (an : Option Addr) (cdv ct : Value) (us : List Value), us.length = ps.length → bindArgs (PySem.W.fnOf d.name d.qual d.params d.body d.scope .none kV doc pm an cdv ct) ⟨us, []⟩ = pure (ps.zip us))
    (ok : ∀ f fd, FunD K d.name d.qual d.params d.body d.scope [] [] f fd → FnOk P w K mg base CX0 k f fd ps (lift sp)) (hi : Hd.fn[i]? = some d := by rfl) (hj : Hd.fa[j]? = some (.glo x) := by rfl) : DefOk P w K mg base CX0 k x ps sp := by
  obtain ⟨fd, F⟩ := C.c.def_ i hi
  rw [hd, h1, h2] at F
  exact ⟨_, fd, He.glo_ok C.X C.G (C.c.fact j hj), F.kp, F.bindsN b, ok _ fd F⟩
end
end K81

set_option Elab.async false
set_option linter.all false
set_option maxRecDepth 100000
set_option maxHeartbeats 4000000
namespace K81
open PySem PySem.Spec PyProof.Rows L2 DL
structure Way where
  (wheel : Int) (slots : List Int) (reach : Int)
def dWay (w : Way) : D := .tup [.int w.wheel, .tup (w.slots.map D.int), .int w.reach, .int 6]
structure Cal where
  (w0 w1 : Way) (p0 p1 opn turn : Int)
def Cal.way (c : Cal) (s : Bool) : Way := if s then c.w1 else c.w0
def Cal.per (c : Cal) (s : Bool) : Int := if s then c.p1 else c.p0
def dCal (c : Cal) : D := .tup [dWay c.w0, dWay c.w1, .int c.p0, .int c.p1, .int c.opn, .int c.turn]
structure Des where
  (round : Int) (cals : List Cal)
def dDes (d : Des) : D := .tup [.int d.round, .tup (d.cals.map dCal)]
structure Bnd where
  (lo hi low high fails extra : Int)
def dBnd (b : Bnd) : D := .tup [.int b.lo, .int b.hi, .int b.low, .int b.high, .int b.fails, .int b.extra]
def dBnds (l : List Bnd) : D := .tup (l.map dBnd)
def dS (s : Bool) : D := .int (if s then 1 else 0)
theorem map_at {α β : Type} {l : List α} {i : Nat} {x : α} {f : α → β} (h : l[i]? = some x) : (l.map f)[i]? = some (f x) := by rw [List.getElem?_map, h]; rfl
theorem size_ok {n : Nat} (h : n ≤ 1000000) : n ≤ sizeLine := by rw [sizeLine_eq]; omega
section
variable {P : Program} {w : World} {K : PySem.W.Frag} {mg : Str → Option Value} {base : Heap}
def sp_way_of : DSp := fun ds M P R => ∃ (d : Des) (c : Cal) (k : Nat) (s : Bool), ds = [dDes d, .int k, dS s] ∧ d.cals[k]? = some c ∧ P (dWay (c.way s)) M
theorem sc_way_of : FnScope ["design", "caller", "side"] ["design", "caller", "side"] (defScope (Hd.topS 1)) := ⟨rfl, rfl, rfl, by decide +kernel, rfl, by decide +kernel, by decide +kernel⟩
theorem ok_way_of (C : Ct K mg base) : DefOk P w K mg base CX0 1 "way_of" ["design", "caller", "side"] sp_way_of := by
  refine C.df 0 0 (d := Hd.d_way_of) rfl rfl rfl (fun _ _ _ _ _ _ us hl => match us, hl with | [_, _, _], _ => rfl) fun f fd F => fn_ok F sc_way_of (by rintro _ _ _ _ ⟨_, _, _, _, rfl, _⟩; rfl) ?_
  intro cdv A outer s H E ds M Q R hr ⟨d, c, k, sd, eds, h1, p⟩
  subst eds
  refine wss_one ?_
  refine ws_ret ?_
  refine we_sub ?_
  refine we_sub ?_
  refine we_sub ?_
  refine we_var 0 rfl ?_
  refine we_int ?_
  refine i_tup rfl ?_
  refine we_var 1 rfl ?_
  refine i_tup (atI_nat (map_at h1)) ?_
  refine we_var 2 rfl ?_
  refine i_tup (d := dWay (c.way sd)) (by cases sd <;> rfl) ?_
  exact ⟨M, Sub.refl M, p⟩
def sp_many_of : DSp := fun ds M P R => ∃ (d : Des) (c : Cal) (k : Nat) (s : Bool), ds = [dDes d, .int k, dS s] ∧ d.cals[k]? = some c ∧ P (.int (c.per s)) M
theorem sc_many_of : FnScope ["design", "caller", "side"] ["design", "caller", "side"] (defScope (Hd.topS 2)) := ⟨rfl, rfl, rfl, by decide +kernel, rfl, by decide +kernel, by decide +kernel⟩
theorem ok_many_of (C : Ct K mg base) : DefOk P w K mg base CX0 1 "many_of" ["design", "caller", "side"] sp_many_of := by
  refine C.df 1 1 (d := Hd.d_many_of) rfl rfl rfl (fun _ _ _ _ _ _ us hl => match us, hl with | [_, _, _], _ => rfl) fun f fd F => fn_ok F sc_many_of (by rintro _ _ _ _ ⟨_, _, _, _, rfl, _⟩; rfl) ?_
  intro cdv A outer s H E ds M Q R hr ⟨d, c, k, sd, eds, h1, p⟩
  subst eds
  refine wss_one ?_
  refine ws_ret ?_
  refine we_sub ?_
  refine we_sub ?_
  refine we_sub ?_
  refine we_var 0 rfl ?_
  refine we_int ?_
  refine i_tup rfl ?_
  refine we_var 1 rfl ?_
  refine i_tup (atI_nat (map_at h1)) ?_
  refine we_bin od_add ?_
  refine we_int ?_
  refine we_var 2 rfl ?_
  refine b_addI ?_
  refine i_tup (d := .int (c.per sd)) (by cases sd <;> rfl) ?_
  exact ⟨M, Sub.refl M, p⟩
def sp_lane_of : DSp := fun ds M P R => ∃ (w : Way) (n : Int), ds = [dWay w, .int n] ∧ 0 < w.slots.length ∧ P (.int (n % (w.slots.length : Int))) M
theorem sc_lane_of : FnScope ["way", "letter"] ["way", "letter"] (defScope (Hd.topS 3)) := ⟨rfl, rfl, rfl, by decide +kernel, rfl, by decide +kernel, by decide +kernel⟩
theorem ok_lane_of (C : Ct K mg base) : DefOk P w K mg base CX0 1 "lane_of" ["way", "letter"] sp_lane_of := by
  refine C.df 2 2 (d := Hd.d_lane_of) rfl rfl rfl (fun _ _ _ _ _ _ us hl => match us, hl with | [_, _], _ => rfl) fun f fd F => fn_ok F sc_lane_of (by rintro _ _ _ _ ⟨_, _, rfl, _⟩; rfl) ?_
  intro cdv A outer s H E ds M Q R hr ⟨wy, n, eds, h1, p⟩
  subst eds
  refine wss_one ?_
  refine ws_ret ?_
  refine we_bin od_mod ?_
  refine we_var 1 rfl ?_
  refine we_callB cd_len (C.fr 67) ?_
  refine wa_cons ?_
  refine we_sub ?_
  refine we_var 0 rfl ?_
  refine we_int ?_
  refine i_tup rfl ?_
  refine wa_nil ?_
  refine c_len rfl ?_
  rw [List.length_map]
  refine b_i (show (0 : Int) < (wy.slots.length : Int) by omega) ?_
  exact ⟨M, Sub.refl M, p⟩
def ns (t s wh : Int) : Int := t + (s - t) % wh
def sp_next_slot : DSp := fun ds M P R => ∃ t s wh : Int, ds = [.int t, .int s, .int wh] ∧ 0 < wh ∧ P (.int (ns t s wh)) M
theorem sc_next_slot : FnScope ["tick", "slot", "wheel"] ["tick", "slot", "wheel"] (defScope (Hd.topS 4)) := ⟨rfl, rfl, rfl, by decide +kernel, rfl, by decide +kernel, by decide +kernel⟩
theorem ok_next_slot (C : Ct K mg base) : DefOk P w K mg base CX0 1 "next_slot" ["tick", "slot", "wheel"] sp_next_slot := by
  refine C.df 3 3 (d := Hd.d_next_slot) rfl rfl rfl (fun _ _ _ _ _ _ us hl => match us, hl with | [_, _, _], _ => rfl) fun f fd F => fn_ok F sc_next_slot (by rintro _ _ _ _ ⟨_, _, _, rfl, _⟩; rfl) ?_
  intro cdv A outer s H E ds M Q R hr ⟨t, sl, wh, eds, hw, p⟩
  subst eds
  refine wss_one (ws_ret ?_)
  refine we_bin od_add ?_
  refine we_var 0 rfl ?_
  refine we_bin od_mod ?_
  refine we_bin od_sub ?_
  refine we_var 1 rfl ?_
  refine we_var 0 rfl ?_
  refine b_sub ?_
  refine we_var 2 rfl ?_
  refine b_i hw ?_
  refine b_addI ?_
  exact ⟨M, Sub.refl M, p⟩
def Bnd.del (b : Bnd) (s : Bool) : Int × Int × Int × Int := if s then (b.low, b.high, b.lo, b.hi) else (b.lo, b.hi, b.low, b.high)
def dDel (q : Int × Int × Int × Int) : D := .tup [.int q.1, .int q.2.1, .int q.2.2.1, .int q.2.2.2]
def sp_delays_of : DSp := fun ds M P R => ∃ (b : Bnd) (s : Bool), ds = [dBnd b, dS s] ∧ P (dDel (b.del s)) M
theorem sc_delays_of : FnScope ["road", "side", "lo", "hi", "low", "high"] ["road", "side"] (defScope (Hd.topS 5)) := ⟨rfl, rfl, rfl, by decide +kernel, rfl, by decide +kernel, by decide +kernel⟩
theorem ok_delays_of (C : Ct K mg base) : DefOk P w K mg base CX0 1 "delays_of" ["road", "side"] sp_delays_of := by
  refine C.df 4 4 (d := Hd.d_delays_of) rfl rfl rfl (fun _ _ _ _ _ _ us hl => match us, hl with | [_, _], _ => rfl) fun f fd F => fn_ok F sc_delays_of (by rintro _ _ _ _ ⟨_, _, rfl, _⟩; rfl) ?_
  intro cdv A outer s H E ds M Q R hr ⟨b, sd, eds, p⟩
  subst eds
  have sc := sc_delays_of
  refine wss_cons ?_
  refine ws_asg ?_
  refine we_slice ?_
  refine we_var 0 rfl ?_
  refine we_int ?_
  refine ⟨_, rfl, ?_⟩
  show WG _ _ (.tup [.int b.lo, .int b.hi, .int b.low, .int b.high]) _ _ _
  refine wg_tup rfl rfl ?_
  refine wgs_cons ?_
  refine wg_name 2 sc.nd ?_
  refine wgs_cons ?_
  refine wg_name 3 sc.nd ?_
  refine wgs_cons ?_
  refine wg_name 4 sc.nd ?_
  refine wgs_cons ?_
  refine wg_name 5 sc.nd ?_
  refine wgs_nil ?_
  refine wss_one ?_
  refine ws_ret ?_
  refine we_ifexp ?_
  refine wt_cmp od_eq ?_
  refine we_var 1 rfl ?_
  refine we_int ?_
  refine b_eqI ?_
  refine t_bl ?_
  refine ⟨fun hk => ?_, fun hk => ?_⟩
  · cases sd with
    | true => exact absurd hk (by decide)
    | false =>
      refine we_tup ?_
      refine wa_cons ?_
      refine we_var 2 rfl ?_
      refine wa_cons ?_
      refine we_var 3 rfl ?_
      refine wa_cons ?_
      refine we_var 4 rfl ?_
      refine wa_cons ?_
      refine we_var 5 rfl ?_
      refine wa_nil ?_
      exact ⟨size_ok (by simp), M, Sub.refl M, p⟩
  · cases sd with
    | false => exact absurd hk (by decide)
    | true =>
      refine we_tup ?_
      refine wa_cons ?_
      refine we_var 4 rfl ?_
      refine wa_cons ?_
      refine we_var 5 rfl ?_
      refine wa_cons ?_
      refine we_var 2 rfl ?_
      refine wa_cons ?_
      refine we_var 3 rfl ?_
      refine wa_nil ?_
      exact ⟨size_ok (by simp), M, Sub.refl M, p⟩
/-- [max(first, second) for first, second in zip(one, other)] : a new list -/
def gr (x y : List Int) : List Int := List.zipWith max x y
def sp_greater_of : DSp := fun ds M P R => ∃ (a b : Addr) (x y : List Int), ds = [.ref a, .ref b] ∧ M a = some (.lst (x.map D.int)) ∧ M b = some (.lst (y.map D.int)) ∧ x.length ≤ 1000000 ∧ ∀ q, M q = none → P (.ref q) (put M q (.lst ((gr x y).map D.int)))
theorem sc_greater_of : FnScope ["one", "other", "first", "second"] ["one", "other"] (defScope (Hd.topS 7)) := ⟨rfl, rfl, rfl, by decide +kernel, rfl, by decide +kernel, by decide +kernel⟩
def mx2 : D → D
  | .tup [.int i, .int j] => .int (max i j)
  | _ => .non
theorem gr_map (x y : List Int) : (zipD (x.map D.int) (y.map D.int)).map mx2 = (gr x y).map D.int := by
  induction x generalizing y with
  | nil => rfl
  | cons i x ih =>
    cases y with
    | nil => rfl
    | cons j y =>
      have := ih y
      simp only [zipD, gr, List.map_cons, List.zip_cons_cons, List.zipWith_cons_cons] at this ⊢
      rw [← this]
      rfl
theorem zip_pair {x y : List Int} {d : D} (h : d ∈ zipD (x.map D.int) (y.map D.int)) : ∃ i j, d = .tup [.int i, .int j] := by
  unfold zipD at h
  obtain ⟨⟨a, b⟩, h1, rfl⟩ := List.mem_map.mp h
  have h2 := List.of_mem_zip h1
  obtain ⟨i, _, e1⟩ := List.mem_map.mp h2.1
  obtain ⟨j, _, e2⟩ := List.mem_map.mp h2.2
  exact ⟨i, j, by rw [← e1, ← e2]⟩
theorem ok_greater_of (C : Ct K mg base) : DefOk P w K mg base CX0 1 "greater_of" ["one", "other"] sp_greater_of := by
  refine C.df 5 5 (d := Hd.d_greater_of) rfl rfl rfl (fun _ _ _ _ _ _ us hl => match us, hl with | [_, _], _ => rfl) fun f fd F => fn_ok F sc_greater_of (by rintro _ _ _ _ ⟨_, _, _, _, rfl, _⟩; rfl) ?_
  intro cdv A outer s H E ds M Q R hr ⟨a, b, x, y, eds, h1, h2, h3, p⟩
  subst eds
  have sc := sc_greater_of
  refine wss_one ?_
  refine ws_ret ?_
  refine we_lcG (own := [("first", 2), ("second", 3)]) rfl sc.nd (blkOk_by (own := [("first", 2), ("second", 3)]) (N := ["one", "other", "first", "second"]) (sc := defScope (Hd.topS 7)) (by decide +kernel)) rfl (gt_pair (K := K) (by decide))
    (fun _ _ _ _ _ => pg_tup rfl (pgs_cons (pg_name (i := 2) sc.nd rfl (Or.inl rfl)) (pgs_cons (pg_name (i := 3) sc.nd rfl (Or.inl rfl)) pgs_nil))) ?_
  refine wi_zip (C.fr 76) ?_
  refine we_var 0 rfl ?_
  refine we_var 1 rfl ?_
  refine ⟨a, b, _, _, rfl, rfl, h1, h2, fun q hq => ?_⟩
  refine lcj_map mx2 ?_ (fun l => ⟨by rw [put_ne (nn h1 hq)]; exact h1, by rw [put_ne (nn h2 hq)]; exact h2⟩) (fun d hd => let ⟨i, j, e⟩ := zip_pair hd; ⟨_, _, e⟩) ?_ ?_
  · unfold zipD
    simp only [List.length_map, List.length_zip]
    omega
  · intro k d hd l s H Ca cl fp
    obtain ⟨i, j, rfl⟩ := zip_pair (List.mem_of_getElem? hd)
    refine we_callB (cd_max rfl) (C.fr 69) ?_
    refine wa_cons ?_
    refine we_var 2 rfl ?_
    refine wa_cons ?_
    refine we_var 3 rfl ?_
    refine wa_nil ?_
    refine c_max ?_
    exact ⟨rfl, rfl⟩
  · rw [gr_map]
    exact ⟨_, Sub.refl _, p q hq⟩
end
end K81

set_option Elab.async false
set_option linter.all false
set_option maxRecDepth 100000
set_option maxHeartbeats 4000000
namespace DL
open PySem PySem.Spec PyProof.Rows L2
theorem Lk.imp {H : Hp} {E E' : DE} {Dn : Ends} (k : Lk H E Dn) (h1 : ∀ Γ M, E'.nx Γ M → E.nx Γ M) (h2 : ∀ d M, E'.rt d M → E.rt d M) (h3 : ∀ Γ M, E'.bk Γ M → E.bk Γ M) (h4 : ∀ Γ M, E'.ct Γ M → E.ct Γ M) : Lk H E' Dn :=
  ⟨fun σ H' Γ M t s m p => k.nx σ H' Γ M t s m (h1 _ _ p), fun v H' d M t s m p => k.rt v H' d M t s m (h2 _ _ p), fun σ H' Γ M t s m p => k.bk σ H' Γ M t s m (h3 _ _ p), fun σ H' Γ M t s m p => k.ct σ H' Γ M t s m (h4 _ _ p)⟩
theorem WS.nxt {X : Cx} {st : Stmt} {Γ : Sl} {M : Mem} {E : DE} (J : PS_) (h : WS X st Γ M { E with nx := J }) (k : ∀ Γ M, J Γ M → E.nx Γ M) : WS X st Γ M E :=
  ⟨fun pins s σ H Dn I hs hm lk => h.run pins s σ H Dn I hs hm (lk.imp k (fun _ _ z => z) (fun _ _ z => z) fun _ _ z => z)⟩
theorem WSs.nxt {X : Cx} {st : List Stmt} {Γ : Sl} {M : Mem} {E : DE} (J : PS_) (h : WSs X st Γ M { E with nx := J }) (k : ∀ Γ M, J Γ M → E.nx Γ M) : WSs X st Γ M E :=
  ⟨fun pins s σ H Dn I hs hm lk => h.run pins s σ H Dn I hs hm (lk.imp k (fun _ _ z => z) (fun _ _ z => z) fun _ _ z => z)⟩
end DL
namespace K81
open PySem PySem.Spec PyProof.Rows L2 DL
structure Way.Ok (w : Way) : Prop where
  w0 : 0 < w.wheel
  w1 : w.wheel < 1000
  s0 : 0 < w.slots.length
  s1 : w.slots.length ≤ 1000
  sl : ∀ s ∈ w.slots, 0 ≤ s ∧ s < w.wheel
  r0 : 0 < w.reach
/-! ### rows -/
def Row (M : Mem) (p : Addr) (xs : List Int) : Prop := M p = some (.lst (xs.map D.int)) ∧ xs ≠ [] ∧ xs.length ≤ 1000
/-- rows stand, and all that is not own -/
structure Fr (own : List Addr) (M M' : Mem) : Prop where
  row : ∀ p xs, Row M p xs → Row M' p xs
  oth : ∀ a m, a ∉ own → M a = some m → M' a = some m
theorem Fr.refl {own : List Addr} (M : Mem) : Fr own M M := ⟨fun _ _ h => h, fun _ _ _ h => h⟩
theorem Fr.trans {own : List Addr} {M M1 M2 : Mem} (a : Fr own M M1) (b : Fr own M1 M2) : Fr own M M2 := ⟨fun p xs h => b.row p xs (a.row p xs h), fun x m n h => b.oth x m n (a.oth x m n h)⟩
theorem Fr.mono {own own' : List Addr} {M M1 : Mem} (a : Fr own M M1) (h : ∀ x ∈ own, x ∈ own') : Fr own' M M1 := ⟨a.row, fun x m n => a.oth x m fun z => n (h x z)⟩
theorem Fr.sub {own : List Addr} {M M1 : Mem} (h : Sub M M1) : Fr own M M1 := ⟨fun p xs r => ⟨h _ _ r.1, r.2⟩, fun x m _ e => h x m e⟩
theorem Fr.new {own : List Addr} {M : Mem} {q : Addr} {m : MO} (h : M q = none) : Fr own M (put M q m) := Fr.sub (Sub.put h)
theorem Fr.put {own : List Addr} {M : Mem} {q : Addr} {m : MO} (hq : q ∈ own) (h : ∀ xs, ¬ Row M q xs) : Fr own M (put M q m) :=
  ⟨fun p xs r => by
    have ne : p ≠ q := fun e => by subst e; exact h xs r
    exact ⟨by rw [put_ne ne]; exact r.1, r.2⟩, fun a u n e => by
    have ne : a ≠ q := fun z => by subst z; exact n hq
    rw [put_ne ne]; exact e⟩
theorem Fr.put2 {own : List Addr} {M : Mem} {q : Addr} {m u : MO} (hq : q ∈ own) (hu : M q = some u) (h : ∀ xs : List Int, xs ≠ [] → u ≠ .lst (xs.map D.int)) : Fr own M (DL.put M q m) := Fr.put hq fun xs r => h xs r.2.1 (by have := r.1; rw [hu] at this; exact Option.some.inj this)
theorem refs_ne {ps : List Addr} : ∀ xs : List Int, xs ≠ [] → MO.lst (ps.map D.ref) ≠ .lst (xs.map D.int) := by
  intro xs hx e
  cases xs with
  | nil => exact hx rfl
  | cons x xs =>
    cases ps with
    | nil => cases e
    | cons p ps =>
      have e := (List.cons.inj (MO.lst.inj e)).1
      cases e
/-- rows at addresses -/
def Rw (M : Mem) (ps : List Addr) (xss : List (List Int)) : Prop := ps.length = xss.length ∧ ∀ (i : Nat) (p : Addr) (xs : List Int), ps[i]? = some p → xss[i]? = some xs → Row M p xs
theorem Rw.fr {own : List Addr} {M M' : Mem} {ps : List Addr} {xss : List (List Int)} (f : Fr own M M') (h : Rw M ps xss) : Rw M' ps xss := ⟨h.1, fun i p xs e1 e2 => f.row p xs (h.2 i p xs e1 e2)⟩
theorem Rw.nil {M : Mem} : Rw M [] [] := ⟨rfl, fun i p xs e _ => by simp at e⟩
theorem Rw.snoc {M : Mem} {ps : List Addr} {xss : List (List Int)} {p : Addr} {xs : List Int} (h : Rw M ps xss) (r : Row M p xs) : Rw M (ps ++ [p]) (xss ++ [xs]) := by
  refine ⟨by simp [h.1], fun i q ys e1 e2 => ?_⟩
  by_cases hi : i < ps.length
  · rw [List.getElem?_append_left hi] at e1
    rw [List.getElem?_append_left (by rw [← h.1]; exact hi)] at e2
    exact h.2 i q ys e1 e2
  · rw [List.getElem?_append_right (by omega)] at e1
    rw [List.getElem?_append_right (by rw [← h.1]; omega), ← h.1] at e2
    cases hj : i - ps.length with
    | zero => rw [hj] at e1 e2; cases e1; cases e2; exact r
    | succ j => rw [hj] at e1; simp at e1
theorem Rw.at_ {M : Mem} {ps : List Addr} {xss : List (List Int)} {i : Nat} {xs : List Int} (h : Rw M ps xss) (e : xss[i]? = some xs) : ∃ p, ps[i]? = some p ∧ Row M p xs := by
  have hi : i < xss.length := (List.getElem?_eq_some_iff.mp e).1
  have hp : i < ps.length := by rw [h.1]; exact hi
  exact ⟨ps[i], List.getElem?_eq_getElem hp, h.2 i _ xs (List.getElem?_eq_getElem hp) e⟩
def Rows (M : Mem) (a : Addr) (xss : List (List Int)) : Prop := ∃ ps, M a = some (.lst (ps.map D.ref)) ∧ Rw M ps xss
theorem Rows.fr {own : List Addr} {M M' : Mem} {a : Addr} {xss : List (List Int)} (f : Fr own M M') (ha : a ∉ own) (h : Rows M a xss) : Rows M' a xss := let ⟨ps, e, r⟩ := h; ⟨ps, f.oth a _ ha e, r.fr f⟩
theorem Rows.notRow {M : Mem} {a : Addr} {xss : List (List Int)} (h : Rows M a xss) (xs : List Int) : ¬ Row M a xs := fun r => by
  obtain ⟨ps, e, _⟩ := h
  have := r.1
  rw [e] at this
  exact refs_ne xs r.2.1 (Option.some.inj this)
section
variable {P : Program} {w : World} {K : PySem.W.Frag} {mg : Str → Option Value} {base : Heap}
def sf (t : List Int) (s wh : Int) : List Int := t.map fun x => ns x s wh
def sp_slots_from : DSp := fun ds M P R => ∃ (a : Addr) (x : List Int) (s wh : Int), ds = [.ref a, .int s, .int wh] ∧ M a = some (.lst (x.map D.int)) ∧ x.length ≤ 1000000 ∧ 0 < wh ∧ ∀ q, M q = none → P (.ref q) (put M q (.lst ((sf x s wh).map D.int)))
theorem sc_slots_from : FnScope ["ticks", "slot", "wheel", "tick"] ["ticks", "slot", "wheel"] (defScope (Hd.topS 8)) := ⟨rfl, rfl, rfl, by decide +kernel, rfl, by decide +kernel, by decide +kernel⟩
theorem ok_slots_from (C : Ct K mg base) : DefOk P w K mg base CX0 2 "slots_from" ["ticks", "slot", "wheel"] sp_slots_from := by
  refine C.df 6 6 (d := Hd.d_slots_from) rfl rfl rfl (fun _ _ _ _ _ _ us hl => match us, hl with | [_, _, _], _ => rfl) fun f fd F => fn_ok F sc_slots_from (by rintro _ _ _ _ ⟨_, _, _, _, rfl, _⟩; rfl) ?_
  intro cdv A outer s H E ds M Q R hr ⟨a, x, sl, wh, eds, h1, h2, h3, p⟩
  subst eds
  have sc := sc_slots_from
  refine wss_one (ws_ret ?_)
  refine we_lcG (own := [("tick", 3)]) rfl sc.nd (blkOk_by (own := [("tick", 3)]) (N := ["ticks", "slot", "wheel", "tick"]) (sc := defScope (Hd.topS 8)) (by decide +kernel)) rfl gt_name (fun _ _ _ _ _ => pg_name (i := 3) sc.nd rfl (Or.inl rfl)) ?_
  refine wi_lst ?_
  refine we_var 0 rfl ?_
  refine ⟨a, _, rfl, h1, fun q hq => ?_⟩
  refine lcj_map (fun | .int i => .int (ns i sl wh) | d => d) (by rw [List.length_map]; exact h2) (fun l => by rw [put_ne (nn h1 hq)]; exact h1) (fun _ _ => trivial) ?_ ?_
  · intro k d hd l s H Ca cl fp
    obtain ⟨i, _, rfl⟩ := List.mem_map.mp (List.mem_of_getElem? hd)
    refine we_call (ok_next_slot C) hr ?_
    refine wa_cons ?_
    refine we_var 3 rfl ?_
    refine wa_cons ?_
    refine we_var 1 rfl ?_
    refine wa_cons ?_
    refine we_var 2 rfl ?_
    refine wa_nil ?_
    exact ⟨i, sl, wh, rfl, h3, rfl, rfl⟩
  · rw [List.map_map]
    have e : (sf x sl wh).map D.int = x.map ((fun | .int i => .int (ns i sl wh) | d => d) ∘ D.int) := by
      unfold sf
      rw [List.map_map]
      rfl
    rw [← e]
    exact ⟨_, Sub.refl _, p q hq⟩
end
end K81

set_option Elab.async false
set_option linter.all false
set_option maxRecDepth 100000
set_option maxHeartbeats 4000000
namespace K81
open PySem PySem.Spec PyProof.Rows L2 DL
/-- the latest by a budget: m of the tries fail here -/
def lfv (x : List Int) (wh trip : Int) : Nat → Nat → Int
  | 0, b => x.getD b 0 + trip
  | k + 1, b => if k + 1 ≤ b then max (lfv x wh trip k b) (x.getD (b - (k + 1)) 0 + ((k + 1 : Nat) : Int) * wh + trip) else lfv x wh trip k b
def lf (x : List Int) (fails : Nat) (wh trip : Int) : List Int := (List.range x.length).map fun b => lfv x wh trip fails b
theorem lf_len {x : List Int} {fails : Nat} {wh trip : Int} : (lf x fails wh trip).length = x.length := by unfold lf; rw [List.length_map, List.length_range]
/-- the table while fails = k + 1 is put in, j budgets of it done -/
def lfm (x : List Int) (wh trip : Int) (k j : Nat) : List Int := (List.range x.length).map fun b => if b < k + 1 + j then lfv x wh trip (k + 1) b else lfv x wh trip k b
theorem lfm_zero {x : List Int} {wh trip : Int} {k : Nat} : lfm x wh trip k 0 = lf x k wh trip := by
  unfold lfm lf
  refine List.map_congr_left fun b _ => ?_
  split
  · rw [lfv, if_neg (by omega)]
  · rfl
theorem lfm_end {x : List Int} {wh trip : Int} {k j : Nat} (h : x.length ≤ k + 1 + j) : lfm x wh trip k j = lf x (k + 1) wh trip := by
  unfold lfm lf
  refine List.map_congr_left fun b hb => ?_
  rw [if_pos (by have := List.mem_range.mp hb; omega)]
theorem lfm_at {x : List Int} {wh trip : Int} {k j : Nat} (h : k + 1 + j < x.length) : (lfm x wh trip k j)[k + 1 + j]? = some (lfv x wh trip k (k + 1 + j)) := by
  unfold lfm
  rw [List.getElem?_map, List.getElem?_range h]
  simp
theorem lfm_set {x : List Int} {wh trip : Int} {k j : Nat} (h : k + 1 + j < x.length) : (lfm x wh trip k j).set (k + 1 + j) (max (lfv x wh trip k (k + 1 + j)) (x.getD j 0 + ((k + 1 : Nat) : Int) * wh + trip)) = lfm x wh trip k (j + 1) := by
  have hl : ∀ j, (lfm x wh trip k j).length = x.length := fun j => by unfold lfm; rw [List.length_map, List.length_range]
  refine List.ext_getElem? fun i => ?_
  by_cases hi : i = k + 1 + j
  · subst hi
    rw [List.getElem?_set_self (by rw [hl]; exact h)]
    unfold lfm
    rw [List.getElem?_map, List.getElem?_range h]
    simp only [Option.map_some]
    rw [if_pos (by omega), lfv, if_pos (by omega)]
    rw [show k + 1 + j - (k + 1) = j by omega]
  · rw [List.getElem?_set_ne (Ne.symm hi)]
    unfold lfm
    rw [List.getElem?_map, List.getElem?_map]
    cases e : (List.range x.length)[i]? with
    | none => rfl
    | some b =>
      have hb : i = b := by
        have := List.getElem?_eq_some_iff.mp e
        obtain ⟨h1, h2⟩ := this
        rw [List.getElem_range] at h2
        exact h2
      subst hb
      simp only [Option.map_some]
      by_cases h1 : i < k + 1 + j
      · rw [if_pos h1, if_pos (by omega)]
      · rw [if_neg h1, if_neg (by omega)]
/-! ### a way's object -/
structure WAd where
  (o f c t r b : Addr)
def WAd.own (A : WAd) : List Addr := [A.f, A.c, A.t, A.r, A.b]
structure WSt where
  (tolds reads tbs : List (List Int))
def wFs (A : WAd) (wy : Way) (fails t0 t1 ahead : Int) : List (Str × D) :=
  [("way", dWay wy), ("fails", .int fails), ("trips", .tup [.int t0, .int t1]), ("ahead", .int ahead), ("firsts", .ref A.f), ("comes", .ref A.c), ("tolds", .ref A.t), ("reads", .ref A.r), ("told_by", .ref A.b)]
abbrev CW (K : PySem.W.Frag) : Addr := He.ga K "BudgetWay"
structure WayAt (K : PySem.W.Frag) (M : Mem) (A : WAd) (wy : Way) (fails t0 t1 ahead : Int) (S : WSt) : Prop where
  o : M A.o = some (.ins (CW K) (wFs A wy fails t0 t1 ahead))
  f : ∃ ps : List Addr, M A.f = some (.lst (ps.map D.ref)) ∧ ps.length = S.tolds.length
  c : ∃ ps : List Addr, M A.c = some (.lst (ps.map D.ref)) ∧ ps.length = S.tolds.length
  t : Rows M A.t S.tolds
  r : Rows M A.r S.reads
  b : Rows M A.b S.tbs
  lr : S.reads.length = S.tolds.length
  lb : S.tbs.length = S.tolds.length
  nd : [A.o, A.f, A.c, A.t, A.r, A.b].Nodup
theorem WayAt.fr {K : PySem.W.Frag} {M M' : Mem} {A : WAd} {wy : Way} {fails t0 t1 ahead : Int} {S : WSt} {own : List Addr} (h : WayAt K M A wy fails t0 t1 ahead S) (f : Fr own M M') (d : ∀ x ∈ [A.o, A.f, A.c, A.t, A.r, A.b], x ∉ own) : WayAt K M' A wy fails t0 t1 ahead S where
  o := f.oth _ _ (d _ (by simp)) h.o
  f := let ⟨ps, e, l⟩ := h.f; ⟨ps, f.oth _ _ (d _ (by simp)) e, l⟩
  c := let ⟨ps, e, l⟩ := h.c; ⟨ps, f.oth _ _ (d _ (by simp)) e, l⟩
  t := h.t.fr f (d _ (by simp))
  r := h.r.fr f (d _ (by simp))
  b := h.b.fr f (d _ (by simp))
  lr := h.lr
  lb := h.lb
  nd := h.nd
section
variable {P : Program} {w : World} {K : PySem.W.Frag} {mg : Str → Option Value} {base : Heap}
theorem Ct.me (C : Ct K mg base) (i j : Nat) {c m : Str} {d : He.DefD} {k : Nat} {ps : List Str} {sp : DSp} (hd : d.at_ = (c, some m)) (h1 : d.dvs K = []) (h2 : d.kws K = [])
    (b : ∀ (kV doc pm : Value) (an : Option Addr) (cdv ct : Value) (us : List Value), us.length = ps.length → bindArgs (PySem.W.fnOf d.name d.qual d.params d.body d.scope .none kV doc pm an cdv ct) ⟨us, []⟩ = pure (ps.zip us))
    (ok : ∀ f fd, FunD K d.name d.qual d.params d.body d.scope [] [] f fd → FnOk P w K mg base CX0 k f fd ps (lift sp)) (hi : Hd.fn[i]? = some d := by rfl) (hj : Hd.fa[j]? = some (.meth c m) := by rfl) : MethOk P w K mg base CX0 k (He.ga K c) m ps sp := by
  obtain ⟨fd, F⟩ := C.c.def_ i hi
  rw [hd, h1, h2] at F
  exact ⟨_, fd, He.meth_ok (C.c.fact j hj), F.bindsN b, ok _ fd F⟩
theorem Ct.mkr (C : Ct K mg base) (i j l : Nat) {c : Str} {d : He.DefD} {k : Nat} {ps : List Str} {sp : DSp} (hd : d.at_ = (c, some ("__init__" : Str))) (h1 : d.dvs K = []) (h2 : d.kws K = [])
    (b : ∀ (kV doc pm : Value) (an : Option Addr) (cdv ct : Value) (us : List Value), us.length = ps.length → bindArgs (PySem.W.fnOf d.name d.qual d.params d.body d.scope .none kV doc pm an cdv ct) ⟨us, []⟩ = pure (ps.zip us))
    (ok : ∀ f fd, FunD K d.name d.qual d.params d.body d.scope [] [] f fd → FnOk P w K mg base CX0 k f fd ps (lift sp)) (hi : Hd.fn[i]? = some d := by rfl) (hj : Hd.fa[j]? = some (.mkr c) := by rfl) (hl : Hd.fa[l]? = some (.glo c) := by rfl) : MkOk P w K mg base CX0 k c (He.ga K c) ps sp := by
  obtain ⟨fd, F⟩ := C.c.def_ i hi
  rw [hd, h1, h2] at F
  exact ⟨_, fd, He.glo_ok C.X C.G (C.c.fact l hl), He.mkr_ok (C.c.fact j hj), F.bindsN b, ok _ fd F⟩
theorem Ct.na (C : Ct K mg base) (j : Nat) {c f : Str} (hj : Hd.fa[j]? = some (.noat c f) := by rfl) : NoAttr K (He.ga K c) f := He.noat_ok (C.c.fact j hj)
theorem Ct.cW (C : Ct K mg base) : Cls K (CW K) := He.cls_ok (C.c.fact 36 rfl)
/-! ### slot_of, latest_from -/
def Way.slot (wy : Way) (n : Int) : Int := wy.slots.getD (n % (wy.slots.length : Int)).toNat 0
theorem Way.slot_at {wy : Way} (h : wy.Ok) (n : Int) : atI (wy.slots.map D.int) (n % (wy.slots.length : Int)) = some (.int (wy.slot n)) := by
  have h0 := h.s0
  have h1 := Int.emod_nonneg n (show (wy.slots.length : Int) ≠ 0 by omega)
  have h2 := Int.emod_lt_of_pos n (show (0 : Int) < (wy.slots.length : Int) by omega)
  have e : n % (wy.slots.length : Int) = ((n % (wy.slots.length : Int)).toNat : Int) := by omega
  unfold Way.slot
  rw [e]
  refine atI_nat (map_at ?_)
  have hl : (n % (wy.slots.length : Int)).toNat < wy.slots.length := by omega
  simp only [Int.toNat_natCast, List.getD]
  rw [List.getElem?_eq_getElem hl]
  rfl
def sp_slot_of : DSp := fun ds M P R => ∃ (A : WAd) (wy : Way) (fails t0 t1 ahead n : Int) (S : WSt), ds = [.ref A.o, .int n] ∧ WayAt K M A wy fails t0 t1 ahead S ∧ wy.Ok ∧ P (.int (wy.slot (ahead + n))) M
theorem sc_slot_of : FnScope ["self", "letter"] ["self", "letter"] (defScope (inClass (Hd.topS 9) 1)) := ⟨rfl, rfl, rfl, by decide +kernel, rfl, by decide +kernel, by decide +kernel⟩
theorem ok_slot_of (C : Ct K mg base) : MethOk P w K mg base CX0 2 (CW K) "slot_of" ["self", "letter"] (sp_slot_of (K := K)) := by
  refine C.me 36 38 (d := Hd.d_BudgetWay_slot_of) rfl rfl rfl (fun _ _ _ _ _ _ us hl => match us, hl with | [_, _], _ => rfl) fun f fd F => fn_ok F sc_slot_of (by rintro _ _ _ _ ⟨_, _, _, _, _, _, _, _, rfl, _⟩; rfl) ?_
  intro cdv Ar outer s H E ds M Q R hr ⟨A, wy, fails, t0, t1, ahead, n, S, eds, h1, h2, p⟩
  subst eds
  refine wss_one ?_
  refine ws_ret ?_
  refine we_sub ?_
  refine we_sub ?_
  refine we_attr ?_
  refine we_var 0 rfl ?_
  refine ⟨_, _, _, _, rfl, h1.o, C.cW, (C.na 49), rfl, ?_⟩
  refine we_int ?_
  refine i_tup rfl ?_
  refine we_call (ok_lane_of C) hr ?_
  refine wa_cons ?_
  refine we_attr ?_
  refine we_var 0 rfl ?_
  refine ⟨_, _, _, _, rfl, h1.o, C.cW, (C.na 49), rfl, ?_⟩
  refine wa_cons ?_
  refine we_bin od_add ?_
  refine we_attr ?_
  refine we_var 0 rfl ?_
  refine ⟨_, _, _, _, rfl, h1.o, C.cW, (C.na 41), rfl, ?_⟩
  refine we_var 1 rfl ?_
  refine b_addI ?_
  refine wa_nil ?_
  refine ⟨wy, ahead + n, rfl, h2.s0, ?_⟩
  refine i_tup (Way.slot_at h2 _) ?_
  exact ⟨M, Sub.refl M, p⟩
def sp_latest_from : DSp := fun ds M P R => ∃ (A : WAd) (wy : Way) (t0 t1 ahead trip : Int) (fails : Nat) (S : WSt) (p : Addr) (x : List Int), ds = [.ref A.o, .ref p, .int trip] ∧ WayAt K M A wy fails t0 t1 ahead S ∧ wy.Ok ∧ fails ≤ 1000 ∧ Row M p x ∧
  ∀ q, M q = none → P (.ref q) (put M q (.lst ((lf x fails wy.wheel trip).map D.int)))
theorem sc_latest_from : FnScope ["self", "first", "trip", "wheel", "found", "many", "budget", "tick"] ["self", "first", "trip"] (defScope (inClass (Hd.topS 9) 2)) := ⟨rfl, rfl, rfl, by decide +kernel, rfl, by decide +kernel, by decide +kernel⟩
theorem ok_latest_from (C : Ct K mg base) : MethOk P w K mg base CX0 1 (CW K) "latest_from" ["self", "first", "trip"] (sp_latest_from (K := K)) := by
  refine C.me 37 39 (d := Hd.d_BudgetWay_latest_from) rfl rfl rfl (fun _ _ _ _ _ _ us hl => match us, hl with | [_, _, _], _ => rfl) fun f fd F => fn_ok F sc_latest_from (by rintro _ _ _ _ ⟨_, _, _, _, _, _, _, _, _, _, rfl, _⟩; rfl) ?_
  intro cdv Ar outer s H E ds M Q R hr ⟨A, wy, t0, t1, ahead, trip, fails, S, p, x, eds, h1, h2, hf, hx, k⟩
  subst eds
  have sc := sc_latest_from
  refine wss_cons ?_
  refine ws_set 3 sc.nd ?_
  refine we_sub ?_
  refine we_attr ?_
  refine we_var 0 rfl ?_
  refine ⟨_, _, _, _, rfl, h1.o, C.cW, (C.na 49), rfl, ?_⟩
  refine we_int ?_
  refine i_tup rfl ?_
  refine wss_cons ?_
  refine ws_lcG 4 (own := [("tick", 7)]) rfl sc.nd (sw_true rfl rfl rfl (by decide +kernel)) (blkOk_by (own := [("tick", 7)]) (N := ["self", "first", "trip", "wheel", "found", "many", "budget", "tick"]) (sc := defScope (inClass (Hd.topS 9) 2)) (by decide +kernel)) rfl gt_name (fun _ _ _ _ _ => pg_name (i := 7) sc.nd rfl (Or.inl rfl)) ?_
  refine wi_lst ?_
  refine we_var 1 rfl ?_
  refine ⟨p, _, rfl, hx.1, fun q hq => ?_⟩
  refine lcj_map (fun | .int i => .int (i + trip) | d => d) (by rw [List.length_map]; have := hx.2.2; omega) (fun l => by rw [put_ne (nn hx.1 hq)]; exact hx.1) (fun _ _ => trivial) ?_ ?_
  · intro k d hd l s H Ca cl fp
    obtain ⟨i, _, rfl⟩ := List.mem_map.mp (List.mem_of_getElem? hd)
    refine we_bin od_add ?_
    refine we_var 7 rfl ?_
    refine we_var 2 rfl ?_
    refine b_addI ?_
    exact ⟨rfl, rfl⟩
  have e0 : (x.map D.int).map (fun | .int i => .int (i + trip) | d => d) = (lf x 0 wy.wheel trip).map D.int := by
    unfold lf
    rw [List.map_map, List.map_map]
    refine List.ext_getElem? fun i => ?_
    rw [List.getElem?_map, List.getElem?_map]
    by_cases hi : i < x.length
    · rw [List.getElem?_eq_getElem hi, List.getElem?_range hi]
      simp [lfv, List.getD, List.getElem?_eq_getElem hi]
    · rw [List.getElem?_eq_none (by omega), List.getElem?_eq_none (by rw [List.length_range]; omega)]
      rfl
  rw [e0]
  have hpq : p ≠ q := nn hx.1 hq
  have hoq : A.o ≠ q := nn h1.o hq
  refine wss_cons ?_
  refine ws_for PassesOwn.never rfl ?_
  refine wi_range2 (C.fr 71) ?_
  refine we_int ?_
  refine we_bin od_add ?_
  refine we_attr ?_
  refine we_var 0 rfl ?_
  refine ⟨_, _, _, _, rfl, (by rw [put_ne hoq]; exact h1.o), C.cW, (C.na 43), rfl, ?_⟩
  refine we_int ?_
  refine b_addI ?_
  refine ⟨1, fails + 1, rfl, rfl, by omega, ?_⟩
  have lrg : ∀ n : Nat, (rg2 1 ((n : Int) + 1)).length = n := fun n => by unfold rg2; rw [List.length_map, List.length_range]; omega
  refine ⟨fun i Γ' M' => (∃ x5 x6 : Option D, Γ' = [some (.ref A.o), some (.ref p), some (.int trip), some (.int wy.wheel), some (.ref q), x5, x6, none]) ∧ M' = put M q (.lst ((lf x i wy.wheel trip).map D.int)), ⟨⟨none, none, rfl⟩, rfl⟩, fun _ _ _ _ _ => trivial, ?_, ?_⟩
  · intro i d Γ' M' hd ⟨⟨x5, x6, eΓ⟩, eM⟩
    subst eΓ eM
    have hi : i < fails := by have := (List.getElem?_eq_some_iff.mp hd).1; rw [lrg] at this; exact this
    have ed : d = .int (1 + (i : Int)) := by
      unfold rg2 at hd
      rw [List.getElem?_map, List.getElem?_range (by omega)] at hd
      simpa using hd.symm
    subst ed
    refine wg_name 5 sc.nd ?_
    refine wss_one ?_
    refine ws_for PassesOwn.never rfl ?_
    refine wi_range2 (C.fr 71) ?_
    refine we_var 5 rfl ?_
    refine we_callB cd_len (C.fr 67) ?_
    refine wa_cons ?_
    refine we_var 1 rfl ?_
    refine wa_nil ?_
    refine c_len ⟨_, by rw [put_ne hpq]; exact hx.1, rfl⟩ ?_
    have hxl := hx.2.2
    refine ⟨_, _, rfl, rfl, ⟨by omega, by omega, by omega, by rw [List.length_map]; omega⟩, ?_⟩
    have lr2 : (rg2 (1 + (i : Int)) ((x.map D.int).length : Int)).length = x.length - (i + 1) := by unfold rg2; rw [List.length_map, List.length_range, List.length_map]; omega
    refine ⟨fun j Γ' M' => (∃ x6 : Option D, Γ' = [some (.ref A.o), some (.ref p), some (.int trip), some (.int wy.wheel), some (.ref q), some (.int (1 + (i : Int))), x6, none]) ∧ M' = put M q (.lst ((lfm x wy.wheel trip i j).map D.int)), ⟨⟨x6, rfl⟩, by rw [lfm_zero]⟩, fun _ _ _ _ _ => trivial, ?_, ?_⟩
    · intro j d Γ' M' hd ⟨⟨x6, eΓ⟩, eM⟩
      subst eΓ eM
      have hj : j < x.length - (i + 1) := by have := (List.getElem?_eq_some_iff.mp hd).1; rw [lr2] at this; exact this
      have ed : d = .int ((i + 1 + j : Nat) : Int) := by
        unfold rg2 at hd
        rw [List.getElem?_map, List.getElem?_range (by rw [List.length_map]; omega)] at hd
        have h3 := Option.some.inj hd
        rw [← h3]
        exact congrArg D.int (by omega)
      subst ed
      have hlt : i + 1 + j < x.length := by omega
      refine wg_name 6 sc.nd ?_
      refine wss_one ?_
      refine ws_asg ?_
      refine we_callB (cd_max rfl) (C.fr 69) ?_
      refine wa_cons ?_
      refine we_sub ?_
      refine we_var 4 rfl ?_
      refine we_var 6 rfl ?_
      refine i_lst put_same (atI_nat (map_at (lfm_at hlt))) ?_
      refine wa_cons ?_
      refine we_bin od_add ?_
      refine we_bin od_add ?_
      refine we_sub ?_
      refine we_var 1 rfl ?_
      refine we_bin od_sub ?_
      refine we_var 6 rfl ?_
      refine we_var 5 rfl ?_
      refine b_sub ?_
      rw [show ((i + 1 + j : Nat) : Int) - (1 + (i : Int)) = (j : Int) by omega]
      refine i_lst (by rw [put_ne hpq]; exact hx.1) (atI_nat (map_at (List.getElem?_eq_getElem (by omega)))) ?_
      refine we_bin od_mul ?_
      refine we_var 5 rfl ?_
      refine we_var 3 rfl ?_
      refine b_mul (.inr ⟨by have := h2.w0; omega, by have := h2.w1; omega⟩) ?_
      refine b_addI ?_
      refine we_var 2 rfl ?_
      refine b_addI ?_
      refine wa_nil ?_
      refine c_max ?_
      refine wg_lsub ?_
      refine we_var 4 rfl ?_
      refine we_var 6 rfl ?_
      refine ⟨_, _, i + 1 + j, rfl, put_same, rfl, by rw [List.length_map]; exact (List.getElem?_eq_some_iff.mp (lfm_at hlt)).1, ?_⟩
      refine ⟨⟨_, rfl⟩, ?_⟩
      rw [put_put, ← List.map_set]
      congr 3
      rw [← lfm_set hlt]
      congr 2
      have : x.getD j 0 = x[j] := by simp [List.getD, List.getElem?_eq_getElem (show j < x.length by omega)]
      rw [this, show (1 : Int) + (i : Int) = ((i + 1 : Nat) : Int) by omega]
    · intro Γ' M' ⟨⟨x6, eΓ⟩, eM⟩
      subst eΓ eM
      refine ⟨⟨_, _, rfl⟩, ?_⟩
      rw [lr2, lfm_end (by omega)]
  · intro Γ' M' ⟨⟨x5, x6, eΓ⟩, eM⟩
    subst eΓ eM
    rw [lrg]
    refine wss_one (ws_ret ?_)
    refine we_var 4 rfl ?_
    exact ⟨_, Sub.refl _, k q hq⟩
end
end K81

set_option Elab.async false
set_option linter.all false
set_option maxRecDepth 100000
set_option maxHeartbeats 4000000
namespace DL
theorem put_none {M : Mem} {a p : PySem.Addr} {m : MO} (h : put M a m p = none) : p ≠ a ∧ M p = none := by
  unfold put at h
  by_cases e : p = a
  · rw [if_pos e] at h; cases h
  · rw [if_neg e] at h; exact ⟨e, h⟩
end DL
namespace K81
open PySem PySem.Spec PyProof.Rows L2 DL
/-! ### the runs' algebra -/
structure Ops (α : Type) where
  (mx : α → α → α) (sl : Int → Int → α → α) (come told : Bool → Int → α → α) (up : α → α)
structure Wst (α : Type) where
  (tolds reads tbs : List α)
def st1 {α : Type} (o : Ops α) (wy : Way) (S : Wst α) (bg : α) : α := if wy.slots.length ≤ S.tolds.length then o.mx bg (S.tolds.getD (S.tolds.length - wy.slots.length) bg) else bg
def st2 {α : Type} (o : Ops α) (wy : Way) (S : Wst α) (bg : α) : α := if wy.reach ≤ (S.tolds.length : Int) then o.mx (st1 o wy S bg) (S.tbs.getD (S.tolds.length - wy.reach.toNat) (st1 o wy S bg)) else st1 o wy S bg
def fst_ {α : Type} (o : Ops α) (wy : Way) (ahead : Int) (S : Wst α) (bg : α) : α := o.sl (wy.slot (ahead + S.tolds.length)) wy.wheel (st2 o wy S bg)
def snoc {α : Type} (mx : α → α → α) (l : List α) (x : α) : List α := l ++ [l.getLast?.elim x (mx x)]
def putL {α : Type} (o : Ops α) (wy : Way) (side : Bool) (ahead : Int) (S : Wst α) (bg : α) : Wst α :=
  ⟨S.tolds ++ [o.told side (ahead + S.tolds.length) (fst_ o wy ahead S bg)], snoc o.mx S.reads (o.come side (ahead + S.tolds.length) (fst_ o wy ahead S bg)), snoc o.mx S.tbs (o.told side (ahead + S.tolds.length) (fst_ o wy ahead S bg))⟩
def Bnd.t0 (b : Bnd) (s : Bool) : Int := (b.del s).2.1
def Bnd.t1 (b : Bnd) (s : Bool) : Int := (b.del s).2.1 + (b.del s).2.2.2
def opsL (c : Cal) (b : Bnd) : Ops (List Int) := ⟨gr, fun s wh x => sf x s wh, fun s _ x => lf x b.fails.toNat (c.way s).wheel (b.t0 s), fun s _ x => lf x b.fails.toNat (c.way s).wheel (b.t1 s), fun x => x.map (· + 1)⟩
def toW (S : Wst (List Int)) : WSt := ⟨S.tolds, S.reads, S.tbs⟩
structure Bnd.Ok (b : Bnd) : Prop where
  f0 : 0 ≤ b.fails
  f1 : b.fails ≤ 1000
section
variable {P : Program} {w : World} {K : PySem.W.Frag} {mg : Str → Option Value} {base : Heap}
theorem gr_ok {x y : List Int} (h1 : x ≠ []) (h2 : y ≠ []) (h3 : x.length ≤ 1000) : gr x y ≠ [] ∧ (gr x y).length ≤ 1000 := by
  unfold gr
  refine ⟨fun e => ?_, by rw [List.length_zipWith]; omega⟩
  have := congrArg List.length e
  rw [List.length_zipWith, List.length_nil] at this
  have a := List.length_pos_iff.mpr h1
  have b := List.length_pos_iff.mpr h2
  omega
theorem sf_ok {x : List Int} {s wh : Int} (h1 : x ≠ []) (h3 : x.length ≤ 1000) : sf x s wh ≠ [] ∧ (sf x s wh).length ≤ 1000 := by
  unfold sf
  exact ⟨by simpa using h1, by rw [List.length_map]; exact h3⟩
theorem lf_ok {x : List Int} {f : Nat} {wh t : Int} (h1 : x ≠ []) (h3 : x.length ≤ 1000) : lf x f wh t ≠ [] ∧ (lf x f wh t).length ≤ 1000 := by
  refine ⟨fun e => ?_, by rw [lf_len]; exact h3⟩
  have := congrArg List.length e
  rw [lf_len] at this
  exact h1 (List.length_eq_zero_iff.mp this)
/-! ### __init__ -/
def sp_Winit : DSp := fun ds M P R => ∃ (a : Addr) (d : Des) (c : Cal) (bs : List Bnd) (b : Bnd) (k : Nat) (s : Bool) (ahead : Int), ds = [.ref a, dDes d, dBnds bs, .int k, dS s, .int ahead] ∧ d.cals[k]? = some c ∧ bs[k]? = some b ∧ M a = some (.ins (CW K) []) ∧
  ∀ (A : WAd) M', A.o = a → (∀ x ∈ A.own, M x = none) → Fr [a] M M' → WayAt K M' A (c.way s) b.fails (b.t0 s) (b.t1 s) ahead ⟨[], [], []⟩ → P .non M'
theorem sc_Winit : FnScope ["self", "design", "bounds", "caller", "side", "ahead", "delays"] ["self", "design", "bounds", "caller", "side", "ahead"] (defScope (inClass (Hd.topS 9) 0)) := ⟨rfl, rfl, rfl, by decide +kernel, rfl, by decide +kernel, by decide +kernel⟩
theorem mk_BudgetWay (C : Ct K mg base) : MkOk P w K mg base CX0 2 "BudgetWay" (CW K) ["self", "design", "bounds", "caller", "side", "ahead"] (sp_Winit (K := K)) := by
  refine C.mkr 35 37 35 (d := Hd.d_BudgetWay_init) rfl rfl rfl (fun _ _ _ _ _ _ us hl => match us, hl with | [_, _, _, _, _, _], _ => rfl) fun f fd F => fn_ok F sc_Winit (by rintro _ _ _ _ ⟨_, _, _, _, _, _, _, _, rfl, _⟩; rfl) ?_
  intro cdv Ar outer s H E ds M Q R hr ⟨a, d, c, bs, b, k, sd, ahead, eds, h1, h2, h3, kk⟩
  subst eds
  have sc := sc_Winit
  refine wss_cons ?_
  refine ws_fld ?_
  refine we_call (ok_way_of C) hr ?_
  refine wa_cons ?_
  refine we_var 1 rfl ?_
  refine wa_cons ?_
  refine we_var 3 rfl ?_
  refine wa_cons ?_
  refine we_var 4 rfl ?_
  refine wa_nil ?_
  refine ⟨d, c, k, sd, rfl, h1, ?_⟩
  refine we_var 0 rfl ?_
  refine ⟨_, _, _, rfl, h3, C.cW, C.na 49, Nat.le_of_ble_eq_true rfl, ?_⟩
  refine wss_cons ?_
  refine ws_fld ?_
  refine we_sub ?_
  refine we_sub ?_
  refine we_var 2 rfl ?_
  refine we_var 3 rfl ?_
  refine i_tup (atI_nat (map_at h2)) ?_
  refine we_int ?_
  refine i_tup rfl ?_
  refine we_var 0 rfl ?_
  refine ⟨_, _, _, rfl, put_same, C.cW, C.na 43, Nat.le_of_ble_eq_true rfl, ?_⟩
  refine wss_cons ?_
  refine ws_set 6 sc.nd ?_
  refine we_call (ok_delays_of C) hr ?_
  refine wa_cons ?_
  refine we_sub ?_
  refine we_var 2 rfl ?_
  refine we_var 3 rfl ?_
  refine i_tup (atI_nat (map_at h2)) ?_
  refine wa_cons ?_
  refine we_var 4 rfl ?_
  refine wa_nil ?_
  refine ⟨b, sd, rfl, ?_⟩
  refine wss_cons ?_
  refine ws_fld ?_
  refine we_tup ?_
  refine wa_cons ?_
  refine we_sub ?_
  refine we_var 6 rfl ?_
  refine we_int ?_
  refine i_tup rfl ?_
  refine wa_cons ?_
  refine we_bin od_add ?_
  refine we_sub ?_
  refine we_var 6 rfl ?_
  refine we_int ?_
  refine i_tup rfl ?_
  refine we_sub ?_
  refine we_var 6 rfl ?_
  refine we_int ?_
  refine i_tup rfl ?_
  refine b_addI ?_
  refine wa_nil ?_
  refine ⟨size_ok (by simp), ?_⟩
  refine we_var 0 rfl ?_
  refine ⟨_, _, _, rfl, put_same, C.cW, C.na 48, Nat.le_of_ble_eq_true rfl, ?_⟩
  refine wss_cons ?_
  refine ws_fld ?_
  refine we_var 5 rfl ?_
  refine we_var 0 rfl ?_
  refine ⟨_, _, _, rfl, put_same, C.cW, C.na 41, Nat.le_of_ble_eq_true rfl, ?_⟩
  refine wss_cons ?_
  refine ws_fld ?_
  refine we_lst ?_
  refine wa_nil ?_
  refine ⟨size_ok (by simp), fun pf hpf => ?_⟩
  simp only [put_put] at hpf ⊢
  obtain ⟨nfa, hpf⟩ := put_none hpf
  refine we_var 0 rfl ?_
  refine ⟨_, _, _, rfl, (put_ne (Ne.symm nfa)).trans put_same, C.cW, C.na 44, Nat.le_of_ble_eq_true rfl, ?_⟩
  refine wss_cons ?_
  refine ws_fld ?_
  refine we_lst ?_
  refine wa_nil ?_
  refine ⟨size_ok (by simp), fun pc hpc => ?_⟩
  obtain ⟨nca, hpc⟩ := put_none hpc
  obtain ⟨ncf, hpc⟩ := put_none hpc
  obtain ⟨_, hpc⟩ := put_none hpc
  refine we_var 0 rfl ?_
  refine ⟨_, _, _, rfl, (put_ne (Ne.symm nca)).trans put_same, C.cW, C.na 42, Nat.le_of_ble_eq_true rfl, ?_⟩
  refine wss_cons ?_
  refine ws_fld ?_
  refine we_lst ?_
  refine wa_nil ?_
  refine ⟨size_ok (by simp), fun pt hpt => ?_⟩
  obtain ⟨nta, hpt⟩ := put_none hpt
  obtain ⟨ntc, hpt⟩ := put_none hpt
  obtain ⟨_, hpt⟩ := put_none hpt
  obtain ⟨ntf, hpt⟩ := put_none hpt
  obtain ⟨_, hpt⟩ := put_none hpt
  refine we_var 0 rfl ?_
  refine ⟨_, _, _, rfl, (put_ne (Ne.symm nta)).trans put_same, C.cW, C.na 47, Nat.le_of_ble_eq_true rfl, ?_⟩
  refine wss_cons ?_
  refine ws_fld ?_
  refine we_lst ?_
  refine wa_nil ?_
  refine ⟨size_ok (by simp), fun pr hpr => ?_⟩
  obtain ⟨nra, hpr⟩ := put_none hpr
  obtain ⟨nrt, hpr⟩ := put_none hpr
  obtain ⟨_, hpr⟩ := put_none hpr
  obtain ⟨nrc, hpr⟩ := put_none hpr
  obtain ⟨_, hpr⟩ := put_none hpr
  obtain ⟨nrf, hpr⟩ := put_none hpr
  obtain ⟨_, hpr⟩ := put_none hpr
  refine we_var 0 rfl ?_
  refine ⟨_, _, _, rfl, (put_ne (Ne.symm nra)).trans put_same, C.cW, C.na 45, Nat.le_of_ble_eq_true rfl, ?_⟩
  refine wss_one ?_
  refine ws_fld ?_
  refine we_lst ?_
  refine wa_nil ?_
  refine ⟨size_ok (by simp), fun pb hpb => ?_⟩
  obtain ⟨nba, hpb⟩ := put_none hpb
  obtain ⟨nbr, hpb⟩ := put_none hpb
  obtain ⟨_, hpb⟩ := put_none hpb
  obtain ⟨nbt, hpb⟩ := put_none hpb
  obtain ⟨_, hpb⟩ := put_none hpb
  obtain ⟨nbc, hpb⟩ := put_none hpb
  obtain ⟨_, hpb⟩ := put_none hpb
  obtain ⟨nbf, hpb⟩ := put_none hpb
  obtain ⟨_, hpb⟩ := put_none hpb
  refine we_var 0 rfl ?_
  refine ⟨_, _, _, rfl, (put_ne (Ne.symm nba)).trans put_same, C.cW, C.na 46, Nat.le_of_ble_eq_true rfl, ?_⟩
  refine ⟨_, Sub.refl _, ?_⟩
  refine kk ⟨a, pf, pc, pt, pr, pb⟩ _ rfl ?_ ?_ ?_
  · intro x hx
    simp only [WAd.own, List.mem_cons, List.not_mem_nil, or_false] at hx
    rcases hx with rfl | rfl | rfl | rfl | rfl <;> assumption
  · refine ⟨fun p xs r => ?_, fun x m n e => ?_⟩
    · have g : ∀ q, M q = none → p ≠ q := fun q hq => nn r.1 hq
      have ga : p ≠ a := fun z => by subst z; have := r.1; rw [h3] at this; cases this
      refine ⟨?_, r.2⟩
      rw [put_ne ga, put_ne (g _ hpb), put_ne ga, put_ne (g _ hpr), put_ne ga, put_ne (g _ hpt), put_ne ga, put_ne (g _ hpc), put_ne ga, put_ne (g _ hpf), put_ne ga]
      exact r.1
    · have g : ∀ q, M q = none → x ≠ q := fun q hq => nn e hq
      have ga : x ≠ a := fun z => n (by simp [z])
      rw [put_ne ga, put_ne (g _ hpb), put_ne ga, put_ne (g _ hpr), put_ne ga, put_ne (g _ hpt), put_ne ga, put_ne (g _ hpc), put_ne ga, put_ne (g _ hpf), put_ne ga]
      exact e
  · have hne : [a, pf, pc, pt, pr, pb].Nodup := by
      simp only [List.nodup_cons, List.mem_cons, List.not_mem_nil, or_false, not_or, not_false_iff, and_true, List.nodup_nil]
      exact ⟨⟨Ne.symm nfa, Ne.symm nca, Ne.symm nta, Ne.symm nra, Ne.symm nba⟩, ⟨Ne.symm ncf, Ne.symm ntf, Ne.symm nrf, Ne.symm nbf⟩, ⟨Ne.symm ntc, Ne.symm nrc, Ne.symm nbc⟩, ⟨Ne.symm nrt, Ne.symm nbt⟩, Ne.symm nbr⟩
    have e0 : ∀ l : List D, (l = []) → Rows (fun _ => none) 0 [] ∨ True := fun _ _ => .inr trivial
    refine { o := ?_, f := ⟨[], ?_, rfl⟩, c := ⟨[], ?_, rfl⟩, t := ⟨[], ?_, Rw.nil⟩, r := ⟨[], ?_, Rw.nil⟩, b := ⟨[], ?_, Rw.nil⟩, lr := rfl, lb := rfl, nd := hne }
    · rw [put_same]
      rfl
    · rw [put_ne nfa, put_ne (Ne.symm nbf), put_ne nfa, put_ne (Ne.symm nrf), put_ne nfa, put_ne (Ne.symm ntf), put_ne nfa, put_ne (Ne.symm ncf), put_ne nfa, put_same]
      rfl
    · rw [put_ne nca, put_ne (Ne.symm nbc), put_ne nca, put_ne (Ne.symm nrc), put_ne nca, put_ne (Ne.symm ntc), put_ne nca, put_same]
      rfl
    · rw [put_ne nta, put_ne (Ne.symm nbt), put_ne nta, put_ne (Ne.symm nrt), put_ne nta, put_same]
      rfl
    · rw [put_ne nra, put_ne (Ne.symm nbr), put_ne nra, put_same]
      rfl
    · rw [put_ne nba, put_same]
      rfl
end
end K81

set_option Elab.async false
set_option linter.all false
set_option maxRecDepth 100000
set_option maxHeartbeats 4000000
namespace K81
open PySem PySem.Spec PyProof.Rows L2 DL
theorem Rows.push {M : Mem} {a p : Addr} {ps : List Addr} {xss : List (List Int)} {xs : List Int} (e : M a = some (.lst (ps.map D.ref))) (h : Rw M ps xss) (r : Row M p xs) : Rows (put M a (.lst (ps.map D.ref ++ [D.ref p]))) a (xss ++ [xs]) := by
  have f : Fr [a] M (put M a (.lst (ps.map D.ref ++ [D.ref p]))) := Fr.put2 (List.mem_singleton.mpr rfl) e refs_ne
  refine ⟨ps ++ [p], by rw [put_same, List.map_append]; rfl, (h.fr f).snoc (f.row _ _ r)⟩
theorem Rows.last {M : Mem} {ps : List Addr} {xss : List (List Int)} {y : List Int} (h : Rw M ps xss) (e : xss.getLast? = some y) : ∃ p, (ps.map D.ref)[(ps.map D.ref).length - 1]? = some (D.ref p) ∧ Row M p y := by
  rw [List.getLast?_eq_getElem?] at e
  obtain ⟨p, e1, r⟩ := h.at_ e
  exact ⟨p, by rw [List.length_map, h.1]; exact map_at e1, r⟩
section
variable {P : Program} {w : World} {K : PySem.W.Frag} {mg : Str → Option Value} {base : Heap}
/-- a way's object at a state of rows; n letters -/
abbrev WayL (K : PySem.W.Frag) (M : Mem) (A : WAd) (c : Cal) (b : Bnd) (s : Bool) (ahead : Int) (S : Wst (List Int)) : Prop := WayAt K M A (c.way s) b.fails (b.t0 s) (b.t1 s) ahead (toW S)
def Full (l : List (List Int)) : Prop := ∀ x ∈ l, x ≠ [] ∧ x.length ≤ 1000
theorem snoc_last {α : Type} (mx : α → α → α) (l : List α) (x : α) : (snoc mx l x).getLast? = some (l.getLast?.elim x (mx x)) := by unfold snoc; simp
def sp_put_letter : DSp := fun ds M P R => ∃ (A : WAd) (c : Cal) (b : Bnd) (s : Bool) (ahead : Int) (S : Wst (List Int)) (p : Addr) (x : List Int), ds = [.ref A.o, .ref p] ∧ WayL K M A c b s ahead S ∧ (c.way s).Ok ∧ b.Ok ∧ S.tolds.length ≤ 100000 ∧ Row M p x ∧
  ∀ q M' y, Fr A.own M M' → WayL K M' A c b s ahead (putL (opsL c b) (c.way s) s ahead S x) → Row M' q y → (putL (opsL c b) (c.way s) s ahead S x).reads.getLast? = some y → P (.ref q) M'
theorem sc_put_letter : FnScope ["self", "begun", "start", "first", "come", "told", "letter", "wheel"] ["self", "begun"] (defScope (inClass (Hd.topS 9) 3)) := ⟨rfl, rfl, rfl, by decide +kernel, rfl, by decide +kernel, by decide +kernel⟩
theorem atI_sub {α : Type} {l : List α} {n k : Nat} {d : α} (hk : k ≤ n) (h : l[n - k]? = some d) : atI l ((n : Int) - (k : Int)) = some d := by
  rw [show (n : Int) - (k : Int) = ((n - k : Nat) : Int) by omega]
  exact atI_nat h
theorem getD_at {α : Type} {l : List α} {i : Nat} {d : α} (h : i < l.length) : l[i]? = some (l.getD i d) := by simp [List.getD, List.getElem?_eq_getElem h]
theorem ok_put_letter (C : Ct K mg base) : MethOk P w K mg base CX0 3 (CW K) "put_letter" ["self", "begun"] (sp_put_letter (K := K)) := by
  refine C.me 38 40 (d := Hd.d_BudgetWay_put_letter) rfl rfl rfl (fun _ _ _ _ _ _ us hl => match us, hl with | [_, _], _ => rfl) fun f fd F => fn_ok F sc_put_letter (by rintro _ _ _ _ ⟨_, _, _, _, _, _, _, _, rfl, _⟩; rfl) ?_
  intro cdv Ar outer s H E ds M Q R hr ⟨A, c, b, sd, ahead, S, p, x, eds, hW, hwy, hb, hn, hx, k⟩
  subst eds
  have sc := sc_put_letter
  have hR := hwy.r0
  generalize ewy : c.way sd = wy at *
  have hW' : WayAt K M A wy b.fails (b.t0 sd) (b.t1 sd) ahead (toW S) := by rw [← ewy]; exact hW
  have nd := hW'.nd
  simp only [List.nodup_cons, List.mem_cons, List.not_mem_nil, or_false, not_or, not_false_iff, and_true, List.nodup_nil] at nd
  obtain ⟨⟨nof, noc, not_, nor, nob⟩, ⟨nfc, nft, nfr, nfb⟩, ⟨nct, ncr, ncb⟩, ⟨ntr, ntb⟩, nrb⟩ := nd
  obtain ⟨fs, ef, lf_⟩ := hW'.f
  obtain ⟨cs, ec, lc_⟩ := hW'.c
  refine wss_cons ?_
  refine ws_par 6 7 rfl sc.nd ?_
  refine wa_cons ?_
  refine we_callB cd_len (C.fr 67) ?_
  refine wa_cons ?_
  refine we_attr ?_
  refine we_var 0 rfl ?_
  refine ⟨_, _, _, _, rfl, hW'.o, C.cW, C.na 44, rfl, ?_⟩
  refine wa_nil ?_
  refine c_len ⟨_, ef, rfl⟩ ?_
  rw [List.length_map, lf_]
  refine wa_cons ?_
  refine we_sub ?_
  refine we_attr ?_
  refine we_var 0 rfl ?_
  refine ⟨_, _, _, _, rfl, hW'.o, C.cW, C.na 49, rfl, ?_⟩
  refine we_int ?_
  refine i_tup rfl ?_
  refine wa_nil ?_
  refine ⟨_, _, rfl, ?_⟩
  have eT : (toW S).tolds.length = S.tolds.length := rfl
  rw [eT]
  refine wss_cons ?_
  refine ws_set 2 sc.nd ?_
  refine we_var 1 rfl ?_
  refine wss_cons ?_
  refine WS.nxt (fun (Γ' : Sl) (M' : Mem) => ∃ q, Γ' = [some (D.ref A.o), some (D.ref p), some (D.ref q), none, none, none, some (D.int (S.tolds.length : Nat)), some (D.int wy.wheel)] ∧ Fr [] M M' ∧ Row M' q (st1 (opsL c b) wy S x)) ?_ ?_
  · refine ws_if ?_
    refine wt_cmp od_ge ?_
    refine we_var 6 rfl ?_
    refine we_callB cd_len (C.fr 67) ?_
    refine wa_cons ?_
    refine we_sub ?_
    refine we_attr ?_
    refine we_var 0 rfl ?_
    refine ⟨_, _, _, _, rfl, hW'.o, C.cW, C.na 49, rfl, ?_⟩
    refine we_int ?_
    refine i_tup rfl ?_
    refine wa_nil ?_
    refine c_len rfl ?_
    rw [List.length_map]
    refine b_cmp ?_
    refine t_bl ?_
    refine ⟨fun hk => ?_, fun hk => ?_⟩
    · have hk : wy.slots.length ≤ S.tolds.length := by have := of_decide_eq_true hk; omega
      have hlt : S.tolds.length - wy.slots.length < S.tolds.length := by have := hwy.s0; omega
      have hat := getD_at (d := x) hlt
      obtain ⟨ps, et, rt⟩ := hW'.t
      obtain ⟨r, er, rr⟩ := rt.at_ hat
      refine wss_one ?_
      refine ws_set 2 sc.nd ?_
      refine we_call (ok_greater_of C) hr ?_
      refine wa_cons ?_
      refine we_var 2 rfl ?_
      refine wa_cons ?_
      refine we_sub ?_
      refine we_attr ?_
      refine we_var 0 rfl ?_
      refine ⟨_, _, _, _, rfl, hW'.o, C.cW, C.na 47, rfl, ?_⟩
      refine we_bin od_sub ?_
      refine we_var 6 rfl ?_
      refine we_callB cd_len (C.fr 67) ?_
      refine wa_cons ?_
      refine we_sub ?_
      refine we_attr ?_
      refine we_var 0 rfl ?_
      refine ⟨_, _, _, _, rfl, hW'.o, C.cW, C.na 49, rfl, ?_⟩
      refine we_int ?_
      refine i_tup rfl ?_
      refine wa_nil ?_
      refine c_len rfl ?_
      rw [List.length_map]
      refine b_sub ?_
      refine i_lst et (atI_sub hk (map_at er)) ?_
      refine wa_nil ?_
      refine ⟨p, r, x, _, rfl, hx.1, rr.1, by have := hx.2.2; omega, fun q hq => ?_⟩
      refine ⟨q, rfl, Fr.new hq, ?_⟩
      unfold st1
      rw [if_pos hk]
      exact ⟨put_same, gr_ok hx.2.1 rr.2.1 hx.2.2⟩
    · refine wss_nil ?_
      refine ⟨p, rfl, Fr.refl M, ?_⟩
      have hk : ¬ wy.slots.length ≤ S.tolds.length := by have := of_decide_eq_false hk; omega
      unfold st1
      rw [if_neg hk]
      exact hx
  rintro _ M1 ⟨q1, rfl, fr1, row1⟩
  have hW1 := hW'.fr fr1 (by simp)
  refine wss_cons ?_
  refine WS.nxt (fun (Γ' : Sl) (M' : Mem) => ∃ q, Γ' = [some (D.ref A.o), some (D.ref p), some (D.ref q), none, none, none, some (D.int (S.tolds.length : Nat)), some (D.int wy.wheel)] ∧ Fr [] M M' ∧ Row M' q (st2 (opsL c b) wy S x)) ?_ ?_
  · refine ws_if ?_
    refine wt_cmp od_ge ?_
    refine we_var 6 rfl ?_
    refine we_sub ?_
    refine we_attr ?_
    refine we_var 0 rfl ?_
    refine ⟨_, _, _, _, rfl, hW1.o, C.cW, C.na 49, rfl, ?_⟩
    refine we_int ?_
    refine i_tup rfl ?_
    refine b_cmp ?_
    refine t_bl ?_
    refine ⟨fun hk => ?_, fun hk => ?_⟩
    · have hk : wy.reach ≤ (S.tolds.length : Int) := of_decide_eq_true hk
      have hlt : S.tolds.length - wy.reach.toNat < S.tbs.length := by have e := hW'.lb; have : S.tbs.length = S.tolds.length := e; omega
      have hat := getD_at (d := st1 (opsL c b) wy S x) hlt
      obtain ⟨ps, et, rt⟩ := hW1.b
      obtain ⟨r, er, rr⟩ := rt.at_ hat
      refine wss_one ?_
      refine ws_set 2 sc.nd ?_
      refine we_call (ok_greater_of C) hr ?_
      refine wa_cons ?_
      refine we_var 2 rfl ?_
      refine wa_cons ?_
      refine we_sub ?_
      refine we_attr ?_
      refine we_var 0 rfl ?_
      refine ⟨_, _, _, _, rfl, hW1.o, C.cW, C.na 46, rfl, ?_⟩
      refine we_bin od_sub ?_
      refine we_var 6 rfl ?_
      refine we_sub ?_
      refine we_attr ?_
      refine we_var 0 rfl ?_
      refine ⟨_, _, _, _, rfl, hW1.o, C.cW, C.na 49, rfl, ?_⟩
      refine we_int ?_
      refine i_tup rfl ?_
      refine b_sub ?_
      have eR : wy.reach = (wy.reach.toNat : Int) := by omega
      rw [eR]
      refine i_lst et (atI_sub (by omega) (map_at er)) ?_
      refine wa_nil ?_
      refine ⟨q1, r, _, _, rfl, row1.1, rr.1, by have := row1.2.2; omega, fun q hq => ?_⟩
      refine ⟨q, rfl, fr1.trans (Fr.new hq), ?_⟩
      unfold st2
      rw [if_pos hk]
      exact ⟨put_same, gr_ok row1.2.1 rr.2.1 row1.2.2⟩
    · refine wss_nil ?_
      refine ⟨q1, rfl, fr1, ?_⟩
      have hk : ¬ wy.reach ≤ (S.tolds.length : Int) := of_decide_eq_false hk
      unfold st2
      rw [if_neg hk]
      exact row1
  rintro _ M2 ⟨q2, rfl, fr2, row2⟩
  have hW2 := hW'.fr fr2 (by simp)
  refine wss_cons ?_
  refine ws_set 3 sc.nd ?_
  refine we_call (ok_slots_from C) hr ?_
  refine wa_cons ?_
  refine we_var 2 rfl ?_
  refine wa_cons ?_
  refine we_meth (ok_slot_of C) C.cW hr ?_
  refine we_var 0 rfl ?_
  refine ⟨A.o, _, rfl, hW2.o, rfl, ?_⟩
  refine wa_cons ?_
  refine we_var 6 rfl ?_
  refine wa_nil ?_
  refine ⟨A, wy, _, _, _, ahead, _, _, rfl, hW2, hwy, ?_⟩
  refine wa_cons ?_
  refine we_var 7 rfl ?_
  refine wa_nil ?_
  refine ⟨q2, _, _, _, rfl, row2.1, by have := row2.2.2; omega, hwy.w0, fun q3 hq3 => ?_⟩
  have row3 : Row (put M2 q3 (.lst ((fst_ (opsL c b) wy ahead S x).map D.int))) q3 (fst_ (opsL c b) wy ahead S x) := ⟨put_same, sf_ok row2.2.1 row2.2.2⟩
  have fr3 : Fr [] M (put M2 q3 (.lst ((fst_ (opsL c b) wy ahead S x).map D.int))) := fr2.trans (Fr.new hq3)
  show WSs _ _ _ (put M2 q3 (.lst ((fst_ (opsL c b) wy ahead S x).map D.int))) _
  generalize put M2 q3 (.lst ((fst_ (opsL c b) wy ahead S x).map D.int)) = M3 at row3 fr3 ⊢
  have hW3 := hW'.fr fr3 (by simp)
  have hfails : b.fails = (b.fails.toNat : Int) := by have := hb.f0; omega
  refine wss_cons ?_
  refine ws_set 4 sc.nd ?_
  refine we_meth (ok_latest_from C) C.cW hr ?_
  refine we_var 0 rfl ?_
  refine ⟨A.o, _, rfl, hW3.o, rfl, ?_⟩
  refine wa_cons ?_
  refine we_var 3 rfl ?_
  refine wa_cons ?_
  refine we_sub ?_
  refine we_attr ?_
  refine we_var 0 rfl ?_
  refine ⟨_, _, _, _, rfl, hW3.o, C.cW, C.na 48, rfl, ?_⟩
  refine we_int ?_
  refine i_tup rfl ?_
  refine wa_nil ?_
  refine ⟨A, wy, _, _, ahead, _, b.fails.toNat, _, q3, _, rfl, by rw [hfails] at hW3; exact hW3, hwy, by have := hb.f1; omega, row3, fun q4 hq4 => ?_⟩
  have row4 : Row (put M3 q4 (.lst ((lf (fst_ (opsL c b) wy ahead S x) b.fails.toNat wy.wheel (b.t0 sd)).map D.int))) q4 (lf (fst_ (opsL c b) wy ahead S x) b.fails.toNat wy.wheel (b.t0 sd)) := ⟨put_same, lf_ok row3.2.1 row3.2.2⟩
  have fr4 : Fr [] M3 (put M3 q4 (.lst ((lf (fst_ (opsL c b) wy ahead S x) b.fails.toNat wy.wheel (b.t0 sd)).map D.int))) := Fr.new hq4
  show WSs _ _ _ (put M3 q4 (.lst ((lf (fst_ (opsL c b) wy ahead S x) b.fails.toNat wy.wheel (b.t0 sd)).map D.int))) _
  generalize put M3 q4 (.lst ((lf (fst_ (opsL c b) wy ahead S x) b.fails.toNat wy.wheel (b.t0 sd)).map D.int)) = M4 at row4 fr4 ⊢
  have fr04 := fr3.trans fr4
  have row34 := fr4.row _ _ row3
  have hW4 := hW'.fr fr04 (by simp)
  refine wss_cons ?_
  refine ws_set 5 sc.nd ?_
  refine we_meth (ok_latest_from C) C.cW hr ?_
  refine we_var 0 rfl ?_
  refine ⟨A.o, _, rfl, hW4.o, rfl, ?_⟩
  refine wa_cons ?_
  refine we_var 3 rfl ?_
  refine wa_cons ?_
  refine we_sub ?_
  refine we_attr ?_
  refine we_var 0 rfl ?_
  refine ⟨_, _, _, _, rfl, hW4.o, C.cW, C.na 48, rfl, ?_⟩
  refine we_int ?_
  refine i_tup rfl ?_
  refine wa_nil ?_
  refine ⟨A, wy, _, _, ahead, _, b.fails.toNat, _, q3, _, rfl, by rw [hfails] at hW4; exact hW4, hwy, by have := hb.f1; omega, row34, fun q5 hq5 => ?_⟩
  have row5 : Row (put M4 q5 (.lst ((lf (fst_ (opsL c b) wy ahead S x) b.fails.toNat wy.wheel (b.t1 sd)).map D.int))) q5 (lf (fst_ (opsL c b) wy ahead S x) b.fails.toNat wy.wheel (b.t1 sd)) := ⟨put_same, lf_ok row34.2.1 row34.2.2⟩
  have fr5 : Fr [] M4 (put M4 q5 (.lst ((lf (fst_ (opsL c b) wy ahead S x) b.fails.toNat wy.wheel (b.t1 sd)).map D.int))) := Fr.new hq5
  show WSs _ _ _ (put M4 q5 (.lst ((lf (fst_ (opsL c b) wy ahead S x) b.fails.toNat wy.wheel (b.t1 sd)).map D.int))) _
  generalize put M4 q5 (.lst ((lf (fst_ (opsL c b) wy ahead S x) b.fails.toNat wy.wheel (b.t1 sd)).map D.int)) = M5 at row5 fr5 ⊢
  have fr05 := fr04.trans fr5
  have row45 := fr5.row _ _ row4
  have hW5 := hW'.fr fr05 (by simp)
  clear hW4 hW3 hW2 hW1 row34 row3 row4 row2 row1 fr4 fr3 fr2 fr1 fr04 hq5 hq4 hq3
  have ecome : lf (fst_ (opsL c b) wy ahead S x) b.fails.toNat wy.wheel (b.t0 sd) = (opsL c b).come sd (ahead + S.tolds.length) (fst_ (opsL c b) wy ahead S x) := by rw [← ewy]; rfl
  have etold : lf (fst_ (opsL c b) wy ahead S x) b.fails.toNat wy.wheel (b.t1 sd) = (opsL c b).told sd (ahead + S.tolds.length) (fst_ (opsL c b) wy ahead S x) := by rw [← ewy]; rfl
  rw [ecome] at row45
  rw [etold] at row5
  generalize hcm : (opsL c b).come sd (ahead + S.tolds.length) (fst_ (opsL c b) wy ahead S x) = cm at *
  generalize htd : (opsL c b).told sd (ahead + S.tolds.length) (fst_ (opsL c b) wy ahead S x) = td at *
  obtain ⟨fs5, ef5, lf5⟩ := hW5.f
  obtain ⟨cs5, ec5, lc5⟩ := hW5.c
  obtain ⟨ts5, et5, rt5⟩ := hW5.t
  obtain ⟨rs5, er5, rr5⟩ := hW5.r
  obtain ⟨bs5, eb5, rb5⟩ := hW5.b
  have o5 := hW5.o
  have hn5 : S.tolds.length < sizeLine := by rw [sizeLine_eq]; omega
  have lr5 : S.reads.length = S.tolds.length := hW5.lr
  have lb5 : S.tbs.length = S.tolds.length := hW5.lb
  have lts : ts5.length = S.tolds.length := rt5.1
  have lrs : rs5.length = S.tolds.length := by have e : rs5.length = S.reads.length := rr5.1; omega
  have lbs : bs5.length = S.tolds.length := by have e : bs5.length = S.tbs.length := rb5.1; omega
  have lf5' : fs5.length = S.tolds.length := lf5
  have lc5' : cs5.length = S.tolds.length := lc5
  refine wss_cons ?_
  refine ws_expr ?_
  refine we_append ?_
  refine we_attr ?_
  refine we_var 0 rfl ?_
  refine ⟨_, _, _, _, rfl, o5, C.cW, C.na 44, rfl, ?_⟩
  refine ⟨_, _, rfl, ef5, ?_⟩
  refine we_var 3 rfl ?_
  refine ⟨_, ef5, by rw [List.length_map]; omega, ?_⟩
  have fr6 : Fr A.own M5 (put M5 A.f (.lst (fs5.map D.ref ++ [D.ref q3]))) := Fr.put2 (by simp [WAd.own]) ef5 refs_ne
  have f6 : (put M5 A.f (.lst (fs5.map D.ref ++ [D.ref q3]))) A.f = some (.lst (fs5.map D.ref ++ [D.ref q3])) := put_same
  have g6 : ∀ y, y ≠ A.f → (put M5 A.f (.lst (fs5.map D.ref ++ [D.ref q3]))) y = M5 y := fun y hy => put_ne hy
  generalize put M5 A.f (.lst (fs5.map D.ref ++ [D.ref q3])) = M6 at fr6 f6 g6 ⊢
  refine wss_cons ?_
  refine ws_expr ?_
  refine we_append ?_
  refine we_attr ?_
  refine we_var 0 rfl ?_
  refine ⟨_, _, _, _, rfl, (g6 _ nof).trans o5, C.cW, C.na 42, rfl, ?_⟩
  refine ⟨_, _, rfl, (g6 _ (Ne.symm nfc)).trans ec5, ?_⟩
  refine we_var 4 rfl ?_
  refine ⟨_, (g6 _ (Ne.symm nfc)).trans ec5, by rw [List.length_map]; omega, ?_⟩
  have fr7 : Fr A.own M6 (put M6 A.c (.lst (cs5.map D.ref ++ [D.ref q4]))) := Fr.put2 (by simp [WAd.own]) ((g6 _ (Ne.symm nfc)).trans ec5) refs_ne
  have f7 : (put M6 A.c (.lst (cs5.map D.ref ++ [D.ref q4]))) A.c = some (.lst (cs5.map D.ref ++ [D.ref q4])) := put_same
  have g7 : ∀ y, y ≠ A.c → (put M6 A.c (.lst (cs5.map D.ref ++ [D.ref q4]))) y = M6 y := fun y hy => put_ne hy
  generalize put M6 A.c (.lst (cs5.map D.ref ++ [D.ref q4])) = M7 at fr7 f7 g7 ⊢
  have at7 : ∀ y, y ≠ A.f → y ≠ A.c → M7 y = M5 y := fun y h1 h2 => (g7 y h2).trans (g6 y h1)
  have fr57 := fr6.trans fr7
  refine wss_cons ?_
  refine ws_expr ?_
  refine we_append ?_
  refine we_attr ?_
  refine we_var 0 rfl ?_
  refine ⟨_, _, _, _, rfl, (at7 _ nof noc).trans o5, C.cW, C.na 47, rfl, ?_⟩
  refine ⟨_, _, rfl, (at7 _ (Ne.symm nft) (Ne.symm nct)).trans et5, ?_⟩
  refine we_var 5 rfl ?_
  refine ⟨_, (at7 _ (Ne.symm nft) (Ne.symm nct)).trans et5, by rw [List.length_map]; omega, ?_⟩
  have t8 := Rows.push ((at7 _ (Ne.symm nft) (Ne.symm nct)).trans et5) (rt5.fr fr57) (fr57.row _ _ row5)
  have fr8 : Fr A.own M7 (put M7 A.t (.lst (ts5.map D.ref ++ [D.ref q5]))) := Fr.put2 (by simp [WAd.own]) ((at7 _ (Ne.symm nft) (Ne.symm nct)).trans et5) refs_ne
  have g8 : ∀ y, y ≠ A.t → (put M7 A.t (.lst (ts5.map D.ref ++ [D.ref q5]))) y = M7 y := fun y hy => put_ne hy
  generalize put M7 A.t (.lst (ts5.map D.ref ++ [D.ref q5])) = M8 at fr8 t8 g8 ⊢
  have fr58 := fr57.trans fr8
  have row48 := fr58.row _ _ row45
  have row58 := fr58.row _ _ row5
  have o8 := ((g8 _ not_).trans (at7 _ nof noc)).trans o5
  have f8 := ((g8 _ nft).trans (g7 _ nfc)).trans f6
  have c8 := (g8 _ nct).trans f7
  have er8 := ((g8 _ (Ne.symm ntr)).trans (at7 _ (Ne.symm nfr) (Ne.symm ncr))).trans er5
  have rr8 := rr5.fr fr58
  have eb8 := ((g8 _ (Ne.symm ntb)).trans (at7 _ (Ne.symm nfb) (Ne.symm ncb))).trans eb5
  have rb8 := rb5.fr fr58
  have frM8 : Fr A.own M M8 := (fr05.mono (by simp)).trans fr58
  clear g8 at7 g7 g6 fr58 fr8 fr57 fr7 fr6 f6 f7
  refine wss_cons ?_
  refine WS.nxt (fun (Γ' : Sl) (M' : Mem) => Γ' = [some (D.ref A.o), some (D.ref p), some (D.ref q2), some (D.ref q3), some (D.ref q4), some (D.ref q5), some (D.int (S.tolds.length : Nat)), some (D.int wy.wheel)] ∧ Fr A.own M M' ∧ M' A.o = some (.ins (CW K) (wFs A wy b.fails (b.t0 sd) (b.t1 sd) ahead)) ∧
    M' A.f = some (.lst (fs5.map D.ref ++ [D.ref q3])) ∧ M' A.c = some (.lst (cs5.map D.ref ++ [D.ref q4])) ∧ Rows M' A.t (S.tolds ++ [td]) ∧ Rows M' A.r (snoc gr S.reads cm) ∧ M' A.b = some (.lst (bs5.map D.ref)) ∧ Rw M' bs5 S.tbs ∧ Row M' q5 td) ?_ ?_
  · have fin : ∀ M9 q y, Fr [] M8 M9 → Row M9 q y → y = S.reads.getLast?.elim cm (gr cm) →
        ∃ l, M9 A.r = some (.lst l) ∧ l.length < sizeLine ∧ (fun (Γ' : Sl) (M' : Mem) => Γ' = [some (D.ref A.o), some (D.ref p), some (D.ref q2), some (D.ref q3), some (D.ref q4), some (D.ref q5), some (D.int (S.tolds.length : Nat)), some (D.int wy.wheel)] ∧ Fr A.own M M' ∧ M' A.o = some (.ins (CW K) (wFs A wy b.fails (b.t0 sd) (b.t1 sd) ahead)) ∧
    M' A.f = some (.lst (fs5.map D.ref ++ [D.ref q3])) ∧ M' A.c = some (.lst (cs5.map D.ref ++ [D.ref q4])) ∧ Rows M' A.t (S.tolds ++ [td]) ∧ Rows M' A.r (snoc gr S.reads cm) ∧ M' A.b = some (.lst (bs5.map D.ref)) ∧ Rw M' bs5 S.tbs ∧ Row M' q5 td) [some (D.ref A.o), some (D.ref p), some (D.ref q2), some (D.ref q3), some (D.ref q4), some (D.ref q5), some (D.int (S.tolds.length : Nat)), some (D.int wy.wheel)] (put M9 A.r (.lst (l ++ [D.ref q]))) := by
      intro M9 q y fr9 row9 ey
      have er9 := fr9.oth _ _ (by simp) er8
      have fr10 : Fr A.own M9 (put M9 A.r (.lst (rs5.map D.ref ++ [D.ref q]))) := Fr.put2 (by simp [WAd.own]) er9 refs_ne
      have f89 : Fr A.own M8 M9 := fr9.mono (by simp)
      have fr810 := f89.trans fr10
      refine ⟨_, er9, by rw [List.length_map]; omega, rfl, frM8.trans fr810, ?_, ?_, ?_, ?_, ?_, ?_, rb8.fr fr810, fr810.row _ _ row58⟩
      · rw [put_ne nor]; exact fr9.oth _ _ (by simp) o8
      · rw [put_ne nfr]; exact fr9.oth _ _ (by simp) f8
      · rw [put_ne ncr]; exact fr9.oth _ _ (by simp) c8
      · obtain ⟨ps, e1, e2⟩ := t8
        exact ⟨ps, by rw [put_ne ntr]; exact fr9.oth _ _ (by simp) e1, e2.fr fr810⟩
      · have := Rows.push er9 (rr8.fr fr9) row9
        rw [ey] at this
        exact this
      · rw [put_ne (Ne.symm nrb)]; exact fr9.oth _ _ (by simp) eb8
    refine ws_expr ?_
    refine we_append ?_
    refine we_attr ?_
    refine we_var 0 rfl ?_
    refine ⟨_, _, _, _, rfl, o8, C.cW, C.na 45, rfl, ?_⟩
    refine ⟨_, _, rfl, er8, ?_⟩
    refine we_ifexp ?_
    refine wt_truth ?_
    refine we_attr ?_
    refine we_var 0 rfl ?_
    refine ⟨_, _, _, _, rfl, o8, C.cW, C.na 45, rfl, ?_⟩
    refine ⟨_, .inl ⟨_, er8, rfl⟩, ?_⟩
    refine ⟨fun hk => ?_, fun hk => ?_⟩
    · have hne : S.reads ≠ [] := fun z => by
        have e : rs5.length = S.reads.length := rr5.1
        rw [z] at e
        rw [List.length_eq_zero_iff.mp e] at hk
        cases hk
      obtain ⟨y, hy⟩ : ∃ y, S.reads.getLast? = some y := ⟨_, List.getLast?_eq_some_getLast hne⟩
      obtain ⟨pl, e1, r1⟩ := Rows.last rr8 hy
      refine we_call (ok_greater_of C) hr ?_
      refine wa_cons ?_
      refine we_var 4 rfl ?_
      refine wa_cons ?_
      refine we_sub ?_
      refine we_attr ?_
      refine we_var 0 rfl ?_
      refine ⟨_, _, _, _, rfl, o8, C.cW, C.na 45, rfl, ?_⟩
      refine we_neg ?_
      refine we_int ?_
      refine ⟨_, rfl, ?_⟩
      refine i_lst er8 (atI_last e1) ?_
      refine wa_nil ?_
      refine ⟨q4, pl, cm, y, rfl, row48.1, r1.1, by have := row48.2.2; omega, fun q hq => ?_⟩
      exact fin _ q _ (Fr.new hq) ⟨put_same, gr_ok row48.2.1 r1.2.1 row48.2.2⟩ (by rw [hy]; rfl)
    · have he : S.reads = [] := by
        cases rs5 with
        | nil => exact List.length_eq_zero_iff.mp rr5.1.symm
        | cons _ _ => cases hk
      refine we_var 4 rfl ?_
      exact fin M8 q4 cm (Fr.refl M8) row48 (by rw [he]; rfl)
  clear t8 rb8 eb8 rr8 er8 c8 f8 o8 row58 row48 frM8
  rintro _ M9 ⟨rfl, frM9, o9, f9, c9, t9, r9, eb9, rb9, row59⟩
  refine wss_cons ?_
  refine WS.nxt (fun (Γ' : Sl) (M' : Mem) => Γ' = [some (D.ref A.o), some (D.ref p), some (D.ref q2), some (D.ref q3), some (D.ref q4), some (D.ref q5), some (D.int (S.tolds.length : Nat)), some (D.int wy.wheel)] ∧ Fr A.own M M' ∧ WayAt K M' A wy b.fails (b.t0 sd) (b.t1 sd) ahead ⟨S.tolds ++ [td], snoc gr S.reads cm, snoc gr S.tbs td⟩) ?_ ?_
  · have fin : ∀ M10 q y, Fr [] M9 M10 → Row M10 q y → y = S.tbs.getLast?.elim td (gr td) →
        ∃ l, M10 A.b = some (.lst l) ∧ l.length < sizeLine ∧ (fun (Γ' : Sl) (M' : Mem) => Γ' = [some (D.ref A.o), some (D.ref p), some (D.ref q2), some (D.ref q3), some (D.ref q4), some (D.ref q5), some (D.int (S.tolds.length : Nat)), some (D.int wy.wheel)] ∧ Fr A.own M M' ∧ WayAt K M' A wy b.fails (b.t0 sd) (b.t1 sd) ahead ⟨S.tolds ++ [td], snoc gr S.reads cm, snoc gr S.tbs td⟩) [some (D.ref A.o), some (D.ref p), some (D.ref q2), some (D.ref q3), some (D.ref q4), some (D.ref q5), some (D.int (S.tolds.length : Nat)), some (D.int wy.wheel)] (put M10 A.b (.lst (l ++ [D.ref q]))) := by
      intro M10 q y fr9 row9 ey
      have er9 := fr9.oth _ _ (by simp) eb9
      have fr10 : Fr A.own M10 (put M10 A.b (.lst (bs5.map D.ref ++ [D.ref q]))) := Fr.put2 (by simp [WAd.own]) er9 refs_ne
      have f89 : Fr A.own M9 M10 := fr9.mono (by simp)
      have fr810 := f89.trans fr10
      refine ⟨_, er9, by rw [List.length_map]; omega, rfl, frM9.trans fr810, ⟨?_, ⟨fs5 ++ [q3], ?_, ?_⟩, ⟨cs5 ++ [q4], ?_, ?_⟩, ?_, ?_, ?_, ?_, ?_, hW'.nd⟩⟩
      · rw [put_ne nob]; exact fr9.oth _ _ (by simp) o9
      · rw [put_ne nfb, List.map_append]; exact fr9.oth _ _ (by simp) f9
      · simp [lf5']
      · rw [put_ne ncb, List.map_append]; exact fr9.oth _ _ (by simp) c9
      · simp [lc5']
      · obtain ⟨ps, e1, e2⟩ := t9
        exact ⟨ps, by rw [put_ne ntb]; exact fr9.oth _ _ (by simp) e1, e2.fr fr810⟩
      · obtain ⟨ps, e1, e2⟩ := r9
        exact ⟨ps, by rw [put_ne nrb]; exact fr9.oth _ _ (by simp) e1, e2.fr fr810⟩
      · have := Rows.push er9 (rb9.fr fr9) row9
        rw [ey] at this
        exact this
      · simp [snoc, lr5]
      · simp [snoc, lb5]
    refine ws_expr ?_
    refine we_append ?_
    refine we_attr ?_
    refine we_var 0 rfl ?_
    refine ⟨_, _, _, _, rfl, o9, C.cW, C.na 46, rfl, ?_⟩
    refine ⟨_, _, rfl, eb9, ?_⟩
    refine we_ifexp ?_
    refine wt_truth ?_
    refine we_attr ?_
    refine we_var 0 rfl ?_
    refine ⟨_, _, _, _, rfl, o9, C.cW, C.na 46, rfl, ?_⟩
    refine ⟨_, .inl ⟨_, eb9, rfl⟩, ?_⟩
    refine ⟨fun hk => ?_, fun hk => ?_⟩
    · have hne : S.tbs ≠ [] := fun z => by
        have e : bs5.length = S.tbs.length := rb5.1
        rw [z] at e
        rw [List.length_eq_zero_iff.mp e] at hk
        cases hk
      obtain ⟨y, hy⟩ : ∃ y, S.tbs.getLast? = some y := ⟨_, List.getLast?_eq_some_getLast hne⟩
      obtain ⟨pl, e1, r1⟩ := Rows.last rb9 hy
      refine we_call (ok_greater_of C) hr ?_
      refine wa_cons ?_
      refine we_var 5 rfl ?_
      refine wa_cons ?_
      refine we_sub ?_
      refine we_attr ?_
      refine we_var 0 rfl ?_
      refine ⟨_, _, _, _, rfl, o9, C.cW, C.na 46, rfl, ?_⟩
      refine we_neg ?_
      refine we_int ?_
      refine ⟨_, rfl, ?_⟩
      refine i_lst eb9 (atI_last e1) ?_
      refine wa_nil ?_
      refine ⟨q5, pl, td, y, rfl, row59.1, r1.1, by have := row59.2.2; omega, fun q hq => ?_⟩
      exact fin _ q _ (Fr.new hq) ⟨put_same, gr_ok row59.2.1 r1.2.1 row59.2.2⟩ (by rw [hy]; rfl)
    · have he : S.tbs = [] := by
        cases bs5 with
        | nil => exact List.length_eq_zero_iff.mp rb5.1.symm
        | cons _ _ => cases hk
      refine we_var 5 rfl ?_
      exact fin M9 q5 td (Fr.refl M9) row59 (by rw [he]; rfl)
  rintro _ M10 ⟨rfl, frM10, hW10⟩
  obtain ⟨rs, er, rr⟩ := hW10.r
  obtain ⟨pl, e1, r1⟩ := Rows.last rr (snoc_last gr S.reads cm)
  refine wss_one ?_
  refine ws_ret ?_
  refine we_sub ?_
  refine we_attr ?_
  refine we_var 0 rfl ?_
  refine ⟨_, _, _, _, rfl, hW10.o, C.cW, C.na 45, rfl, ?_⟩
  refine we_neg ?_
  refine we_int ?_
  refine ⟨_, rfl, ?_⟩
  refine i_lst er (atI_last e1) ?_
  have eput : putL (opsL c b) wy sd ahead S x = ⟨S.tolds ++ [td], snoc gr S.reads cm, snoc gr S.tbs td⟩ := by
    unfold putL
    rw [hcm, htd]
    rfl
  refine ⟨_, Sub.refl _, k pl M10 _ frM10 ?_ r1 ?_⟩
  · rw [eput]
    show WayAt K M10 A (c.way sd) _ _ _ _ _
    rw [ewy]
    exact hW10
  · rw [eput]
    exact snoc_last gr S.reads cm
end
end K81

set_option Elab.async false
set_option linter.all false
set_option maxRecDepth 100000
set_option maxHeartbeats 4000000
namespace K81
open PySem PySem.Spec PyProof.Rows L2 DL
theorem Fr.made {M M' : Mem} {a : Addr} {m : MO} (h : M a = none) (f : Fr [a] (DL.put M a m) M') : Fr [] M M' :=
  ⟨fun p xs r => f.row p xs ⟨by rw [put_ne (nn r.1 h)]; exact r.1, r.2⟩, fun x u _ e => f.oth x u (by simp; exact nn e h) (by rw [put_ne (nn e h)]; exact e)⟩
theorem Fr.hide {own : List Addr} {M M1 M2 : Mem} (f : Fr [] M M1) (g : Fr own M1 M2) (h : ∀ x ∈ own, M x = none) : Fr [] M M2 :=
  ⟨fun p xs r => g.row p xs (f.row p xs r), fun x u _ e => g.oth x u (fun hx => by rw [h x hx] at e; cases e) (f.oth x u (by simp) e)⟩
theorem Fr.nil {own : List Addr} {M M1 : Mem} (f : Fr [] M M1) : Fr own M M1 := f.mono (by simp)
def WAd.all (A : WAd) : List Addr := [A.o, A.f, A.c, A.t, A.r, A.b]
theorem WAd.own_all {A : WAd} {x : Addr} (h : x ∈ A.own) : x ∈ A.all := List.mem_cons_of_mem _ h
structure CAd where
  (a bg dn hd : Addr) (w : Bool → WAd)
def CAd.mn (A : CAd) : List Addr := [A.a, A.bg, A.dn, A.hd]
def CAd.mut (A : CAd) : List Addr := [A.bg, A.dn, A.hd] ++ ((A.w false).own ++ (A.w true).own)
structure CAd.Sep (A : CAd) : Prop where
  m : A.mn.Nodup
  w : ∀ s, ∀ x ∈ (A.w s).all, x ∉ A.mn
  ww : ∀ s, ∀ x ∈ (A.w s).all, x ∉ (A.w (!s)).all
structure Cst (α : Type) where
  (w : Bool → Wst α) (begun done heard : List α)
def Cst.setW {α : Type} (S : Cst α) (s : Bool) (W : Wst α) : Cst α := { S with w := fun t => if t = s then W else S.w t }
def putLs {α : Type} (o : Ops α) (wy : Way) (side : Bool) (ahead : Int) (bg : α) : Nat → Wst α → Wst α
  | 0, S => S
  | k + 1, S => putL o wy side ahead (putLs o wy side ahead bg k S) bg
theorem putL_len {α : Type} {o : Ops α} {wy : Way} {side : Bool} {ahead : Int} {bg : α} {S : Wst α} : (putL o wy side ahead S bg).tolds.length = S.tolds.length + 1 := by unfold putL; simp
theorem putLs_len {α : Type} {o : Ops α} {wy : Way} {side : Bool} {ahead : Int} {bg : α} {S : Wst α} : ∀ k, (putLs o wy side ahead bg k S).tolds.length = S.tolds.length + k
  | 0 => rfl
  | k + 1 => by rw [putLs, putL_len, putLs_len k, Nat.add_assoc]
abbrev CC (K : PySem.W.Frag) : Addr := He.ga K "BudgetCaller"
def cFs (A : CAd) (d : Des) (c : Cal) (budget : Int) : List (Str × D) :=
  [("turns", .int d.round), ("part", dCal c), ("budget", .int budget), ("letters", .tup [.int c.p0, .int c.p1]), ("sides", .tup [.ref (A.w false).o, .ref (A.w true).o]), ("begun_at", .ref A.bg), ("done_at", .ref A.dn), ("heard_at", .ref A.hd)]
structure CAt (K : PySem.W.Frag) (M : Mem) (A : CAd) (d : Des) (c : Cal) (b : Bnd) (budget ahead : Int) (S : Cst (List Int)) : Prop where
  o : M A.a = some (.ins (CC K) (cFs A d c budget))
  w : ∀ s, WayL K M (A.w s) c b s (ahead * c.per s) (S.w s)
  bg : Rows M A.bg S.begun
  dn : Rows M A.dn S.done
  hd : Rows M A.hd S.heard
  sep : A.Sep
structure Cal.Ok (c : Cal) : Prop where
  w : ∀ s, (c.way s).Ok
  p : ∀ s, 0 < c.per s ∧ c.per s ≤ 1000
  o : 0 < c.opn
theorem CAt.fr {K : PySem.W.Frag} {M M' : Mem} {A : CAd} {d : Des} {c : Cal} {b : Bnd} {budget ahead : Int} {S : Cst (List Int)} (h : CAt K M A d c b budget ahead S) (f : Fr [] M M') : CAt K M' A d c b budget ahead S where
  o := f.oth _ _ (by simp) h.o
  w := fun s => (h.w s).fr f (by simp)
  bg := h.bg.fr f (by simp)
  dn := h.dn.fr f (by simp)
  hd := h.hd.fr f (by simp)
  sep := h.sep
/-- a way moves, the rest stands -/
theorem CAt.way {K : PySem.W.Frag} {M M' : Mem} {A : CAd} {d : Des} {c : Cal} {b : Bnd} {budget ahead : Int} {S : Cst (List Int)} {s : Bool} {W : Wst (List Int)} (h : CAt K M A d c b budget ahead S) (f : Fr (A.w s).own M M') (hw : WayL K M' (A.w s) c b s (ahead * c.per s) W) :
    CAt K M' A d c b budget ahead (S.setW s W) := by
  have n1 : ∀ x ∈ A.mn, x ∉ (A.w s).own := fun x hx hy => h.sep.w s x (WAd.own_all hy) hx
  refine { o := f.oth _ _ (n1 _ (by simp [CAd.mn])) h.o, w := fun t => ?_, bg := h.bg.fr f (n1 _ (by simp [CAd.mn])), dn := h.dn.fr f (n1 _ (by simp [CAd.mn])), hd := h.hd.fr f (n1 _ (by simp [CAd.mn])), sep := h.sep }
  show WayL K M' (A.w t) c b t (ahead * c.per t) (if t = s then W else S.w t)
  by_cases e : t = s
  · subst e
    rw [if_pos rfl]
    exact hw
  · rw [if_neg e]
    have es : s = !t := by cases t <;> cases s <;> simp_all
    exact (h.w t).fr f fun x hx hy => h.sep.ww t x hx (by rw [← es]; exact WAd.own_all hy)
section
variable {P : Program} {w : World} {K : PySem.W.Frag} {mg : Str → Option Value} {base : Heap}
theorem Ct.cC (C : Ct K mg base) : Cls K (CC K) := He.cls_ok (C.c.fact 51 rfl)
/-! ### put_letters -/
def sp_put_letters : DSp := fun ds M P R => ∃ (A : CAd) (d : Des) (c : Cal) (b : Bnd) (budget ahead : Int) (S : Cst (List Int)) (s : Bool) (p : Addr) (x : List Int), ds = [.ref A.a, dS s, .ref p] ∧ CAt K M A d c b budget ahead S ∧ c.Ok ∧ b.Ok ∧ (S.w s).tolds.length ≤ 50000 ∧ Row M p x ∧
  ∀ q M' y, Fr (A.w s).own M M' → CAt K M' A d c b budget ahead (S.setW s (putLs (opsL c b) (c.way s) s (ahead * c.per s) x (c.per s).toNat (S.w s))) → Row M' q y → (putLs (opsL c b) (c.way s) s (ahead * c.per s) x (c.per s).toNat (S.w s)).reads.getLast? = some y → P (.ref q) M'
theorem sc_put_letters : FnScope ["self", "side", "begun", "read", "_"] ["self", "side", "begun"] (defScope (inClass (Hd.topS 10) 1)) := ⟨rfl, rfl, rfl, by decide +kernel, rfl, by decide +kernel, by decide +kernel⟩
theorem rg1_at {n : Int} {i : Nat} {d : D} (h : (rg1 n)[i]? = some d) : (i : Int) < n ∧ d = .int (i : Nat) := by
  unfold rg1 at h
  rw [List.getElem?_map] at h
  cases e : (List.range n.toNat)[i]? with
  | none => rw [e] at h; cases h
  | some j =>
    rw [e] at h
    obtain ⟨h1, h2⟩ := List.getElem?_eq_some_iff.mp e
    rw [List.length_range] at h1
    rw [List.getElem_range] at h2
    subst h2
    refine ⟨by omega, ?_⟩
    have h3 := Option.some.inj h
    rw [← h3]
    exact congrArg D.int (by omega)
theorem rg1_len {n : Int} : (rg1 n).length = n.toNat := by unfold rg1; rw [List.length_map, List.length_range]
theorem Cst.setW_get {α : Type} {S : Cst α} {s : Bool} {W : Wst α} : (S.setW s W).w s = W := by unfold Cst.setW; simp
theorem Cst.setW_set {α : Type} {S : Cst α} {s : Bool} {W W' : Wst α} : (S.setW s W).setW s W' = S.setW s W' := by
  unfold Cst.setW
  congr 1
  funext t
  by_cases e : t = s <;> simp [e]
theorem Cst.setW_same {α : Type} {S : Cst α} {s : Bool} : S.setW s (S.w s) = S := by
  cases S
  unfold Cst.setW
  congr 1
  funext t
  by_cases e : t = s <;> simp [e]
theorem ok_put_letters (C : Ct K mg base) : MethOk P w K mg base CX0 4 (CC K) "put_letters" ["self", "side", "begun"] (sp_put_letters (K := K)) := by
  refine C.me 40 53 (d := Hd.d_BudgetCaller_put_letters) rfl rfl rfl (fun _ _ _ _ _ _ us hl => match us, hl with | [_, _, _], _ => rfl) fun f fd F => fn_ok F sc_put_letters (by rintro _ _ _ _ ⟨_, _, _, _, _, _, _, _, _, _, rfl, _⟩; rfl) ?_
  intro cdv Ar outer s H E ds M Q R hr ⟨A, d, c, b, budget, ahead, S, sd, p, x, eds, hC, hc, hb, hn, hx, k⟩
  subst eds
  have sc := sc_put_letters
  have hp := hc.p sd
  refine wss_cons ?_
  refine ws_set 3 sc.nd ?_
  refine we_var 2 rfl ?_
  refine wss_cons ?_
  refine ws_for PassesOwn.never rfl ?_
  refine wi_range1 (C.fr 71) ?_
  refine we_sub ?_
  refine we_attr ?_
  refine we_var 0 rfl ?_
  refine ⟨_, _, _, _, rfl, hC.o, C.cC, C.na 59, rfl, ?_⟩
  refine we_var 1 rfl ?_
  refine i_tup (d := .int (c.per sd)) (by cases sd <;> rfl) ?_
  refine ⟨_, rfl, by omega, by omega, ?_⟩
  refine ⟨fun i (Γ' : Sl) (M' : Mem) => (∃ q x4, Γ' = [some (D.ref A.a), some (dS sd), some (D.ref p), some (D.ref q), x4] ∧ (0 < i → ∃ y, Row M' q y ∧ (putLs (opsL c b) (c.way sd) sd (ahead * c.per sd) x i (S.w sd)).reads.getLast? = some y)) ∧ Fr (A.w sd).own M M' ∧
    CAt K M' A d c b budget ahead (S.setW sd (putLs (opsL c b) (c.way sd) sd (ahead * c.per sd) x i (S.w sd))), ⟨⟨p, none, rfl, fun z => absurd z (Nat.lt_irrefl _)⟩, Fr.refl M, by show CAt K M A d c b budget ahead (S.setW sd (S.w sd)); rw [Cst.setW_same]; exact hC⟩, fun _ _ _ _ _ => trivial, ?_, ?_⟩
  · rintro i dd _ M' hd ⟨⟨q, x4, rfl, hq⟩, fr, hC'⟩
    obtain ⟨hi, rfl⟩ := rg1_at hd
    refine wg_name 4 sc.nd ?_
    refine wss_one ?_
    refine ws_set 3 sc.nd ?_
    refine we_meth (ok_put_letter C) C.cW hr ?_
    refine we_sub ?_
    refine we_attr ?_
    refine we_var 0 rfl ?_
    refine ⟨_, _, _, _, rfl, hC'.o, C.cC, C.na 61, rfl, ?_⟩
    refine we_var 1 rfl ?_
    refine i_tup (d := .ref (A.w sd).o) (by cases sd <;> rfl) ?_
    have hw := hC'.w sd
    rw [Cst.setW_get] at hw
    refine ⟨(A.w sd).o, _, rfl, hw.o, rfl, ?_⟩
    refine wa_cons ?_
    refine we_var 2 rfl ?_
    refine wa_nil ?_
    refine ⟨A.w sd, c, b, sd, _, _, p, x, rfl, hw, hc.w sd, hb, by rw [putLs_len]; omega, fr.row _ _ hx, fun q' M2 y f2 w2 r2 l2 => ?_⟩
    refine ⟨⟨q', _, rfl, fun _ => ⟨y, r2, l2⟩⟩, fr.trans f2, ?_⟩
    have z := hC'.way f2 w2
    rw [Cst.setW_set] at z
    exact z
  · rintro _ M' ⟨⟨q, x4, rfl, hq⟩, fr, hC'⟩
    rw [rg1_len] at hq hC'
    obtain ⟨y, r, l⟩ := hq (by omega)
    refine wss_one (ws_ret ?_)
    refine we_var 3 rfl ?_
    exact ⟨_, Sub.refl _, k q M' y fr hC' r l⟩
/-! ### __init__ -/
def sp_Cinit : DSp := fun ds M P R => ∃ (a : Addr) (d : Des) (c : Cal) (bs : List Bnd) (b : Bnd) (k : Nat) (budget ahead : Int), ds = [.ref a, dDes d, dBnds bs, .int k, .int budget, .int ahead] ∧ d.cals[k]? = some c ∧ bs[k]? = some b ∧ c.Ok ∧ M a = some (.ins (CC K) []) ∧
  ∀ (A : CAd) M', A.a = a → (∀ x ∈ A.mut, M x = none) → Fr [a] M M' → CAt K M' A d c b budget ahead ⟨fun _ => ⟨[], [], []⟩, [], [], []⟩ → P .non M'
theorem sc_Cinit : FnScope ["self", "design", "bounds", "caller", "budget", "ahead", "forth"] ["self", "design", "bounds", "caller", "budget", "ahead"] (defScope (inClass (Hd.topS 10) 0)) := ⟨rfl, rfl, rfl, by decide +kernel, rfl, by decide +kernel, by decide +kernel⟩
theorem mk_BudgetCaller (C : Ct K mg base) : MkOk P w K mg base CX0 4 "BudgetCaller" (CC K) ["self", "design", "bounds", "caller", "budget", "ahead"] (sp_Cinit (K := K)) := by
  refine C.mkr 39 52 50 (d := Hd.d_BudgetCaller_init) rfl rfl rfl (fun _ _ _ _ _ _ us hl => match us, hl with | [_, _, _, _, _, _], _ => rfl) fun f fd F => fn_ok F sc_Cinit (by rintro _ _ _ _ ⟨_, _, _, _, _, _, _, _, rfl, _⟩; rfl) ?_
  intro cdv Ar outer s H E ds M Q R hr ⟨a, d, c, bs, b, k, budget, ahead, eds, h1, h2, hc, h3, kk⟩
  subst eds
  have sc := sc_Cinit
  have hp0 := hc.p false
  have hp1 := hc.p true
  refine wss_cons ?_
  refine ws_fld ?_
  refine we_sub ?_
  refine we_var 1 rfl ?_
  refine we_int ?_
  refine i_tup rfl ?_
  refine we_var 0 rfl ?_
  refine ⟨_, _, _, rfl, h3, C.cC, C.na 62, Nat.le_of_ble_eq_true rfl, ?_⟩
  refine wss_cons ?_
  refine ws_fld ?_
  refine we_sub ?_
  refine we_sub ?_
  refine we_var 1 rfl ?_
  refine we_int ?_
  refine i_tup rfl ?_
  refine we_var 3 rfl ?_
  refine i_tup (atI_nat (map_at h1)) ?_
  refine we_var 0 rfl ?_
  refine ⟨_, _, _, rfl, put_same, C.cC, C.na 60, Nat.le_of_ble_eq_true rfl, ?_⟩
  refine wss_cons ?_
  refine ws_fld ?_
  refine we_var 4 rfl ?_
  refine we_var 0 rfl ?_
  refine ⟨_, _, _, rfl, put_same, C.cC, C.na 56, Nat.le_of_ble_eq_true rfl, ?_⟩
  refine wss_cons ?_
  refine ws_fld ?_
  refine we_tup ?_
  refine wa_cons ?_
  refine we_call (ok_many_of C) hr ?_
  refine wa_cons ?_
  refine we_var 1 rfl ?_
  refine wa_cons ?_
  refine we_var 3 rfl ?_
  refine wa_cons ?_
  refine we_int ?_
  refine wa_nil ?_
  refine ⟨d, c, k, false, rfl, h1, ?_⟩
  refine wa_cons ?_
  refine we_call (ok_many_of C) hr ?_
  refine wa_cons ?_
  refine we_var 1 rfl ?_
  refine wa_cons ?_
  refine we_var 3 rfl ?_
  refine wa_cons ?_
  refine we_int ?_
  refine wa_nil ?_
  refine ⟨d, c, k, true, rfl, h1, ?_⟩
  refine wa_nil ?_
  refine ⟨size_ok (by simp), ?_⟩
  refine we_var 0 rfl ?_
  refine ⟨_, _, _, rfl, put_same, C.cC, C.na 59, Nat.le_of_ble_eq_true rfl, ?_⟩
  simp only [put_put]
  have frA : Fr [a] M (put M a (.ins (CC K) [("turns", .int d.round), ("part", dCal c), ("budget", .int budget), ("letters", .tup [.int c.p0, .int c.p1])])) := Fr.put2 (by simp) h3 (fun _ _ z => by cases z)
  show WSs _ _ _ (put M a (.ins (CC K) [("turns", .int d.round), ("part", dCal c), ("budget", .int budget), ("letters", .tup [.int c.p0, .int c.p1])])) _
  have oA : (put M a (.ins (CC K) [("turns", .int d.round), ("part", dCal c), ("budget", .int budget), ("letters", .tup [.int c.p0, .int c.p1])])) a = some (.ins (CC K) [("turns", .int d.round), ("part", dCal c), ("budget", .int budget), ("letters", .tup [.int c.p0, .int c.p1])]) := put_same
  have fA : ∀ x, (put M a (.ins (CC K) [("turns", .int d.round), ("part", dCal c), ("budget", .int budget), ("letters", .tup [.int c.p0, .int c.p1])])) x = none → M x = none := fun x hx => (put_none hx).2
  generalize put M a (.ins (CC K) [("turns", .int d.round), ("part", dCal c), ("budget", .int budget), ("letters", .tup [.int c.p0, .int c.p1])]) = MA at frA oA fA ⊢
  refine wss_cons ?_
  refine ws_set 6 sc.nd ?_
  refine we_make (mk_BudgetWay C) hr ?_
  refine wa_cons ?_
  refine we_var 1 rfl ?_
  refine wa_cons ?_
  refine we_var 2 rfl ?_
  refine wa_cons ?_
  refine we_var 3 rfl ?_
  refine wa_cons ?_
  refine we_int ?_
  refine wa_cons ?_
  refine we_bin od_mul ?_
  refine we_var 5 rfl ?_
  refine we_sub ?_
  refine we_attr ?_
  refine we_var 0 rfl ?_
  refine ⟨_, _, _, _, rfl, oA, C.cC, C.na 59, rfl, ?_⟩
  refine we_int ?_
  refine i_tup rfl ?_
  refine b_mul (.inr ⟨by have : c.per false = c.p0 := rfl; omega, by have : c.per false = c.p0 := rfl; omega⟩) ?_
  refine wa_nil ?_
  refine fun x0 hx0 => ⟨x0, d, c, bs, b, k, false, _, rfl, h1, h2, put_same, fun W0 M1 e0 own0 f0 w0 => ⟨rfl, ?_⟩⟩
  have f1 := Fr.made hx0 f0
  have fresh0 : ∀ x ∈ W0.all, MA x = none := fun x hx => by
    rcases List.mem_cons.mp hx with rfl | hx
    · rw [e0]; exact hx0
    · exact (put_none (own0 x hx)).2
  have o1 := f1.oth _ _ (by simp) oA
  refine wss_cons ?_
  refine ws_fld ?_
  refine we_tup ?_
  refine wa_cons ?_
  refine we_var 6 rfl ?_
  refine wa_cons ?_
  refine we_make (mk_BudgetWay C) hr ?_
  refine wa_cons ?_
  refine we_var 1 rfl ?_
  refine wa_cons ?_
  refine we_var 2 rfl ?_
  refine wa_cons ?_
  refine we_var 3 rfl ?_
  refine wa_cons ?_
  refine we_int ?_
  refine wa_cons ?_
  refine we_bin od_mul ?_
  refine we_var 5 rfl ?_
  refine we_sub ?_
  refine we_attr ?_
  refine we_var 0 rfl ?_
  refine ⟨_, _, _, _, rfl, o1, C.cC, C.na 59, rfl, ?_⟩
  refine we_int ?_
  refine i_tup rfl ?_
  refine b_mul (.inr ⟨by have : c.per true = c.p1 := rfl; omega, by have : c.per true = c.p1 := rfl; omega⟩) ?_
  refine wa_nil ?_
  refine fun x1 hx1 => ⟨x1, d, c, bs, b, k, true, _, rfl, h1, h2, put_same, fun W1 M2 e1 own1 f2 w1 => ⟨rfl, ?_⟩⟩
  have f3 := Fr.made hx1 f2
  have fresh1 : ∀ x ∈ W1.all, M1 x = none := fun x hx => by
    rcases List.mem_cons.mp hx with rfl | hx
    · rw [e1]; exact hx1
    · exact (put_none (own1 x hx)).2
  have o2 := f3.oth _ _ (by simp) o1
  have w0' : WayL K M2 W0 c b false (ahead * c.per false) ⟨[], [], []⟩ := WayAt.fr w0 f3 (by simp)
  refine wa_nil ?_
  refine ⟨size_ok (by simp), ?_⟩
  refine we_var 0 rfl ?_
  refine ⟨_, _, _, rfl, o2, C.cC, C.na 61, Nat.le_of_ble_eq_true rfl, ?_⟩
  have def0 : ∀ x ∈ W0.all, M1 x ≠ none := fun x hx e => by
    have w := w0
    simp only [WAd.all, List.mem_cons, List.not_mem_nil, or_false] at hx
    rcases hx with rfl | rfl | rfl | rfl | rfl | rfl
    · rw [w.o] at e; cases e
    · obtain ⟨_, q, _⟩ := w.f; rw [q] at e; cases e
    · obtain ⟨_, q, _⟩ := w.c; rw [q] at e; cases e
    · obtain ⟨_, q, _⟩ := w.t; rw [q] at e; cases e
    · obtain ⟨_, q, _⟩ := w.r; rw [q] at e; cases e
    · obtain ⟨_, q, _⟩ := w.b; rw [q] at e; cases e
  have def1 : ∀ x ∈ W1.all, M2 x ≠ none := fun x hx e => by
    have w := w1
    simp only [WAd.all, List.mem_cons, List.not_mem_nil, or_false] at hx
    rcases hx with rfl | rfl | rfl | rfl | rfl | rfl
    · rw [w.o] at e; cases e
    · obtain ⟨_, q, _⟩ := w.f; rw [q] at e; cases e
    · obtain ⟨_, q, _⟩ := w.c; rw [q] at e; cases e
    · obtain ⟨_, q, _⟩ := w.t; rw [q] at e; cases e
    · obtain ⟨_, q, _⟩ := w.r; rw [q] at e; cases e
    · obtain ⟨_, q, _⟩ := w.b; rw [q] at e; cases e
  have keep : ∀ {M M' : Mem} {x : Addr}, Fr [] M M' → M x ≠ none → M' x ≠ none := fun {M M' x} f h e => by
    cases q : M x with
    | none => exact h q
    | some u => rw [f.oth x u (by simp) q] at e; cases e
  have a0 : ∀ x ∈ W0.all, x ≠ a := fun x hx e => by
    subst e
    rw [fresh0 x hx] at oA
    cases oA
  have a1 : ∀ x ∈ W1.all, x ≠ a := fun x hx e => by
    subst e
    rw [fresh1 x hx] at o1
    cases o1
  have s01 : ∀ x ∈ W0.all, x ∉ W1.all := fun x hx hy => def0 x hx (fresh1 x hy)
  have def0' : ∀ x ∈ W0.all, M2 x ≠ none := fun x hx => keep f3 (def0 x hx)
  have f03 : Fr [] MA M2 := f1.trans f3
  refine wss_cons ?_
  refine ws_fld ?_
  refine we_lst ?_
  refine wa_nil ?_
  refine ⟨size_ok (by simp), fun pb hpb => ?_⟩
  obtain ⟨nba, hpb⟩ := put_none hpb
  refine we_var 0 rfl ?_
  refine ⟨_, _, _, rfl, (put_ne (Ne.symm nba)).trans put_same, C.cC, C.na 55, Nat.le_of_ble_eq_true rfl, ?_⟩
  refine wss_cons ?_
  refine ws_fld ?_
  refine we_lst ?_
  refine wa_nil ?_
  refine ⟨size_ok (by simp), fun pd hpd => ?_⟩
  obtain ⟨nda, hpd⟩ := put_none hpd
  obtain ⟨ndb, hpd⟩ := put_none hpd
  obtain ⟨_, hpd⟩ := put_none hpd
  refine we_var 0 rfl ?_
  refine ⟨_, _, _, rfl, (put_ne (Ne.symm nda)).trans put_same, C.cC, C.na 57, Nat.le_of_ble_eq_true rfl, ?_⟩
  refine wss_one ?_
  refine ws_fld ?_
  refine we_lst ?_
  refine wa_nil ?_
  refine ⟨size_ok (by simp), fun ph hph => ?_⟩
  obtain ⟨nha, hph⟩ := put_none hph
  obtain ⟨nhd, hph⟩ := put_none hph
  obtain ⟨_, hph⟩ := put_none hph
  obtain ⟨nhb, hph⟩ := put_none hph
  obtain ⟨_, hph⟩ := put_none hph
  refine we_var 0 rfl ?_
  refine ⟨_, _, _, rfl, (put_ne (Ne.symm nha)).trans put_same, C.cC, C.na 58, Nat.le_of_ble_eq_true rfl, ?_⟩
  refine ⟨_, Sub.refl _, ?_⟩
  have frF : Fr [a] M2 (put (put (put (put (put (put (put M2 a (.ins (CC K) (putS "sides" (.tup [.ref x0, .ref x1]) [("turns", .int d.round), ("part", dCal c), ("budget", .int budget), ("letters", .tup [.int c.p0, .int c.p1])]))) pb (.lst [])) a (.ins (CC K) (putS "begun_at" (.ref pb) (putS "sides" (.tup [.ref x0, .ref x1]) [("turns", .int d.round), ("part", dCal c), ("budget", .int budget), ("letters", .tup [.int c.p0, .int c.p1])])))) pd (.lst [])) a (.ins (CC K) (putS "done_at" (.ref pd) (putS "begun_at" (.ref pb) (putS "sides" (.tup [.ref x0, .ref x1]) [("turns", .int d.round), ("part", dCal c), ("budget", .int budget), ("letters", .tup [.int c.p0, .int c.p1])]))))) ph (.lst [])) a (.ins (CC K) (putS "heard_at" (.ref ph) (putS "done_at" (.ref pd) (putS "begun_at" (.ref pb) (putS "sides" (.tup [.ref x0, .ref x1]) [("turns", .int d.round), ("part", dCal c), ("budget", .int budget), ("letters", .tup [.int c.p0, .int c.p1])])))))) := by
    refine ⟨fun p xs r => ?_, fun x m n e => ?_⟩
    · have g : ∀ q, M2 q = none → p ≠ q := fun q hq => nn r.1 hq
      have ga : p ≠ a := fun z => by subst z; have := r.1; rw [o2] at this; cases this
      refine ⟨?_, r.2⟩
      rw [put_ne ga, put_ne (g _ hph), put_ne ga, put_ne (g _ hpd), put_ne ga, put_ne (g _ hpb), put_ne ga]
      exact r.1
    · have g : ∀ q, M2 q = none → x ≠ q := fun q hq => nn e hq
      have ga : x ≠ a := fun z => n (by simp [z])
      rw [put_ne ga, put_ne (g _ hph), put_ne ga, put_ne (g _ hpd), put_ne ga, put_ne (g _ hpb), put_ne ga]
      exact e
  have na0 : a ∉ W0.all := fun h => a0 a h rfl
  have na1 : a ∉ W1.all := fun h => a1 a h rfl
  have nx : ∀ x, M2 x = none → x ∉ W0.all ∧ x ∉ W1.all := fun x hx => ⟨fun h => def0' x h hx, fun h => def1 x h hx⟩
  refine kk ⟨a, pb, pd, ph, fun t => if t then W1 else W0⟩ _ rfl ?_ ?_ ?_
  · intro x hx
    simp only [CAd.mut, List.mem_append, List.mem_cons, List.not_mem_nil, or_false] at hx
    have up : ∀ {x : Addr}, M2 x = none → M x = none := fun {x} hx => by
      cases q : MA x with
      | none => exact fA x q
      | some u => rw [f03.oth x u (by simp) q] at hx; cases hx
    rcases hx with (rfl | rfl | rfl) | hx | hx
    · exact up hpb
    · exact up hpd
    · exact up hph
    · exact fA x (fresh0 x (WAd.own_all hx))
    · have h1 := fresh1 x (WAd.own_all hx)
      cases q : MA x with
      | none => exact fA x q
      | some u => rw [f1.oth x u (by simp) q] at h1; cases h1
  · exact (frA.trans (f03.nil)).trans frF
  · refine { o := ?_, w := fun t => ?_, bg := ⟨[], ?_, Rw.nil⟩, dn := ⟨[], ?_, Rw.nil⟩, hd := ⟨[], ?_, Rw.nil⟩, sep := ⟨?_, fun t x hx => ?_, fun t x hx => ?_⟩ }
    · rw [put_same]
      show _ = some (MO.ins (CC K) (cFs ⟨a, pb, pd, ph, fun t => if t then W1 else W0⟩ d c budget))
      unfold cFs
      simp only [Bool.false_eq_true, if_false, if_true]
      rw [e0, e1]
      rfl
    · cases t with
      | false => exact WayAt.fr w0' frF (fun x hx h => na0 (List.mem_singleton.mp h ▸ hx))
      | true => exact WayAt.fr w1 frF (fun x hx h => na1 (List.mem_singleton.mp h ▸ hx))
    · rw [put_ne nba, put_ne (Ne.symm nhb), put_ne nba, put_ne (Ne.symm ndb), put_ne nba, put_same]
      rfl
    · rw [put_ne nda, put_ne (Ne.symm nhd), put_ne nda, put_same]
      rfl
    · rw [put_ne nha, put_same]
      rfl
    · simp only [CAd.mn, List.nodup_cons, List.mem_cons, List.not_mem_nil, or_false, not_or, not_false_iff, and_true, List.nodup_nil]
      exact ⟨⟨Ne.symm nba, Ne.symm nda, Ne.symm nha⟩, ⟨Ne.symm ndb, Ne.symm nhb⟩, Ne.symm nhd⟩
    · simp only [CAd.mn, List.mem_cons, List.not_mem_nil, or_false, not_or]
      cases t with
      | false => exact ⟨fun e => na0 (e ▸ hx), fun e => (nx _ hpb).1 (e ▸ hx), fun e => (nx _ hpd).1 (e ▸ hx), fun e => (nx _ hph).1 (e ▸ hx)⟩
      | true => exact ⟨fun e => na1 (e ▸ hx), fun e => (nx _ hpb).2 (e ▸ hx), fun e => (nx _ hpd).2 (e ▸ hx), fun e => (nx _ hph).2 (e ▸ hx)⟩
    · cases t with
      | false => exact s01 x hx
      | true => exact fun h => s01 x h hx
end
end K81

set_option Elab.async false
set_option linter.all false
set_option maxRecDepth 100000
set_option maxHeartbeats 4000000
namespace K81
open PySem PySem.Spec PyProof.Rows L2 DL
def bgC {α : Type} (o : Ops α) (c : Cal) (S : Cst α) (made : α) : α := if c.opn ≤ (S.begun.length : Int) then o.mx made (S.heard.getD (S.begun.length - c.opn.toNat) made) else made
def wC0 {α : Type} (o : Ops α) (c : Cal) (ahead : Int) (S : Cst α) (made : α) : Wst α := putLs o (c.way false) false (ahead * c.per false) (bgC o c S made) (c.per false).toNat (S.w false)
def dnC {α : Type} (o : Ops α) (round : Int) (c : Cal) (S : Cst α) (rd : α) : α := o.sl c.turn round (S.done.getLast?.elim rd fun x => o.mx rd (o.up x))
def wC1 {α : Type} (o : Ops α) (c : Cal) (ahead : Int) (S : Cst α) (dn : α) : Wst α := putLs o (c.way true) true (ahead * c.per true) dn (c.per true).toNat (S.w true)
/-- the last read of a way -/
def lastR {α : Type} (W : Wst α) (x : α) : α := W.reads.getLast?.getD x
def dnOf {α : Type} (o : Ops α) (round : Int) (c : Cal) (ahead : Int) (S : Cst α) (made : α) : α := dnC o round c S (lastR (wC0 o c ahead S made) made)
def putC {α : Type} (o : Ops α) (round : Int) (c : Cal) (ahead : Int) (S : Cst α) (made : α) : Cst α :=
  ⟨fun s => if s then wC1 o c ahead S (dnOf o round c ahead S made) else wC0 o c ahead S made, S.begun ++ [bgC o c S made], S.done ++ [dnOf o round c ahead S made], S.heard ++ [lastR (wC1 o c ahead S (dnOf o round c ahead S made)) made]⟩
structure Des.Ok (d : Des) : Prop where
  r0 : 0 < d.round
  r1 : d.round < 1000
section
variable {P : Program} {w : World} {K : PySem.W.Frag} {mg : Str → Option Value} {base : Heap}
def rep (budget : Int) (x : Int) : List Int := List.replicate (budget + 1).toNat x
theorem Rows.put {M : Mem} {a q : Addr} {l : List D} {xss : List (List Int)} (h : Rows M q xss) (ha : a ≠ q) (f : Fr [a] M (DL.put M a (.lst l))) : Rows (DL.put M a (.lst l)) q xss := h.fr f (by simp; exact Ne.symm ha)
theorem CAd.Sep.nm {A : CAd} (h : A.Sep) : (A.a ≠ A.bg ∧ A.a ≠ A.dn ∧ A.a ≠ A.hd) ∧ (A.bg ≠ A.dn ∧ A.bg ≠ A.hd) ∧ A.dn ≠ A.hd := by
  have := h.m
  simpa [CAd.mn] using this
/-- the caller's own three lists are out of a way's reach -/
theorem WayL.put {K : PySem.W.Frag} {M M' : Mem} {A : CAd} {c : Cal} {b : Bnd} {s : Bool} {ahead : Int} {S : Wst (List Int)} {x : Addr} (sep : A.Sep) (hx : x ∈ A.mn) (h : WayL K M (A.w s) c b s ahead S) (f : Fr [x] M M') : WayL K M' (A.w s) c b s ahead S :=
  WayAt.fr h f fun y hy hz => sep.w s y hy (List.mem_singleton.mp hz ▸ hx)
def sp_put_call : DSp := fun ds M P R => ∃ (A : CAd) (d : Des) (c : Cal) (b : Bnd) (budget ahead made : Int) (S : Cst (List Int)), ds = [.ref A.a, .int made] ∧ CAt K M A d c b budget ahead S ∧ c.Ok ∧ b.Ok ∧ d.Ok ∧ 0 ≤ budget ∧ budget < 1000 ∧ S.begun.length ≤ 10000 ∧ S.heard.length = S.begun.length ∧ S.done.length = S.begun.length ∧ (∀ s, (S.w s).tolds.length ≤ 50000) ∧
  ∀ q M' y, Fr A.mut M M' → CAt K M' A d c b budget ahead (putC (opsL c b) d.round c ahead S (rep budget made)) → Row M' q y → (putC (opsL c b) d.round c ahead S (rep budget made)).heard.getLast? = some y → P (.ref q) M'
theorem sc_put_call : FnScope ["self", "made", "begun", "ahead", "read", "tick"] ["self", "made"] (defScope (inClass (Hd.topS 10) 2)) := ⟨rfl, rfl, rfl, by decide +kernel, rfl, by decide +kernel, by decide +kernel⟩
theorem Rw.last {M : Mem} {ps : List Addr} {xss : List (List Int)} (h : Rw M ps xss) (hn : xss ≠ []) : ∃ y, xss.getLast? = some y := ⟨_, List.getLast?_eq_some_getLast hn⟩
theorem ok_put_call (C : Ct K mg base) : MethOk P w K mg base CX0 5 (CC K) "put_call" ["self", "made"] (sp_put_call (K := K)) := by
  refine C.me 41 54 (d := Hd.d_BudgetCaller_put_call) rfl rfl rfl (fun _ _ _ _ _ _ us hl => match us, hl with | [_, _], _ => rfl) fun f fd F => fn_ok F sc_put_call (by rintro _ _ _ _ ⟨_, _, _, _, _, _, _, _, rfl, _⟩; rfl) ?_
  intro cdv Ar outer s H E ds M Q R hr ⟨A, d, c, b, budget, ahead, made, S, eds, hC, hc, hb, hd, hb0, hb1, hn, hlh, hld, hl, k⟩
  subst eds
  have sc := sc_put_call
  have ho := hc.o
  obtain ⟨⟨nab, nad, nah⟩, ⟨nbd, nbh⟩, ndh⟩ := hC.sep.nm
  refine wss_cons ?_
  refine ws_set 2 sc.nd ?_
  refine we_bin od_mul ?_
  refine we_lst ?_
  refine wa_cons ?_
  refine we_var 1 rfl ?_
  refine wa_nil ?_
  refine ⟨size_ok (by simp), fun p hp => ?_⟩
  refine we_bin od_add ?_
  refine we_attr ?_
  refine we_var 0 rfl ?_
  refine ⟨_, _, _, _, rfl, (put_ne (nn hC.o hp)).trans hC.o, C.cC, C.na 56, rfl, ?_⟩
  refine we_int ?_
  refine b_addI ?_
  refine ⟨_, put_same, by omega, by omega, by rw [sizeLine_eq]; simp; omega, fun p2 hp2 => ?_⟩
  have erep : (List.replicate (budget + 1).toNat [D.int made]).flatten = (rep budget made).map D.int := by
    unfold rep
    induction (budget + 1).toNat with
    | zero => rfl
    | succ n ih => rw [List.replicate_succ, List.flatten_cons, ih]; rfl
  rw [erep]
  have fr1 : Fr [] M (put (put M p (.lst [D.int made])) p2 (.lst ((rep budget made).map D.int))) := (Fr.new hp).trans (Fr.new hp2)
  have row1 : Row (put (put M p (.lst [D.int made])) p2 (.lst ((rep budget made).map D.int))) p2 (rep budget made) := ⟨put_same, by unfold rep; intro e; have := congrArg List.length e; rw [List.length_replicate, List.length_nil] at this; omega, by unfold rep; rw [List.length_replicate]; omega⟩
  show WSs _ _ _ (put (put M p (.lst [D.int made])) p2 (.lst ((rep budget made).map D.int))) _
  generalize put (put M p (.lst [D.int made])) p2 (.lst ((rep budget made).map D.int)) = M1 at fr1 row1 ⊢
  have hC1 := hC.fr fr1
  obtain ⟨bs1, eb1, rb1⟩ := hC1.bg
  refine wss_cons ?_
  refine ws_set 3 sc.nd ?_
  refine we_bin od_sub ?_
  refine we_callB cd_len (C.fr 67) ?_
  refine wa_cons ?_
  refine we_attr ?_
  refine we_var 0 rfl ?_
  refine ⟨_, _, _, _, rfl, hC1.o, C.cC, C.na 55, rfl, ?_⟩
  refine wa_nil ?_
  refine c_len ⟨_, eb1, rfl⟩ ?_
  rw [List.length_map, rb1.1]
  refine we_sub ?_
  refine we_attr ?_
  refine we_var 0 rfl ?_
  refine ⟨_, _, _, _, rfl, hC1.o, C.cC, C.na 60, rfl, ?_⟩
  refine we_int ?_
  refine i_tup rfl ?_
  refine b_sub ?_
  refine wss_cons ?_
  refine WS.nxt (fun (Γ' : Sl) (M' : Mem) => ∃ q, Γ' = [some (D.ref A.a), some (D.int made), some (D.ref q), some (D.int ((S.begun.length : Int) - c.opn)), none, none] ∧ Fr [] M M' ∧ Row M' q (bgC (opsL c b) c S (rep budget made))) ?_ ?_
  · refine ws_if ?_
    refine wt_cmp od_ge ?_
    refine we_var 3 rfl ?_
    refine we_int ?_
    refine b_cmp ?_
    refine t_bl ?_
    refine ⟨fun hk => ?_, fun hk => ?_⟩
    · have hk : c.opn ≤ (S.begun.length : Int) := by have := of_decide_eq_true hk; omega
      have hlt : S.begun.length - c.opn.toNat < S.heard.length := by omega
      have hat := getD_at (d := rep budget made) hlt
      obtain ⟨hs, eh, rh⟩ := hC1.hd
      obtain ⟨r, er, rr⟩ := rh.at_ hat
      refine wss_one ?_
      refine ws_set 2 sc.nd ?_
      refine we_call (ok_greater_of C) hr ?_
      refine wa_cons ?_
      refine we_var 2 rfl ?_
      refine wa_cons ?_
      refine we_sub ?_
      refine we_attr ?_
      refine we_var 0 rfl ?_
      refine ⟨_, _, _, _, rfl, hC1.o, C.cC, C.na 58, rfl, ?_⟩
      refine we_var 3 rfl ?_
      have eo : c.opn = (c.opn.toNat : Int) := by omega
      refine i_lst eh (by rw [eo]; exact atI_sub (by omega) (map_at er)) ?_
      refine wa_nil ?_
      refine ⟨p2, r, _, _, rfl, row1.1, rr.1, by have := row1.2.2; omega, fun q hq => ?_⟩
      refine ⟨q, rfl, fr1.trans (Fr.new hq), ?_⟩
      unfold bgC
      rw [if_pos hk]
      exact ⟨put_same, gr_ok row1.2.1 rr.2.1 row1.2.2⟩
    · refine wss_nil ?_
      have hk : ¬ c.opn ≤ (S.begun.length : Int) := by have := of_decide_eq_false hk; omega
      refine ⟨p2, rfl, fr1, ?_⟩
      unfold bgC
      rw [if_neg hk]
      exact row1
  clear hC1 eb1 rb1 fr1 row1 hp hp2
  rintro _ M2 ⟨q2, rfl, fr2, row2⟩
  have hC2 := hC.fr fr2
  obtain ⟨bs2, eb2, rb2⟩ := hC2.bg
  refine wss_cons ?_
  refine ws_expr ?_
  refine we_append ?_
  refine we_attr ?_
  refine we_var 0 rfl ?_
  refine ⟨_, _, _, _, rfl, hC2.o, C.cC, C.na 55, rfl, ?_⟩
  refine ⟨_, _, rfl, eb2, ?_⟩
  refine we_var 2 rfl ?_
  refine ⟨_, eb2, by rw [sizeLine_eq, List.length_map, rb2.1]; omega, ?_⟩
  have fr3 : Fr [A.bg] M2 (put M2 A.bg (.lst (bs2.map D.ref ++ [D.ref q2]))) := Fr.put2 (by simp) eb2 refs_ne
  have bg3 := Rows.push eb2 rb2 row2
  show WSs _ _ _ (put M2 A.bg (.lst (bs2.map D.ref ++ [D.ref q2]))) _
  generalize put M2 A.bg (.lst (bs2.map D.ref ++ [D.ref q2])) = M3 at fr3 bg3 ⊢
  have row3 := fr3.row _ _ row2
  have o3 := fr3.oth _ _ (by simp; exact nab) hC2.o
  have w3 : ∀ s, WayL K M3 (A.w s) c b s (ahead * c.per s) (S.w s) := fun s => WayL.put hC.sep (by simp [CAd.mn]) (hC2.w s) fr3
  have dn3 := hC2.dn.fr fr3 (by simp; exact Ne.symm nbd)
  have hd3 := hC2.hd.fr fr3 (by simp; exact Ne.symm nbh)
  have hC3 : CAt K M3 A d c b budget ahead { S with begun := S.begun ++ [bgC (opsL c b) c S (rep budget made)] } := ⟨o3, w3, bg3, dn3, hd3, hC.sep⟩
  have frM3 : Fr A.mut M M3 := fr2.nil.trans (fr3.mono (by simp [CAd.mut]))
  clear hC2 eb2 rb2 bg3 o3 w3 dn3 hd3 fr3 fr2 row2
  refine wss_cons ?_
  refine ws_set 4 sc.nd ?_
  refine we_meth (ok_put_letters C) C.cC hr ?_
  refine we_var 0 rfl ?_
  refine ⟨A.a, _, rfl, hC3.o, rfl, ?_⟩
  refine wa_cons ?_
  refine we_int ?_
  refine wa_cons ?_
  refine we_var 2 rfl ?_
  refine wa_nil ?_
  refine ⟨A, d, c, b, budget, ahead, _, false, q2, _, rfl, hC3, hc, hb, hl false, row3, fun q4 M4 y4 fr4 hC4 row4 ly4 => ?_⟩
  have mutw : ∀ s, ∀ x ∈ (A.w s).own, x ∈ A.mut := fun s x hx => by
    cases s
    · exact List.mem_append_right _ (List.mem_append_left _ hx)
    · exact List.mem_append_right _ (List.mem_append_right _ hx)
  have frM4 := frM3.trans (fr4.mono (mutw false))
  have ew0 : putLs (opsL c b) (c.way false) false (ahead * c.per false) (bgC (opsL c b) c S (rep budget made)) (c.per false).toNat (S.w false) = wC0 (opsL c b) c ahead S (rep budget made) := rfl
  change CAt K M4 A d c b budget ahead (Cst.setW { S with begun := S.begun ++ [bgC (opsL c b) c S (rep budget made)] } false (wC0 (opsL c b) c ahead S (rep budget made))) at hC4
  change (wC0 (opsL c b) c ahead S (rep budget made)).reads.getLast? = some y4 at ly4
  have el4 : lastR (wC0 (opsL c b) c ahead S (rep budget made)) (rep budget made) = y4 := by unfold lastR; rw [ly4]; rfl
  clear fr4 frM3 hC3 row3
  obtain ⟨ds4, ed4, rd4⟩ := hC4.dn
  refine wss_cons ?_
  refine WS.nxt (fun (Γ' : Sl) (M' : Mem) => ∃ q, Γ' = [some (D.ref A.a), some (D.int made), some (D.ref q2), some (D.int ((S.begun.length : Int) - c.opn)), some (D.ref q), none] ∧ Fr [] M4 M' ∧ Row M' q (S.done.getLast?.elim y4 fun x => gr y4 (x.map (· + 1)))) ?_ ?_
  · refine ws_if ?_
    refine wt_truth ?_
    refine we_attr ?_
    refine we_var 0 rfl ?_
    refine ⟨_, _, _, _, rfl, hC4.o, C.cC, C.na 57, rfl, ?_⟩
    refine ⟨_, .inl ⟨_, ed4, rfl⟩, ?_⟩
    refine ⟨fun hk => ?_, fun hk => ?_⟩
    · have hne : S.done ≠ [] := fun z => by
        have e : ds4.length = S.done.length := rd4.1
        rw [z] at e
        rw [List.length_eq_zero_iff.mp e] at hk
        cases hk
      obtain ⟨y, hy⟩ := rd4.last hne
      obtain ⟨pl, e1, r1⟩ := Rows.last rd4 hy
      refine wss_one ?_
      refine ws_set 4 sc.nd ?_
      refine we_call (ok_greater_of C) hr ?_
      refine wa_cons ?_
      refine we_var 4 rfl ?_
      refine wa_cons ?_
      refine we_lcG (own := [("tick", 5)]) rfl sc.nd (blkOk_by (own := [("tick", 5)]) (N := ["self", "made", "begun", "ahead", "read", "tick"]) (sc := defScope (inClass (Hd.topS 10) 2)) (by decide +kernel)) rfl gt_name (fun _ _ _ _ _ => pg_name (i := 5) sc.nd rfl (Or.inl rfl)) ?_
      refine wi_lst ?_
      refine we_sub ?_
      refine we_attr ?_
      refine we_var 0 rfl ?_
      refine ⟨_, _, _, _, rfl, hC4.o, C.cC, C.na 57, rfl, ?_⟩
      refine we_neg ?_
      refine we_int ?_
      refine ⟨_, rfl, ?_⟩
      refine i_lst ed4 (atI_last e1) ?_
      refine ⟨pl, _, rfl, r1.1, fun q hq => ?_⟩
      refine lcj_map (fun | .int i => .int (i + 1) | d => d) (by rw [List.length_map]; have := r1.2.2; omega) (fun l => by rw [put_ne (nn r1.1 hq)]; exact r1.1) (fun _ _ => trivial) ?_ ?_
      · intro k d hd l s H Ca cl fp
        obtain ⟨i, _, rfl⟩ := List.mem_map.mp (List.mem_of_getElem? hd)
        refine we_bin od_add ?_
        refine we_var 5 rfl ?_
        refine we_int ?_
        refine b_addI ?_
        exact ⟨rfl, rfl⟩
      have eup : (y.map D.int).map (fun | .int i => .int (i + 1) | d => d) = (y.map (· + 1)).map D.int := by rw [List.map_map, List.map_map]; rfl
      rw [eup]
      have f5 : Fr [] M4 (put M4 q (.lst ((y.map (· + 1)).map D.int))) := Fr.new hq
      have row45 := f5.row _ _ row4
      refine wa_nil ?_
      refine ⟨q4, q, y4, y.map (· + 1), rfl, row45.1, put_same, by have := row45.2.2; omega, fun q' hq' => ?_⟩
      refine ⟨q', rfl, f5.trans (Fr.new hq'), ?_⟩
      rw [show S.done.getLast? = some y from hy]
      exact ⟨put_same, gr_ok row45.2.1 (by simpa using r1.2.1) row45.2.2⟩
    · have he : S.done = [] := by
        cases ds4 with
        | nil => exact List.length_eq_zero_iff.mp rd4.1.symm
        | cons _ _ => cases hk
      refine wss_nil ?_
      refine ⟨q4, rfl, Fr.refl M4, ?_⟩
      rw [show S.done = [] from he]
      exact row4
  rintro _ M5 ⟨q5, rfl, fr5, row5⟩
  have hC5 := hC4.fr fr5
  obtain ⟨ds5, ed5, rd5⟩ := hC5.dn
  refine wss_cons ?_
  refine ws_expr ?_
  refine we_append ?_
  refine we_attr ?_
  refine we_var 0 rfl ?_
  refine ⟨_, _, _, _, rfl, hC5.o, C.cC, C.na 57, rfl, ?_⟩
  refine ⟨_, _, rfl, ed5, ?_⟩
  refine we_call (ok_slots_from C) hr ?_
  refine wa_cons ?_
  refine we_var 4 rfl ?_
  refine wa_cons ?_
  refine we_sub ?_
  refine we_attr ?_
  refine we_var 0 rfl ?_
  refine ⟨_, _, _, _, rfl, hC5.o, C.cC, C.na 60, rfl, ?_⟩
  refine we_int ?_
  refine i_tup rfl ?_
  refine wa_cons ?_
  refine we_attr ?_
  refine we_var 0 rfl ?_
  refine ⟨_, _, _, _, rfl, hC5.o, C.cC, C.na 62, rfl, ?_⟩
  refine wa_nil ?_
  refine ⟨q5, _, _, _, rfl, row5.1, by have := row5.2.2; omega, hd.r0, fun q6 hq6 => ?_⟩
  have edn : sf (S.done.getLast?.elim y4 fun x => gr y4 (x.map (· + 1))) c.turn d.round = dnOf (opsL c b) d.round c ahead S (rep budget made) := by
    unfold dnOf dnC
    rw [el4]
    rfl
  have row6 : Row (put M5 q6 (.lst ((sf (S.done.getLast?.elim y4 fun x => gr y4 (x.map (· + 1))) c.turn d.round).map D.int))) q6 (sf (S.done.getLast?.elim y4 fun x => gr y4 (x.map (· + 1))) c.turn d.round) := ⟨put_same, sf_ok row5.2.1 row5.2.2⟩
  have fr6 : Fr [] M5 (put M5 q6 (.lst ((sf (S.done.getLast?.elim y4 fun x => gr y4 (x.map (· + 1))) c.turn d.round).map D.int))) := Fr.new hq6
  rw [edn] at row6 fr6 ⊢
  have ed6 := fr6.oth _ _ (by simp) ed5
  refine ⟨_, ed6, by rw [sizeLine_eq, List.length_map, rd5.1]; show S.done.length < _; omega, ?_⟩
  generalize put M5 q6 (.lst ((dnOf (opsL c b) d.round c ahead S (rep budget made)).map D.int)) = M6 at row6 fr6 ed6 ⊢
  have hC6 := hC5.fr fr6
  have fr7 : Fr [A.dn] M6 (put M6 A.dn (.lst (ds5.map D.ref ++ [D.ref q6]))) := Fr.put2 (by simp) ed6 refs_ne
  have dn7 := Rows.push ed6 (rd5.fr fr6) row6
  show WSs _ _ _ (put M6 A.dn (.lst (ds5.map D.ref ++ [D.ref q6]))) _
  generalize put M6 A.dn (.lst (ds5.map D.ref ++ [D.ref q6])) = M7 at fr7 dn7 ⊢
  have o7 := fr7.oth _ _ (by simp; exact nad) hC6.o
  have w7 : ∀ s, WayL K M7 (A.w s) c b s (ahead * c.per s) _ := fun s => WayL.put hC.sep (by simp [CAd.mn]) (hC6.w s) fr7
  have bg7 := hC6.bg.fr fr7 (by simp; exact nbd)
  have hd7 := hC6.hd.fr fr7 (by simp; exact Ne.symm ndh)
  have hC7 : CAt K M7 A d c b budget ahead ⟨(Cst.setW { S with begun := S.begun ++ [bgC (opsL c b) c S (rep budget made)] } false (wC0 (opsL c b) c ahead S (rep budget made))).w, S.begun ++ [bgC (opsL c b) c S (rep budget made)], S.done ++ [dnOf (opsL c b) d.round c ahead S (rep budget made)], S.heard⟩ := ⟨o7, w7, bg7, dn7, hd7, hC.sep⟩
  have row7 := fr7.row _ _ row6
  have frM7 : Fr A.mut M M7 := (frM4.trans (fr5.nil.trans fr6.nil)).trans (fr7.mono (by simp [CAd.mut]))
  clear o7 w7 bg7 hd7 fr7 dn7 fr6 row6 ed6 hC6 hC5 ed5 rd5 row5 fr5 hC4 ed4 rd4 row4 frM4
  obtain ⟨hs7, eh7, rh7⟩ := hC7.hd
  obtain ⟨ds7, ed7, rd7⟩ := hC7.dn
  obtain ⟨pd7, e7, r7⟩ := Rows.last rd7 (show (S.done ++ [dnOf (opsL c b) d.round c ahead S (rep budget made)]).getLast? = some (dnOf (opsL c b) d.round c ahead S (rep budget made)) by simp)
  refine wss_cons ?_
  refine ws_expr ?_
  refine we_append ?_
  refine we_attr ?_
  refine we_var 0 rfl ?_
  refine ⟨_, _, _, _, rfl, hC7.o, C.cC, C.na 58, rfl, ?_⟩
  refine ⟨_, _, rfl, eh7, ?_⟩
  refine we_meth (ok_put_letters C) C.cC hr ?_
  refine we_var 0 rfl ?_
  refine ⟨A.a, _, rfl, hC7.o, rfl, ?_⟩
  refine wa_cons ?_
  refine we_int ?_
  refine wa_cons ?_
  refine we_sub ?_
  refine we_attr ?_
  refine we_var 0 rfl ?_
  refine ⟨_, _, _, _, rfl, hC7.o, C.cC, C.na 57, rfl, ?_⟩
  refine we_neg ?_
  refine we_int ?_
  refine ⟨_, rfl, ?_⟩
  refine i_lst ed7 (atI_last e7) ?_
  refine wa_nil ?_
  refine ⟨A, d, c, b, budget, ahead, _, true, pd7, _, rfl, hC7, hc, hb, ?_, r7, fun q8 M8 y8 fr8 hC8 row8 ly8 => ?_⟩
  · exact hl true
  have eh8 := hC8.hd
  change CAt K M8 A d c b budget ahead (Cst.setW ⟨(Cst.setW { S with begun := S.begun ++ [bgC (opsL c b) c S (rep budget made)] } false (wC0 (opsL c b) c ahead S (rep budget made))).w, S.begun ++ [bgC (opsL c b) c S (rep budget made)], S.done ++ [dnOf (opsL c b) d.round c ahead S (rep budget made)], S.heard⟩ true (wC1 (opsL c b) c ahead S (dnOf (opsL c b) d.round c ahead S (rep budget made)))) at hC8
  change (wC1 (opsL c b) c ahead S (dnOf (opsL c b) d.round c ahead S (rep budget made))).reads.getLast? = some y8 at ly8
  obtain ⟨hs8, eh8, rh8⟩ := hC8.hd
  refine ⟨_, eh8, by rw [sizeLine_eq, List.length_map, rh8.1]; show S.heard.length < _; omega, ?_⟩
  have fr9 : Fr [A.hd] M8 (put M8 A.hd (.lst (hs8.map D.ref ++ [D.ref q8]))) := Fr.put2 (by simp) eh8 refs_ne
  have hd9 := Rows.push eh8 rh8 row8
  show WSs _ _ _ (put M8 A.hd (.lst (hs8.map D.ref ++ [D.ref q8]))) _
  generalize put M8 A.hd (.lst (hs8.map D.ref ++ [D.ref q8])) = M9 at fr9 hd9 ⊢
  have el8 : lastR (wC1 (opsL c b) c ahead S (dnOf (opsL c b) d.round c ahead S (rep budget made))) (rep budget made) = y8 := by unfold lastR; rw [ly8]; rfl
  have hC9 : CAt K M9 A d c b budget ahead (putC (opsL c b) d.round c ahead S (rep budget made)) := by
    refine ⟨fr9.oth _ _ (by simp; exact nah) hC8.o, fun s => ?_, hC8.bg.fr fr9 (by simp; exact nbh), hC8.dn.fr fr9 (by simp; exact ndh), ?_, hC.sep⟩
    · have := WayL.put hC.sep (x := A.hd) (by simp [CAd.mn]) (hC8.w s) fr9
      cases s <;> exact this
    · show Rows M9 A.hd (S.heard ++ [lastR (wC1 (opsL c b) c ahead S (dnOf (opsL c b) d.round c ahead S (rep budget made))) (rep budget made)])
      rw [el8]
      exact hd9
  have frM9 : Fr A.mut M M9 := (frM7.trans (fr8.mono (mutw true))).trans (fr9.mono (by simp [CAd.mut]))
  obtain ⟨hs9, eh9, rh9⟩ := hC9.hd
  obtain ⟨pl, e9, r9⟩ := Rows.last rh9 (show (S.heard ++ [lastR (wC1 (opsL c b) c ahead S (dnOf (opsL c b) d.round c ahead S (rep budget made))) (rep budget made)]).getLast? = some (lastR (wC1 (opsL c b) c ahead S (dnOf (opsL c b) d.round c ahead S (rep budget made))) (rep budget made)) by simp)
  refine wss_one (ws_ret ?_)
  refine we_sub ?_
  refine we_attr ?_
  refine we_var 0 rfl ?_
  refine ⟨_, _, _, _, rfl, hC9.o, C.cC, C.na 58, rfl, ?_⟩
  refine we_neg ?_
  refine we_int ?_
  refine ⟨_, rfl, ?_⟩
  refine i_lst eh9 (atI_last e9) ?_
  exact ⟨_, Sub.refl _, k pl M9 _ frM9 hC9 r9 (by simp [putC])⟩
end
end K81

set_option Elab.async false
set_option linter.all false
set_option maxRecDepth 100000
set_option maxHeartbeats 4000000
/-! Pm: what two runs over two algebras have in common. -/
namespace K81
open PySem PySem.Spec PyProof.Rows L2 DL
section
variable {α β : Type}
inductive PL (R : α → β → Prop) : List α → List β → Prop
  | nil : PL R [] []
  | cons {x : α} {y : β} {l : List α} {m : List β} : R x y → PL R l m → PL R (x :: l) (y :: m)
variable {R R' : α → β → Prop}
theorem PL.len : ∀ {l : List α} {m : List β}, PL R l m → l.length = m.length
  | _, _, .nil => rfl
  | _, _, .cons _ t => congrArg Nat.succ (PL.len t)
theorem PL.imp (h : ∀ x y, R x y → R' x y) : ∀ {l : List α} {m : List β}, PL R l m → PL R' l m
  | _, _, .nil => .nil
  | _, _, .cons r t => .cons (h _ _ r) (PL.imp h t)
theorem PL.snoc {x : α} {y : β} (r : R x y) : ∀ {l : List α} {m : List β}, PL R l m → PL R (l ++ [x]) (m ++ [y])
  | _, _, .nil => .cons r .nil
  | _, _, .cons q t => .cons q (PL.snoc r t)
theorem PL.getD {x : α} {y : β} (r : R x y) : ∀ {l : List α} {m : List β} (i : Nat), PL R l m → R (l.getD i x) (m.getD i y)
  | _, _, _, .nil => r
  | _, _, 0, .cons q _ => q
  | _, _, i + 1, .cons _ t => by
    simpa [List.getD] using PL.getD r i t
theorem PL.last : ∀ {l : List α} {m : List β}, PL R l m → (l = [] ∧ m = []) ∨ ∃ x y, l.getLast? = some x ∧ m.getLast? = some y ∧ R x y
  | _, _, .nil => .inl ⟨rfl, rfl⟩
  | _, _, .cons (x := x) (y := y) q t => .inr (by
    rcases PL.last t with ⟨e1, e2⟩ | ⟨u, v, e1, e2, r⟩
    · subst e1 e2
      exact ⟨x, y, rfl, rfl, q⟩
    · exact ⟨u, v, by rw [List.getLast?_cons, e1]; rfl, by rw [List.getLast?_cons, e2]; rfl, r⟩)
theorem PL.mem {l : List α} {m : List β} (h : PL R l m) : ∀ x ∈ l, ∃ y ∈ m, R x y := by
  induction h with
  | nil => exact fun x hx => nomatch hx
  | cons r t ih =>
    intro x hx
    rcases List.mem_cons.mp hx with rfl | hx
    · exact ⟨_, List.mem_cons_self, r⟩
    · obtain ⟨y, hy, q⟩ := ih x hx
      exact ⟨y, List.mem_cons_of_mem _ hy, q⟩
/-- two algebras: related things go to related things; n0, n1: how many letters have been dealt with -/
structure Par (o : Ops α) (o' : Ops β) (a : Bool → Int) (R : Nat → Nat → α → β → Prop) : Prop where
  up : ∀ {n0 n1 m0 m1 x y}, n0 ≤ m0 → n1 ≤ m1 → R n0 n1 x y → R m0 m1 x y
  mx : ∀ {n0 n1 x y x' y'}, R n0 n1 x y → R n0 n1 x' y' → R n0 n1 (o.mx x x') (o'.mx y y')
  sl : ∀ {n0 n1 x y} (s wh : Int), 0 < wh → R n0 n1 x y → R n0 n1 (o.sl s wh x) (o'.sl s wh y)
  inc : ∀ {n0 n1 x y}, R n0 n1 x y → R n0 n1 (o.up x) (o'.up y)
  c0 : ∀ {n0 n1 x y}, R n0 n1 x y → R (n0 + 1) n1 (o.come false (a false + (n0 : Nat)) x) (o'.come false (a false + (n0 : Nat)) y)
  t0 : ∀ {n0 n1 x y}, R n0 n1 x y → R (n0 + 1) n1 (o.told false (a false + (n0 : Nat)) x) (o'.told false (a false + (n0 : Nat)) y)
  c1 : ∀ {n0 n1 x y}, R n0 n1 x y → R n0 (n1 + 1) (o.come true (a true + (n1 : Nat)) x) (o'.come true (a true + (n1 : Nat)) y)
  t1 : ∀ {n0 n1 x y}, R n0 n1 x y → R n0 (n1 + 1) (o.told true (a true + (n1 : Nat)) x) (o'.told true (a true + (n1 : Nat)) y)
structure RW (R : α → β → Prop) (W : Wst α) (V : Wst β) : Prop where
  t : PL R W.tolds V.tolds
  r : PL R W.reads V.reads
  b : PL R W.tbs V.tbs
theorem RW.imp {W : Wst α} {V : Wst β} (h : RW R W V) (k : ∀ x y, R x y → R' x y) : RW R' W V := ⟨h.t.imp k, h.r.imp k, h.b.imp k⟩
variable {o : Ops α} {o' : Ops β} {a : Bool → Int} {Q : Nat → Nat → α → β → Prop}
/-- the counts with one letter more on a side -/
def nx0 (s : Bool) (n : Nat) : Nat := if s then n else n + 1
def nx1 (s : Bool) (n : Nat) : Nat := if s then n + 1 else n
theorem Par.snoc (p : Par o o' a Q) {n0 n1 : Nat} {l : List α} {m : List β} {x : α} {y : β} (h : PL (Q n0 n1) l m) (r : Q n0 n1 x y) : PL (Q n0 n1) (K81.snoc o.mx l x) (K81.snoc o'.mx m y) := by
  unfold K81.snoc
  refine PL.snoc ?_ h
  rcases h.last with ⟨e1, e2⟩ | ⟨u, v, e1, e2, q⟩
  · rw [e1, e2]; exact r
  · rw [e1, e2]; exact p.mx r q
theorem Par.putL (p : Par o o' a Q) {n0 n1 : Nat} {wy : Way} (hw : 0 < wy.wheel) {s : Bool} {W : Wst α} {V : Wst β} {x : α} {y : β} (h : RW (Q n0 n1) W V) (r : Q n0 n1 x y) (hn : W.tolds.length = if s then n1 else n0) :
    RW (Q (nx0 s n0) (nx1 s n1)) (K81.putL o wy s (a s) W x) (K81.putL o' wy s (a s) V y) := by
  have hl := h.t.len
  have r1 : Q n0 n1 (st1 o wy W x) (st1 o' wy V y) := by
    unfold st1
    rw [← hl]
    split
    · exact p.mx r (h.t.getD r _)
    · exact r
  have r2 : Q n0 n1 (st2 o wy W x) (st2 o' wy V y) := by
    unfold st2
    rw [← hl]
    split
    · exact p.mx r1 (h.b.getD r1 _)
    · exact r1
  have r3 : Q n0 n1 (fst_ o wy (a s) W x) (fst_ o' wy (a s) V y) := by
    unfold fst_
    rw [← hl]
    exact p.sl _ _ hw r2
  have up : ∀ x y, Q n0 n1 x y → Q (nx0 s n0) (nx1 s n1) x y := fun x y q => p.up (by unfold nx0; split <;> omega) (by unfold nx1; split <;> omega) q
  have rc : Q (nx0 s n0) (nx1 s n1) (o.come s (a s + W.tolds.length) (fst_ o wy (a s) W x)) (o'.come s (a s + V.tolds.length) (fst_ o' wy (a s) V y)) := by
    rw [← hl, hn]
    cases s with
    | false => exact p.c0 r3
    | true => exact p.c1 r3
  have rt : Q (nx0 s n0) (nx1 s n1) (o.told s (a s + W.tolds.length) (fst_ o wy (a s) W x)) (o'.told s (a s + V.tolds.length) (fst_ o' wy (a s) V y)) := by
    rw [← hl, hn]
    cases s with
    | false => exact p.t0 r3
    | true => exact p.t1 r3
  exact ⟨(h.t.imp up).snoc rt, p.snoc (h.r.imp up) rc, p.snoc (h.b.imp up) rt⟩
theorem Par.putLs (p : Par o o' a Q) {n0 n1 : Nat} {wy : Way} (hw : 0 < wy.wheel) {s : Bool} {W : Wst α} {V : Wst β} {x : α} {y : β} (h : RW (Q n0 n1) W V) (r : Q n0 n1 x y) (hn : W.tolds.length = if s then n1 else n0) : ∀ k : Nat,
    RW (Q (if s then n0 else n0 + k) (if s then n1 + k else n1)) (K81.putLs o wy s (a s) x k W) (K81.putLs o' wy s (a s) y k V)
  | 0 => by cases s <;> exact h
  | k + 1 => by
    have ih := Par.putLs p hw h r hn k
    have q := Par.putL p (s := s) hw ih (p.up (by split <;> omega) (by split <;> omega) r) (by rw [putLs_len, hn]; cases s <;> rfl)
    cases s <;> exact q
structure RC (Q : Nat → Nat → α → β → Prop) (S : Cst α) (T : Cst β) : Prop where
  w : ∀ s, RW (Q (S.w false).tolds.length (S.w true).tolds.length) (S.w s) (T.w s)
  b : PL (Q (S.w false).tolds.length (S.w true).tolds.length) S.begun T.begun
  d : PL (Q (S.w false).tolds.length (S.w true).tolds.length) S.done T.done
  h : PL (Q (S.w false).tolds.length (S.w true).tolds.length) S.heard T.heard
theorem RW.lastR {W : Wst α} {V : Wst β} {x : α} {y : β} (h : RW R W V) (r : R x y) : R (lastR W x) (lastR V y) := by
  unfold K81.lastR
  rcases h.r.last with ⟨e1, e2⟩ | ⟨u, v, e1, e2, q⟩
  · rw [e1, e2]; exact r
  · rw [e1, e2]; exact q
theorem Par.putC {round : Int} {c : Cal} {ahead : Int} (p : Par o o' (fun s => ahead * c.per s) Q) (hr : 0 < round) (hc : c.Ok) {S : Cst α} {T : Cst β} {x : α} {y : β} (h : RC Q S T) (r : Q (S.w false).tolds.length (S.w true).tolds.length x y) :
    RC Q (K81.putC o round c ahead S x) (K81.putC o' round c ahead T y) := by
  have r1 : Q (S.w false).tolds.length (S.w true).tolds.length (bgC o c S x) (bgC o' c T y) := by
    unfold bgC
    rw [← h.b.len]
    split
    · exact p.mx r (h.h.getD r _)
    · exact r
  have w0 := Par.putLs p (s := false) (hc.w false).w0 (h.w false) r1 rfl (c.per false).toNat
  have l0 : (wC0 o c ahead S x).tolds.length = (S.w false).tolds.length + (c.per false).toNat := putLs_len _
  change RW (Q ((S.w false).tolds.length + (c.per false).toNat) (S.w true).tolds.length) (wC0 o c ahead S x) (wC0 o' c ahead T y) at w0
  have up0 : ∀ x y, Q (S.w false).tolds.length (S.w true).tolds.length x y → Q ((S.w false).tolds.length + (c.per false).toNat) (S.w true).tolds.length x y := fun x y q => p.up (by omega) (by omega) q
  have r2 : Q ((S.w false).tolds.length + (c.per false).toNat) (S.w true).tolds.length (dnOf o round c ahead S x) (dnOf o' round c ahead T y) := by
    unfold dnOf dnC
    refine p.sl _ _ hr ?_
    have q := w0.lastR (up0 _ _ r)
    rcases h.d.last with ⟨e1, e2⟩ | ⟨u, v, e1, e2, q2⟩
    · rw [e1, e2]; exact q
    · rw [e1, e2]; exact p.mx q (p.inc (up0 _ _ q2))
  have w1 := Par.putLs p (s := true) (hc.w true).w0 ((h.w true).imp up0) r2 rfl (c.per true).toNat
  have l1 : (wC1 o c ahead S (dnOf o round c ahead S x)).tolds.length = (S.w true).tolds.length + (c.per true).toNat := putLs_len _
  change RW (Q ((S.w false).tolds.length + (c.per false).toNat) ((S.w true).tolds.length + (c.per true).toNat)) (wC1 o c ahead S (dnOf o round c ahead S x)) (wC1 o' c ahead T (dnOf o' round c ahead T y)) at w1
  have up1 : ∀ x y, Q ((S.w false).tolds.length + (c.per false).toNat) (S.w true).tolds.length x y → Q ((S.w false).tolds.length + (c.per false).toNat) ((S.w true).tolds.length + (c.per true).toNat) x y := fun x y q => p.up (by omega) (by omega) q
  have up2 := fun x y q => up1 x y (up0 x y q)
  have e0 : ((K81.putC o round c ahead S x).w false).tolds.length = (S.w false).tolds.length + (c.per false).toNat := l0
  have e1 : ((K81.putC o round c ahead S x).w true).tolds.length = (S.w true).tolds.length + (c.per true).toNat := l1
  refine ⟨fun s => ?_, ?_, ?_, ?_⟩
  · rw [e0, e1]
    cases s with
    | false => exact w0.imp up1
    | true => exact w1
  · rw [e0, e1]
    exact (h.b.imp up2).snoc (up2 _ _ r1)
  · rw [e0, e1]
    exact (h.d.imp up2).snoc (up1 _ _ r2)
  · rw [e0, e1]
    exact (h.h.imp up2).snoc (w1.lastR (up2 _ _ r))
end
end K81

set_option Elab.async false
set_option linter.all false
set_option maxRecDepth 100000
set_option maxHeartbeats 4000000
namespace DL
open PySem PySem.Spec PyProof.Rows L2
theorem WI.imp {X : Cx} {tg iter : Expr} {Γ : Sl} {M : Mem} {P P' : List D → (Mem → Prop) → Mem → Prop} (h : WI X tg iter Γ M P) (k : ∀ ds keep M', P ds keep M' → P' ds keep M') : WI X tg iter Γ M P' :=
  ⟨fun pins s σ H I hs hm => thn (h.run pins s σ H I hs hm) fun v s1 h1 => thn h1 fun u s2 h2 => PIE.imp h2 fun J H' ⟨ds, keep, M', t, m, p, w⟩ => ⟨ds, keep, M', t, m, k _ _ _ p, w⟩⟩
section
variable {X : Cx} {scope : Scope} {elt c : Expr} {P : PD}
/-- elements by index; they may lay new objects -/
theorem lcj_ix {ok : D → Prop} {Γ1 : D → Sl} {ds : List D} {keep : Mem → Prop} {p : Addr} {M1 : Mem} (f : Nat → D) (hp : M1 p = none) (hz : ds.length ≤ 1000000) (hk : ∀ M', Sub M1 M' → keep M') (hok : ∀ d ∈ ds, ok d)
    (h : ∀ (k : Nat) (d : D), ds[k]? = some d → ∀ l M', Sub M1 M' → M' p = some (.lst l) → Blks X scope fun Y => WE Y elt (Γ1 d) M' fun y M3 => y = f k ∧ Sub M' M3) (q : ∀ M', Sub M1 M' → M' p = some (.lst ((List.range ds.length).map f)) → P (.ref p) M') : LcJ X scope elt ok Γ1 ds keep p M1 P := by
  have up : ∀ {M' : Mem} {m : MO}, Sub M1 M' → Sub M1 (put M' p m) := fun {M' m} s a u e => by
    rw [put_ne (nn e hp)]
    exact s a u e
  refine ⟨hok, fun k M' => Sub M1 M' ∧ M' p = some (.lst ((List.range k).map f)), ⟨up (Sub.refl _), put_same⟩, fun k M' _ e => hk _ e.1, fun k d M' hd e => ?_, fun M' e => q M' e.1 e.2⟩
  intro s H C cl fp
  refine WE.imp (h k d hd _ M' e.1 e.2 s H C cl fp) fun y M3 ⟨ey, em⟩ => ⟨_, em _ _ e.2, ?_, up (e.1.trans em), ?_⟩
  · have e1 : sizeLine = 16777216 := sizeLine_eq
    have := (List.getElem?_eq_some_iff.mp hd).1
    rw [List.length_map, List.length_range]
    omega
  · rw [put_same, ey, List.range_succ, List.map_append]
    rfl
/-- a pure filter -/
theorem lcjT_filter {ok : D → Prop} {Γ1 : D → Sl} {ds : List D} {keep : Mem → Prop} {p : Addr} {M1 : Mem} (g : D → Bool) (f : D → D) (hz : ds.length ≤ 1000000) (hk : ∀ l, keep (put M1 p (.lst l))) (hok : ∀ d ∈ ds, ok d)
    (h : ∀ (k : Nat) (d : D), ds[k]? = some d → ∀ l, Blks X scope fun Y => WT Y c (Γ1 d) (put M1 p (.lst l)) fun b M2 => b = g d ∧ M2 = put M1 p (.lst l))
    (h2 : ∀ (k : Nat) (d : D), ds[k]? = some d → ∀ l, Blks X scope fun Y => WE Y elt (Γ1 d) (put M1 p (.lst l)) fun y M3 => y = f d ∧ M3 = put M1 p (.lst l)) (q : P (.ref p) (put M1 p (.lst ((ds.filter g).map f)))) : LcJT X scope c elt ok Γ1 ds keep p M1 P := by
  refine ⟨hok, fun k M' => M' = put M1 p (.lst (((ds.take k).filter g).map f)), rfl, fun k M' _ e => by rw [e]; exact hk _, fun k d M' hd e => ?_, fun M' e => by rw [e, List.take_length]; exact q⟩
  subst e
  have tk : ds.take (k + 1) = ds.take k ++ [d] := by rw [List.take_add_one, hd]; rfl
  intro s H C cl fp
  have z := h k d hd (((ds.take k).filter g).map f) s H C cl fp
  refine ⟨fun pins s σ H I hs hm => thn (z.run pins s σ H I hs hm) fun u s' ⟨H', I', M', t, m, eb, em⟩ => ⟨H', I', M', t, m, fun e => ?_, fun e => ?_⟩⟩
  · rw [em]
    intro s H C cl fp
    refine WE.imp (h2 k d hd _ s H C cl fp) fun y M3 ⟨ey, em⟩ => ⟨((ds.take k).filter g).map f, by rw [em, put_same], ?_, ?_⟩
    · have e1 : sizeLine = 16777216 := sizeLine_eq
      have h3 := List.length_filter_le g (ds.take k)
      have h4 := List.length_take_le' k ds
      rw [List.length_map]
      omega
    · show put M3 p _ = _
      rw [em, put_put, ey, tk, List.filter_append, List.map_append]
      rw [eb] at e
      simp [e]
  · show M' = put M1 p _
    rw [em, tk, List.filter_append]
    rw [eb] at e
    simp [e]
end
end DL
namespace K81
open PySem PySem.Spec PyProof.Rows L2 DL
section
variable {P : Program} {w : World} {K : PySem.W.Frag} {mg : Str → Option Value} {base : Heap}
/-! ### runs -/
def cst0 {α : Type} : Cst α := ⟨fun _ => ⟨[], [], []⟩, [], [], []⟩
def runC {α : Type} (o : Ops α) (round : Int) (c : Cal) (ahead : Int) (l : List α) : Cst α := l.foldl (putC o round c ahead) cst0
theorem runC_snoc {α : Type} {o : Ops α} {round : Int} {c : Cal} {ahead : Int} {l : List α} {x : α} : runC o round c ahead (l ++ [x]) = putC o round c ahead (runC o round c ahead l) x := by unfold runC; rw [List.foldl_append]; rfl
theorem foldC_len {α : Type} {o : Ops α} {round : Int} {c : Cal} {ahead : Int} : ∀ (l : List α) (S : Cst α), (l.foldl (putC o round c ahead) S).begun.length = S.begun.length + l.length ∧ (l.foldl (putC o round c ahead) S).done.length = S.done.length + l.length ∧ (l.foldl (putC o round c ahead) S).heard.length = S.heard.length + l.length ∧
    ∀ s, ((l.foldl (putC o round c ahead) S).w s).tolds.length = (S.w s).tolds.length + l.length * (c.per s).toNat
  | [], S => ⟨rfl, rfl, rfl, fun s => by simp⟩
  | x :: l, S => by
    obtain ⟨h1, h2, h3, h4⟩ := foldC_len l (putC o round c ahead S x)
    rw [List.foldl_cons]
    refine ⟨by rw [h1]; simp [putC]; omega, by rw [h2]; simp [putC]; omega, by rw [h3]; simp [putC]; omega, fun s => ?_⟩
    rw [h4 s, List.length_cons, Nat.add_mul, Nat.one_mul]
    have e : ((putC o round c ahead S x).w s).tolds.length = (S.w s).tolds.length + (c.per s).toNat := by cases s <;> simp [putC, wC0, wC1, putLs_len]
    omega
theorem runC_len {α : Type} {o : Ops α} {round : Int} {c : Cal} {ahead : Int} (l : List α) : (runC o round c ahead l).begun.length = l.length ∧ (runC o round c ahead l).done.length = l.length ∧ (runC o round c ahead l).heard.length = l.length ∧ ∀ s, ((runC o round c ahead l).w s).tolds.length = l.length * (c.per s).toNat := by
  obtain ⟨h1, h2, h3, h4⟩ := foldC_len (o := o) (round := round) (c := c) (ahead := ahead) l cst0
  exact ⟨h1.trans (Nat.zero_add _), h2.trans (Nat.zero_add _), h3.trans (Nat.zero_add _), fun s => (h4 s).trans (Nat.zero_add _)⟩
section
variable {α β : Type} {o : Ops α} {o' : Ops β} {Q : Nat → Nat → α → β → Prop}
theorem Par.fold {round : Int} {c : Cal} {ahead : Int} (p : Par o o' (fun s => ahead * c.per s) Q) (hr : 0 < round) (hc : c.Ok) {l : List α} {m : List β} (hl : PL (Q 0 0) l m) : ∀ {S : Cst α} {T : Cst β}, RC Q S T → RC Q (l.foldl (K81.putC o round c ahead) S) (m.foldl (K81.putC o' round c ahead) T) := by
  induction hl with
  | nil => exact fun h => h
  | cons r t ih => exact fun h => ih (p.putC hr hc h (p.up (Nat.zero_le _) (Nat.zero_le _) r))
theorem Par.run {round : Int} {c : Cal} {ahead : Int} (p : Par o o' (fun s => ahead * c.per s) Q) (hr : 0 < round) (hc : c.Ok) {l : List α} {m : List β} (h : PL (Q 0 0) l m) : RC Q (runC o round c ahead l) (runC o' round c ahead m) :=
  p.fold hr hc h ⟨fun _ => ⟨.nil, .nil, .nil⟩, .nil, .nil, .nil⟩
end
theorem par_len {c : Cal} {b : Bnd} {a : Bool → Int} (n : Nat) : Par (opsL c b) (opsL c b) a (fun _ _ x y => x = y ∧ x.length = n) where
  up := fun _ _ h => h
  mx := fun ⟨e1, l1⟩ ⟨e2, l2⟩ => ⟨by rw [e1, e2], by show (gr _ _).length = n; unfold gr; rw [List.length_zipWith]; omega⟩
  sl := fun s wh _ ⟨e1, l1⟩ => ⟨by rw [e1], by show (sf _ s wh).length = n; unfold sf; rw [List.length_map]; exact l1⟩
  inc := fun ⟨e1, l1⟩ => ⟨by rw [e1], by show (List.map _ _).length = n; rw [List.length_map]; exact l1⟩
  c0 := fun ⟨e1, l1⟩ => ⟨by rw [e1], by show (lf _ _ _ _).length = n; rw [lf_len]; exact l1⟩
  t0 := fun ⟨e1, l1⟩ => ⟨by rw [e1], by show (lf _ _ _ _).length = n; rw [lf_len]; exact l1⟩
  c1 := fun ⟨e1, l1⟩ => ⟨by rw [e1], by show (lf _ _ _ _).length = n; rw [lf_len]; exact l1⟩
  t1 := fun ⟨e1, l1⟩ => ⟨by rw [e1], by show (lf _ _ _ _).length = n; rw [lf_len]; exact l1⟩
theorem rep_len {budget x : Int} : (rep budget x).length = (budget + 1).toNat := by unfold rep; rw [List.length_replicate]
theorem PL.maps {α β γ : Type} {R : β → γ → Prop} {f : α → β} {g : α → γ} (h : ∀ x, R (f x) (g x)) : ∀ l : List α, PL R (l.map f) (l.map g)
  | [] => .nil
  | x :: l => .cons (h x) (PL.maps h l)
theorem run_rows {d : Des} {c : Cal} {b : Bnd} {ahead budget : Int} {ts : List Int} (hd : d.Ok) (hc : c.Ok) :
    (∀ x ∈ (runC (opsL c b) d.round c ahead (ts.map (rep budget))).begun, x.length = (budget + 1).toNat) ∧ (∀ x ∈ (runC (opsL c b) d.round c ahead (ts.map (rep budget))).done, x.length = (budget + 1).toNat) ∧ ∀ x ∈ (runC (opsL c b) d.round c ahead (ts.map (rep budget))).heard, x.length = (budget + 1).toNat := by
  have h := (par_len (c := c) (b := b) (a := fun s => ahead * c.per s) (budget + 1).toNat).run hd.r0 hc (PL.maps (f := rep budget) (g := rep budget) (fun x => ⟨rfl, rep_len⟩) ts)
  exact ⟨fun x hx => let ⟨_, _, r⟩ := h.b.mem x hx; r.2, fun x hx => let ⟨_, _, r⟩ := h.d.mem x hx; r.2, fun x hx => let ⟨_, _, r⟩ := h.h.mem x hx; r.2⟩
/-! ### caller_within -/
def sp_caller_within : DSp := fun ds M P R => ∃ (d : Des) (c : Cal) (bs : List Bnd) (b : Bnd) (k : Nat) (budget : Int) (ts : List Int), ds = [dDes d, dBnds bs, .tup (ts.map D.int), .int k, .int budget] ∧ d.cals[k]? = some c ∧ bs[k]? = some b ∧ c.Ok ∧ b.Ok ∧ d.Ok ∧ 0 ≤ budget ∧ budget < 1000 ∧ ts.length ≤ 40 ∧
  ∀ (A : CAd) M', Sub M M' → CAt K M' A d c b budget 0 (runC (opsL c b) d.round c 0 (ts.map (rep budget))) → P (.ref A.a) M'
theorem sc_caller_within : FnScope ["design", "bounds", "ticks", "caller", "budget", "state", "tick"] ["design", "bounds", "ticks", "caller", "budget"] (defScope (Hd.topS 11)) := ⟨rfl, rfl, rfl, by decide +kernel, rfl, by decide +kernel, by decide +kernel⟩
theorem Fr.toSub {M M1 : Mem} (f : Fr [] M M1) : Sub M M1 := fun a m e => f.oth a m (by simp) e
theorem runC_small {α : Type} {o : Ops α} {round : Int} {c : Cal} {ahead : Int} {l : List α} (hc : c.Ok) (h : l.length ≤ 40) (s : Bool) : ((runC o round c ahead l).w s).tolds.length ≤ 50000 := by
  rw [(runC_len l).2.2.2 s]
  have h1 := hc.p s
  have h2 : (c.per s).toNat ≤ 1000 := by omega
  have := Nat.mul_le_mul h h2
  omega
theorem ok_caller_within (C : Ct K mg base) : DefOk P w K mg base CX0 6 "caller_within" ["design", "bounds", "ticks", "caller", "budget"] (sp_caller_within (K := K)) := by
  refine C.df 7 7 (d := Hd.d_caller_within) rfl rfl rfl (fun _ _ _ _ _ _ us hl => match us, hl with | [_, _, _, _, _], _ => rfl) fun f fd F => fn_ok F sc_caller_within (by rintro _ _ _ _ ⟨_, _, _, _, _, _, _, rfl, _⟩; rfl) ?_
  intro cdv Ar outer s H E ds M Q R hr ⟨d, c, bs, b, k, budget, ts, eds, h1, h2, hc, hb, hd, hb0, hb1, hts, kk⟩
  subst eds
  have sc := sc_caller_within
  refine wss_cons ?_
  refine ws_set 5 sc.nd ?_
  refine we_make (mk_BudgetCaller C) hr ?_
  refine wa_cons ?_
  refine we_var 0 rfl ?_
  refine wa_cons ?_
  refine we_var 1 rfl ?_
  refine wa_cons ?_
  refine we_var 3 rfl ?_
  refine wa_cons ?_
  refine we_var 4 rfl ?_
  refine wa_cons ?_
  refine we_int ?_
  refine wa_nil ?_
  refine fun a ha => ⟨a, d, c, bs, b, k, budget, 0, rfl, h1, h2, hc, put_same, fun A M1 ea mu f0 h0 => ⟨rfl, ?_⟩⟩
  have f1 := Fr.made ha f0
  have mu0 : ∀ x ∈ A.mut, M x = none := fun x hx => (put_none (mu x hx)).2
  subst ea
  refine wss_cons ?_
  refine ws_for PassesOwn.never rfl ?_
  refine wi_tup ?_
  refine we_var 2 rfl ?_
  refine ⟨_, rfl, ?_⟩
  refine ⟨fun i (Γ' : Sl) (M' : Mem) => (∃ x6, Γ' = [some (dDes d), some (dBnds bs), some (D.tup (ts.map D.int)), some (D.int k), some (D.int budget), some (D.ref A.a), x6]) ∧ Sub M M' ∧ CAt K M' A d c b budget 0 (runC (opsL c b) d.round c 0 ((ts.take i).map (rep budget))), ⟨⟨none, rfl⟩, f1.toSub, h0⟩, fun _ _ _ _ _ => trivial, ?_, ?_⟩
  · rintro i dd _ M' hdd ⟨⟨x6, rfl⟩, su, hC⟩
    rw [List.getElem?_map] at hdd
    cases et : ts[i]? with
    | none => rw [et] at hdd; cases hdd
    | some t =>
      rw [et] at hdd
      cases hdd
      have hlen : ((ts.take i).map (rep budget)).length ≤ 40 := by rw [List.length_map]; have := List.length_take_le' i ts; omega
      refine wg_name 6 sc.nd ?_
      refine wss_one ?_
      refine ws_expr ?_
      refine we_meth (ok_put_call C) C.cC hr ?_
      refine we_var 5 rfl ?_
      refine ⟨A.a, _, rfl, hC.o, rfl, ?_⟩
      refine wa_cons ?_
      refine we_var 6 rfl ?_
      refine wa_nil ?_
      have hl := runC_len (o := opsL c b) (round := d.round) (c := c) (ahead := 0) ((ts.take i).map (rep budget))
      refine ⟨A, d, c, b, budget, 0, t, _, rfl, hC, hc, hb, hd, hb0, hb1, by omega, by omega, by omega, runC_small hc hlen, fun q M2 y fr hC2 r2 l2 => ?_⟩
      refine ⟨⟨_, rfl⟩, fun x u e => fr.oth x u (fun hx => by rw [mu0 x hx] at e; cases e) (su x u e), ?_⟩
      have et2 : ts.take (i + 1) = ts.take i ++ [t] := by rw [List.take_add_one, et]; rfl
      rw [et2, List.map_append]
      show CAt K M2 A d c b budget 0 (runC (opsL c b) d.round c 0 ((ts.take i).map (rep budget) ++ [rep budget t]))
      rw [runC_snoc]
      exact hC2
  · rintro _ M' ⟨⟨x6, rfl⟩, su, hC⟩
    rw [List.length_map, List.take_length] at hC
    refine wss_one (ws_ret ?_)
    refine we_var 5 rfl ?_
    exact ⟨_, Sub.refl _, kk A M' su hC⟩
/-! ### latest -/
def part3 {α : Type} (S : Cst α) : Nat → List α
  | 0 => S.begun
  | 1 => S.done
  | _ => S.heard
theorem col_ix {budget : Int} {xss : List (List Int)} : (List.range xss.length).map (fun j => D.int ((xss.getD j []).getD budget.toNat 0)) = xss.map fun xs => D.int (xs.getD budget.toNat 0) := by
  refine List.ext_getElem? fun i => ?_
  rw [List.getElem?_map, List.getElem?_map]
  by_cases hi : i < xss.length
  · rw [List.getElem?_range hi, List.getElem?_eq_getElem hi]
    simp [List.getD, List.getElem?_eq_getElem hi]
  · rw [List.getElem?_eq_none (by rw [List.length_range]; omega), List.getElem?_eq_none (by omega)]
    rfl
def dMade (mss : List (List Int)) : D := .tup (mss.map fun ts => .tup (ts.map D.int))
def col (budget : Int) (xss : List (List Int)) : D := .tup (xss.map fun xs => D.int (xs.getD budget.toNat 0))
def latD (d : Des) (bs : List Bnd) (budget : Int) (mss : List (List Int)) (k : Nat) : D :=
  match d.cals[k]?, bs[k]?, mss[k]? with
  | some c, some b, some ts => let S := runC (opsL c b) d.round c 0 (ts.map (rep budget)); .tup [col budget S.begun, col budget S.done, col budget S.heard]
  | _, _, _ => .non
def sp_latest : DSp := fun ds M P R => ∃ (d : Des) (bs : List Bnd) (mss : List (List Int)) (budget : Int), ds = [dDes d, dBnds bs, dMade mss, .int budget] ∧ mss.length = d.cals.length ∧ bs.length = d.cals.length ∧ d.cals.length ≤ 1000 ∧ (∀ c ∈ d.cals, c.Ok) ∧ (∀ b ∈ bs, b.Ok) ∧ d.Ok ∧ 0 ≤ budget ∧ budget < 1000 ∧ (∀ ts ∈ mss, ts.length ≤ 40) ∧
  ∀ M', Sub M M' → P (.tup ((List.range mss.length).map (latD d bs budget mss))) M'
theorem sc_latest : FnScope ["design", "bounds", "made", "budget", "found", "caller", "ticks", "state", "rows", "part", "row"] ["design", "bounds", "made", "budget"] (defScope (Hd.topS 12)) := ⟨rfl, rfl, rfl, by decide +kernel, rfl, by decide +kernel, by decide +kernel⟩
theorem fn_latest (C : Ct K mg base) {f : Addr} {fd : FuncData} (F : FunD K Hd.d_latest.name Hd.d_latest.qual Hd.d_latest.params Hd.d_latest.body Hd.d_latest.scope [] [] f fd) : FnOk P w K mg base CX0 7 f fd ["design", "bounds", "made", "budget"] (lift (sp_latest)) := by
  refine fn_ok F sc_latest (by rintro _ _ _ _ ⟨_, _, _, _, rfl, _⟩; rfl) ?_
  intro cdv Ar outer s H E ds M Q R hr ⟨d, bs, mss, budget, eds, l1, l2, l3, hc, hb, hd, hb0, hb1, hts, kk⟩
  subst eds
  have sc := sc_latest
  refine wss_cons ?_
  refine ws_set 4 sc.nd ?_
  refine we_lst ?_
  refine wa_nil ?_
  refine ⟨size_ok (by simp), fun pf hpf => ?_⟩
  refine wss_cons ?_
  refine ws_for PassesOwn.never rfl ?_
  refine wi_enumT (C.fr 64) ?_
  refine we_var 2 rfl ?_
  refine ⟨_, rfl, ?_⟩
  refine ⟨fun i (Γ' : Sl) (M' : Mem) => (∃ x5 x6 x7 x8, Γ' = [some (dDes d), some (dBnds bs), some (dMade mss), some (D.int budget), some (D.ref pf), x5, x6, x7, x8, none, none]) ∧ Sub M M' ∧ M' pf = some (.lst ((List.range i).map (latD d bs budget mss))), ⟨⟨none, none, none, none, rfl⟩, Sub.put hpf, put_same⟩, fun _ _ _ _ _ => trivial, ?_, ?_⟩
  · rintro i dd _ M' hdd ⟨⟨x5, x6, x7, x8, rfl⟩, su, hf⟩
    have hi : i < mss.length := by have := (List.getElem?_eq_some_iff.mp hdd).1; rw [enumD_len, List.length_map] at this; exact this
    obtain ⟨ts, ets⟩ : ∃ ts, mss[i]? = some ts := ⟨_, List.getElem?_eq_getElem hi⟩
    obtain ⟨c, ec⟩ : ∃ c, d.cals[i]? = some c := ⟨_, List.getElem?_eq_getElem (by omega)⟩
    obtain ⟨b, eb⟩ : ∃ b, bs[i]? = some b := ⟨_, List.getElem?_eq_getElem (by omega)⟩
    have hok := hc c (List.mem_of_getElem? ec)
    have hbk := hb b (List.mem_of_getElem? eb)
    rw [enumD_at (map_at ets)] at hdd
    cases hdd
    refine wg_tup rfl rfl ?_
    refine wgs_cons ?_
    refine wg_name 5 sc.nd ?_
    refine wgs_cons ?_
    refine wg_name 6 sc.nd ?_
    refine wgs_nil ?_
    refine wss_cons ?_
    refine ws_set 7 sc.nd ?_
    refine we_call (ok_caller_within C) hr ?_
    refine wa_cons ?_
    refine we_var 0 rfl ?_
    refine wa_cons ?_
    refine we_var 1 rfl ?_
    refine wa_cons ?_
    refine we_var 6 rfl ?_
    refine wa_cons ?_
    refine we_var 5 rfl ?_
    refine wa_cons ?_
    refine we_var 3 rfl ?_
    refine wa_nil ?_
    refine ⟨d, c, bs, b, i, budget, ts, rfl, ec, eb, hok, hbk, hd, hb0, hb1, hts ts (List.mem_of_getElem? ets), fun A M2 su2 hC => ?_⟩
    have hf2 := su2 _ _ hf
    refine wss_cons ?_
    refine ws_set 8 sc.nd ?_
    refine we_tup ?_
    refine wa_cons ?_
    refine we_attr ?_
    refine we_var 7 rfl ?_
    refine ⟨_, _, _, _, rfl, hC.o, C.cC, C.na 55, rfl, ?_⟩
    refine wa_cons ?_
    refine we_attr ?_
    refine we_var 7 rfl ?_
    refine ⟨_, _, _, _, rfl, hC.o, C.cC, C.na 57, rfl, ?_⟩
    refine wa_cons ?_
    refine we_attr ?_
    refine we_var 7 rfl ?_
    refine ⟨_, _, _, _, rfl, hC.o, C.cC, C.na 58, rfl, ?_⟩
    refine wa_nil ?_
    refine ⟨size_ok (by simp), ?_⟩
    refine wss_one ?_
    refine ws_expr ?_
    refine we_append ?_
    refine we_var 4 rfl ?_
    refine ⟨_, _, rfl, hf2, ?_⟩
    refine we_callT cd_tuple (C.fr 75) ?_
    refine wa_cons ?_
    obtain ⟨pb, eb2, rb2⟩ := hC.bg
    obtain ⟨pd, ed2, rd2⟩ := hC.dn
    obtain ⟨ph, eh2, rh2⟩ := hC.hd
    have hl := runC_len (o := opsL c b) (round := d.round) (c := c) (ahead := 0) (ts.map (rep budget))
    have hts40 := hts ts (List.mem_of_getElem? ets)
    rw [List.length_map] at hl
    have hrow0 := run_rows (b := b) (ahead := 0) (budget := budget) (ts := ts) hd hok
    generalize hS : runC (opsL c b) d.round c 0 (ts.map (rep budget)) = S at *
    have hrow : ∀ (k : Nat), ∀ xs ∈ part3 S k, xs.length = (budget + 1).toNat := fun k xs hx => by
      match k with
      | 0 => exact hrow0.1 xs hx
      | 1 => exact hrow0.2.1 xs hx
      | _ + 2 => exact hrow0.2.2 xs hx
    refine we_lcG (own := [("part", 9)]) rfl sc.nd (blkOk_by (own := [("part", 9)]) (N := ["design", "bounds", "made", "budget", "found", "caller", "ticks", "state", "rows", "part", "row"]) (sc := defScope (Hd.topS 12)) (by decide +kernel)) rfl gt_name (fun _ _ _ _ _ => pg_name (i := 9) sc.nd rfl (Or.inl rfl)) ?_
    refine wi_tup ?_
    refine we_var 8 rfl ?_
    refine ⟨_, rfl, fun q hq => ?_⟩
    refine lcj_ix (fun k => col budget (part3 S k)) hq (by simp) (fun _ _ => trivial) (fun _ _ => trivial) ?_ ?_
    · intro k dd hdd l M3 su3 hq3 s H Ca cl fp
      have hk : k < 3 := by have := (List.getElem?_eq_some_iff.mp hdd).1; simpa using this
      obtain ⟨a, ps, xss, rfl, ea, ra, exs, exl⟩ : ∃ a ps xss, dd = D.ref a ∧ M2 a = some (.lst (ps.map D.ref)) ∧ Rw M2 ps xss ∧ part3 S k = xss ∧ xss.length ≤ 40 := by
        match k, hk with
        | 0, _ => cases hdd; exact ⟨_, pb, _, rfl, eb2, rb2, rfl, by omega⟩
        | 1, _ => cases hdd; exact ⟨_, pd, _, rfl, ed2, rd2, rfl, by omega⟩
        | 2, _ => cases hdd; exact ⟨_, ph, _, rfl, eh2, rh2, rfl, by omega⟩
      rw [exs]
      refine we_callT cd_tuple (C.fr 75) ?_
      refine wa_cons ?_
      refine we_lcG (own := [("row", 10)]) rfl sc.nd (blkOk_by (own := [("row", 10)]) (sc := { kind := .function, names := [(".0", .local), ("part", .local), ("tuple", .globalImplicit), ("budget", .cell)], isGenerator := false, isCoroutine := false }) (N := ["design", "bounds", "made", "budget", "found", "caller", "ticks", "state", "rows", "part", "row"]) (by decide +kernel)) rfl gt_name (fun _ _ _ _ _ => pg_name (i := 10) sc.nd rfl (Or.inl rfl)) ?_
      refine wi_lst ?_
      refine we_var 9 rfl ?_
      refine ⟨a, _, rfl, su3 _ _ ea, fun q2 hq2 => ?_⟩
      have hlp : ∀ (j : Nat) (xs : List Int), xss[j]? = some xs → budget.toNat < xs.length := fun j xs hx => by
        obtain ⟨p, e1, r1⟩ := ra.at_ hx
        have := hrow k xs (by rw [exs]; exact List.mem_of_getElem? hx)
        omega
      refine lcj_ix (fun j => D.int ((xss.getD j []).getD budget.toNat 0)) hq2 (by rw [List.length_map, ra.1]; omega) (fun M' su => su _ _ (su3 _ _ ea)) (fun _ _ => trivial) ?_ ?_
      · intro j dd2 hdd2 l2 M5 su5 hq5 s H Ca cl fp
        rw [List.getElem?_map] at hdd2
        cases ep : ps[j]? with
        | none => rw [ep] at hdd2; cases hdd2
        | some pj =>
          rw [ep] at hdd2
          cases hdd2
          have hj : j < xss.length := by rw [← ra.1]; exact (List.getElem?_eq_some_iff.mp ep).1
          have hx := getD_at (d := ([] : List Int)) hj
          have rj := ra.2 j pj _ ep hx
          have hlt := hlp j _ hx
          refine we_sub ?_
          refine we_var 10 rfl ?_
          refine we_var 3 rfl ?_
          have eb' : budget = (budget.toNat : Int) := by omega
          refine i_lst (su5 _ _ (su3 _ _ rj.1)) (by rw [eb']; exact atI_nat (map_at (getD_at (d := (0 : Int)) hlt))) ?_
          exact ⟨rfl, Sub.refl _⟩
      · intro M5 su5 hq5
        rw [List.length_map, ra.1, col_ix] at hq5
        refine wa_nil ?_
        refine c_tupL hq5 ?_
        exact ⟨rfl, su5⟩
    · intro M3 su3 hq3
      refine wa_nil ?_
      refine c_tupL hq3 ?_
      have hf3 := su3 _ _ hf2
      refine ⟨_, hf3, by rw [sizeLine_eq, List.length_map, List.length_range]; omega, ?_⟩
      refine ⟨⟨_, _, _, _, rfl⟩, fun x u e => ?_, ?_⟩
      · rw [put_ne (nn e hpf)]
        exact su3 _ _ (su2 _ _ (su _ _ e))
      · rw [put_same, List.range_succ, List.map_append]
        have el : latD d bs budget mss i = .tup [col budget S.begun, col budget S.done, col budget S.heard] := by
          unfold latD
          rw [ec, eb, ets]
          show D.tup [col budget (runC (opsL c b) d.round c 0 (ts.map (rep budget))).begun, _, _] = _
          rw [hS]
        rw [List.map_singleton, el]
        rfl
  · rintro _ M' ⟨⟨x5, x6, x7, x8, rfl⟩, su, hf⟩
    rw [enumD_len, List.length_map] at hf
    refine wss_one (ws_ret ?_)
    refine we_callT cd_tuple (C.fr 75) ?_
    refine wa_cons ?_
    refine we_var 4 rfl ?_
    refine wa_nil ?_
    refine c_tupL hf ?_
    exact ⟨_, Sub.refl _, kk M' su⟩
theorem ok_latest (C : Ct K mg base) : DefOk P w K mg base CX0 7 "latest" ["design", "bounds", "made", "budget"] (sp_latest) :=
  C.df 8 8 (d := Hd.d_latest) rfl rfl rfl (fun _ _ _ _ _ _ us hl => match us, hl with | [_, _, _, _], _ => rfl) fun f fd F => fn_latest C F
end
end K81

set_option Elab.async false
set_option linter.all false
set_option maxRecDepth 100000
set_option maxHeartbeats 4000000
namespace K81
open PySem PySem.Spec PyProof.Rows L2 DL
section
variable {P : Program} {w : World} {K : PySem.W.Frag} {mg : Str → Option Value} {base : Heap}
/-! ### common_multiple -/
def lcmL (l : List Nat) : Nat := l.foldl Nat.lcm 1
theorem lcmL_pos : ∀ (l : List Nat) (a : Nat), 0 < a → (∀ n ∈ l, 0 < n) → 0 < l.foldl Nat.lcm a
  | [], a, h, _ => h
  | n :: l, a, h, hn => lcmL_pos l _ (Nat.lcm_pos h (hn n List.mem_cons_self)) fun m hm => hn m (List.mem_cons_of_mem _ hm)
theorem lcmL_le : ∀ (l : List Nat) (a B k : Nat), a ≤ B → (∀ n ∈ l, n ≤ k) → l.foldl Nat.lcm a ≤ B * k ^ l.length
  | [], a, B, k, h, _ => by simpa using h
  | n :: l, a, B, k, h, hn => by
    have h1 : Nat.lcm a n ≤ B * k := by
      refine Nat.le_trans ?_ (Nat.mul_le_mul h (hn n List.mem_cons_self))
      unfold Nat.lcm
      exact Nat.div_le_self _ _
    have := lcmL_le l (Nat.lcm a n) (B * k) k h1 fun m hm => hn m (List.mem_cons_of_mem _ hm)
    rw [List.length_cons, Nat.pow_succ, Nat.mul_comm (k ^ l.length) k, ← Nat.mul_assoc]
    exact this
def sp_common_multiple : DSp := fun ds M P R => ∃ (d : D) (l : List Nat), ds = [d] ∧ (d = .tup (l.map fun n => D.int (n : Nat)) ∨ ∃ a, d = .ref a ∧ M a = some (.lst (l.map fun n => D.int (n : Nat)))) ∧ (∀ n ∈ l, 0 < n ∧ n ≤ 1000) ∧ l.length ≤ 3 ∧ P (.int (lcmL l : Nat)) M
theorem sc_common_multiple : FnScope ["numbers", "found", "number", "one", "other"] ["numbers"] (defScope (Hd.topS 13)) := ⟨rfl, rfl, rfl, by decide +kernel, rfl, by decide +kernel, by decide +kernel⟩
theorem ok_common_multiple (C : Ct K mg base) : DefOk P w K mg base CX0 1 "common_multiple" ["numbers"] sp_common_multiple := by
  refine C.df 9 9 (d := Hd.d_common_multiple) rfl rfl rfl (fun _ _ _ _ _ _ us hl => match us, hl with | [_], _ => rfl) fun f fd F => fn_ok F sc_common_multiple (by rintro _ _ _ _ ⟨_, _, rfl, _⟩; rfl) ?_
  intro cdv Ar outer s H E ds M Q R hr ⟨d, l, eds, hd, hl, hl3, kk⟩
  subst eds
  have sc := sc_common_multiple
  refine wss_cons ?_
  refine ws_set 1 sc.nd ?_
  refine we_int ?_
  refine wss_cons ?_
  refine ws_for PassesOwn.never rfl ?_
  refine WI.imp (P := fun ds keep M1 => ds = l.map (fun n => D.int (n : Nat)) ∧ M1 = M ∧ keep M) ?_ ?_
  · rcases hd with e | ⟨a, e, ha⟩
    · subst e
      refine wi_tup ?_
      refine we_var 0 rfl ?_
      exact ⟨_, rfl, rfl, rfl, trivial⟩
    · subst e
      refine wi_lst ?_
      refine we_var 0 rfl ?_
      exact ⟨_, _, rfl, ha, rfl, rfl, ha⟩
  rintro ds keep MX ⟨e1, e2, hkeep⟩
  rw [e1, e2]
  refine ⟨fun i (Γ' : Sl) (M' : Mem) => (∃ x2 x3 x4, Γ' = [some d, some (D.int ((l.take i).foldl Nat.lcm 1 : Nat)), x2, x3, x4]) ∧ M' = M, ⟨⟨none, none, none, rfl⟩, rfl⟩, fun i Γ' M' _ h => by rw [h.2]; exact hkeep, ?_, ?_⟩
  · rintro i dd _ M' hdd ⟨⟨x2, x3, x4, rfl⟩, eM⟩
    obtain rfl := eM.symm
    rw [List.getElem?_map] at hdd
    cases en : l[i]? with
    | none => rw [en] at hdd; cases hdd
    | some n =>
      rw [en] at hdd
      cases hdd
      have hn := hl n (List.mem_of_getElem? en)
      generalize hA : (l.take i).foldl Nat.lcm 1 = A
      have hA0 : 0 < A := by rw [← hA]; exact lcmL_pos _ _ Nat.one_pos fun m hm => (hl m (List.mem_of_mem_take hm)).1
      have hA1 : A ≤ 1000000000 := by
        rw [← hA]
        refine Nat.le_trans (lcmL_le (l.take i) 1 1 1000 (Nat.le_refl _) fun m hm => (hl m (List.mem_of_mem_take hm)).2) ?_
        rw [Nat.one_mul]
        exact Nat.le_trans (Nat.pow_le_pow_right (by omega) (show (l.take i).length ≤ 3 by have := List.length_take_le' i l; omega)) (by decide)
      refine wg_name 2 sc.nd ?_
      refine wss_cons ?_
      refine ws_par 3 4 rfl sc.nd ?_
      refine wa_cons ?_
      refine we_var 1 rfl ?_
      refine wa_cons ?_
      refine we_var 2 rfl ?_
      refine wa_nil ?_
      refine ⟨_, _, rfl, ?_⟩
      refine wss_cons ?_
      refine WS.nxt (fun (Γ' : Sl) (M' : Mem) => (∃ x4, Γ' = [some d, some (D.int (A : Nat)), some (D.int (n : Nat)), some (D.int (Nat.gcd A n : Nat)), x4]) ∧ M' = M) ?_ ?_
      · refine ws_while PassesOwn.never (fun m Γ' M' => (∃ a : Nat, Γ' = [some d, some (D.int (A : Nat)), some (D.int (n : Nat)), some (D.int (a : Nat)), some (D.int (m : Nat))] ∧ Nat.gcd a m = Nat.gcd A n) ∧ M' = M) n ⟨⟨A, rfl, rfl⟩, rfl⟩ ?_
        rintro m _ M' ⟨⟨a, rfl, hg⟩, eM⟩
        obtain rfl := eM.symm
        refine wt_truth ?_
        refine we_var 4 rfl ?_
        refine ⟨_, rfl, fun hk => ?_, fun hk => ?_⟩
        · have hm : m ≠ 0 := fun z => by subst z; exact absurd hk (by decide)
          refine ⟨fun Γ' M' => (∃ a : Nat, Γ' = [some d, some (D.int (A : Nat)), some (D.int (n : Nat)), some (D.int (m : Nat)), some (D.int (a % m : Nat))] ∧ Nat.gcd m (a % m) = Nat.gcd A n) ∧ M' = M, ?_, ?_⟩
          · rintro _ M' ⟨⟨a, rfl, hg⟩, eM⟩
            obtain rfl := eM.symm
            exact ⟨a % m, Nat.mod_lt _ (by omega), ⟨m, rfl, hg⟩, rfl⟩
          · refine wss_one ?_
            refine ws_par 3 4 rfl sc.nd ?_
            refine wa_cons ?_
            refine we_var 4 rfl ?_
            refine wa_cons ?_
            refine we_bin od_mod ?_
            refine we_var 3 rfl ?_
            refine we_var 4 rfl ?_
            refine b_i (show (0 : Int) < (m : Nat) by omega) ?_
            refine wa_nil ?_
            refine ⟨_, _, rfl, ⟨a, rfl, ?_⟩, rfl⟩
            rw [← hg, Nat.gcd_comm a m, Nat.gcd_rec m a, Nat.gcd_comm]
        · have hm : m = 0 := by
            rcases Nat.eq_zero_or_pos m with z | z
            · exact z
            · exact absurd hk (by simp; omega)
          subst hm
          rw [Nat.gcd_zero_right] at hg
          subst hg
          exact ⟨⟨_, rfl⟩, rfl⟩
      rintro _ M' ⟨⟨x4, rfl⟩, eM⟩
      obtain rfl := eM.symm
      have hg0 : 0 < Nat.gcd A n := Nat.gcd_pos_of_pos_left _ hA0
      have hg1 : Nat.gcd A n ≤ A := Nat.gcd_le_left _ hA0
      refine wss_one ?_
      refine ws_set 1 sc.nd ?_
      refine we_bin od_mul ?_
      refine we_bin od_div ?_
      refine we_var 1 rfl ?_
      refine we_var 3 rfl ?_
      refine b_i (show CDiv _ _ from ⟨by omega, by omega⟩) ?_
      refine we_var 2 rfl ?_
      refine b_mul (.inr ⟨by omega, by omega⟩) ?_
      refine ⟨⟨some (D.int (n : Nat)), some (D.int (Nat.gcd A n : Nat)), x4, ?_⟩, rfl⟩
      have e : ((A : Nat) : Int) / ((Nat.gcd A n : Nat) : Int) * ((n : Nat) : Int) = ((l.take (i + 1)).foldl Nat.lcm 1 : Nat) := by
        rw [List.take_add_one, en, List.foldl_append, hA]
        show _ = ((Nat.lcm A n : Nat) : Int)
        rw [← Int.natCast_ediv, ← Int.natCast_mul]
        congr 1
        unfold Nat.lcm
        rw [Nat.div_mul_right_comm (Nat.gcd_dvd_left A n)]
      rw [e]
      rfl
  · rintro _ M' ⟨⟨x2, x3, x4, rfl⟩, eM⟩
    obtain rfl := eM.symm
    rw [List.length_map, List.take_length]
    refine wss_one (ws_ret ?_)
    refine we_var 1 rfl ?_
    exact ⟨_, Sub.refl _, kk⟩
/-! ### starts_of -/
def spanOf (d : Des) (c : Cal) : Nat := lcmL [d.round.toNat, c.w0.wheel.toNat, c.w1.wheel.toNat]
def behind (c : Cal) : List Int := c.w0.slots.map fun s => (s + 1) % c.w0.wheel
def startsOf (d : Des) (c : Cal) : List Int := ((List.range (spanOf d c)).map fun i => ((i : Nat) : Int)).filter fun t => decide (t % c.w0.wheel ∈ behind c)
theorem rg1_map {n : Nat} : rg1 (n : Nat) = ((List.range n).map fun i => ((i : Nat) : Int)).map D.int := by
  unfold rg1
  rw [List.map_map, Int.toNat_natCast]
  refine List.map_congr_left fun i _ => ?_
  exact congrArg D.int (Int.zero_add _)
theorem mapM_ints : ∀ ns : List Int, (ns.map D.int).mapM toV = some (ns.map V.int)
  | [] => rfl
  | n :: ns => by
    rw [List.map_cons, List.mapM_cons, mapM_ints ns]
    rfl
theorem inV_int {x : Int} : ∀ ns : List Int, inV (.int x) (ns.map V.int) = decide (x ∈ ns)
  | [] => rfl
  | n :: ns => by
    have ih := inV_int (x := x) ns
    unfold inV at ih ⊢
    rw [List.map_cons, List.any_cons, ih]
    have e : eqV (V.int n) (V.int x) = decide (x = n) := by
      unfold eqV
      by_cases h : x = n
      · subst h; simp
      · simp [h, Ne.symm h]
    rw [e]
    by_cases h : x = n <;> simp [h]
theorem span_bound {d : Des} {c : Cal} (hd : d.Ok) (hc : c.Ok) : 0 < spanOf d c ∧ spanOf d c ≤ 1000000000 := by
  have h0 := hd.r0
  have h1 := hd.r1
  have a0 := (hc.w false).w0
  have a1 := (hc.w false).w1
  have b0 := (hc.w true).w0
  have b1 := (hc.w true).w1
  have e0 : c.way false = c.w0 := rfl
  have e1 : c.way true = c.w1 := rfl
  rw [e0] at a0 a1
  rw [e1] at b0 b1
  have hl : ∀ n ∈ [d.round.toNat, c.w0.wheel.toNat, c.w1.wheel.toNat], 0 < n ∧ n ≤ 1000 := by
    intro n hn
    simp only [List.mem_cons, List.not_mem_nil, or_false] at hn
    rcases hn with rfl | rfl | rfl <;> omega
  unfold spanOf lcmL
  refine ⟨lcmL_pos _ _ Nat.one_pos fun m hm => (hl m hm).1, ?_⟩
  refine Nat.le_trans (lcmL_le _ 1 1 1000 (Nat.le_refl _) fun m hm => (hl m hm).2) (show 1 * 1000 ^ 3 ≤ 1000000000 by decide)
def sp_starts_of : DSp := fun ds M P R => ∃ (d : Des) (c : Cal) (k : Nat), ds = [dDes d, .int k] ∧ d.cals[k]? = some c ∧ c.Ok ∧ d.Ok ∧ spanOf d c ≤ 1000000 ∧ ∀ q M', Sub M M' → M' q = some (.lst ((startsOf d c).map D.int)) → M q = none → P (.ref q) M'
theorem sc_starts_of : FnScope ["design", "caller", "span", "behind", "forth", "back", "slot", "tick"] ["design", "caller"] (defScope (Hd.topS 14)) := ⟨rfl, rfl, rfl, by decide +kernel, rfl, by decide +kernel, by decide +kernel⟩
theorem ok_starts_of (C : Ct K mg base) : DefOk P w K mg base CX0 2 "starts_of" ["design", "caller"] sp_starts_of := by
  refine C.df 10 10 (d := Hd.d_starts_of) rfl rfl rfl (fun _ _ _ _ _ _ us hl => match us, hl with | [_, _], _ => rfl) fun f fd F => fn_ok F sc_starts_of (by rintro _ _ _ _ ⟨_, _, _, rfl, _⟩; rfl) ?_
  intro cdv Ar outer s H E ds M Q R hr ⟨d, c, k, eds, h1, hc, hd, hsp, kk⟩
  subst eds
  have sc := sc_starts_of
  have ew0 : c.way false = c.w0 := rfl
  have ew1 : c.way true = c.w1 := rfl
  have hw0 := hc.w false
  have hw1 := hc.w true
  rw [ew0] at hw0
  rw [ew1] at hw1
  refine wss_cons ?_
  refine ws_asg ?_
  refine we_tup ?_
  refine wa_cons ?_
  refine we_call (ok_way_of C) hr ?_
  refine wa_cons ?_
  refine we_var 0 rfl ?_
  refine wa_cons ?_
  refine we_var 1 rfl ?_
  refine wa_cons ?_
  refine we_int ?_
  refine wa_nil ?_
  refine ⟨d, c, k, false, rfl, h1, ?_⟩
  refine wa_cons ?_
  refine we_call (ok_way_of C) hr ?_
  refine wa_cons ?_
  refine we_var 0 rfl ?_
  refine wa_cons ?_
  refine we_var 1 rfl ?_
  refine wa_cons ?_
  refine we_int ?_
  refine wa_nil ?_
  refine ⟨d, c, k, true, rfl, h1, ?_⟩
  refine wa_nil ?_
  refine ⟨size_ok (by simp), ?_⟩
  refine wg_tup rfl rfl ?_
  refine wgs_cons ?_
  refine wg_name 4 sc.nd ?_
  refine wgs_cons ?_
  refine wg_name 5 sc.nd ?_
  refine wgs_nil ?_
  refine wss_cons ?_
  refine ws_set 2 sc.nd ?_
  refine we_call (ok_common_multiple C) hr ?_
  refine wa_cons ?_
  refine we_tup ?_
  refine wa_cons ?_
  refine we_sub ?_
  refine we_var 0 rfl ?_
  refine we_int ?_
  refine i_tup rfl ?_
  refine wa_cons ?_
  refine we_sub ?_
  refine we_var 4 rfl ?_
  refine we_int ?_
  refine i_tup rfl ?_
  refine wa_cons ?_
  refine we_sub ?_
  refine we_var 5 rfl ?_
  refine we_int ?_
  refine i_tup rfl ?_
  refine wa_nil ?_
  refine ⟨size_ok (by simp), ?_⟩
  refine wa_nil ?_
  have hr0 := hd.r0
  have hr1 := hd.r1
  have a0 := hw0.w0
  have a1 := hw0.w1
  have b0 := hw1.w0
  have b1 := hw1.w1
  refine ⟨_, [d.round.toNat, c.w0.wheel.toNat, c.w1.wheel.toNat], rfl, .inl ?_, ?_, by simp, ?_⟩
  · have e1 : d.round = (d.round.toNat : Int) := by omega
    have e2 : c.w0.wheel = (c.w0.wheel.toNat : Int) := by omega
    have e3 : c.w1.wheel = (c.w1.wheel.toNat : Int) := by omega
    show D.tup [D.int d.round, D.int c.w0.wheel, D.int c.w1.wheel] = D.tup [D.int (d.round.toNat : Int), D.int (c.w0.wheel.toNat : Int), D.int (c.w1.wheel.toNat : Int)]
    rw [← e1, ← e2, ← e3]
  · intro n hn
    simp only [List.mem_cons, List.not_mem_nil, or_false] at hn
    rcases hn with rfl | rfl | rfl <;> omega
  show WSs _ _ _ M _
  refine wss_cons ?_
  refine ws_set 3 sc.nd ?_
  refine we_lcG (own := [("slot", 6)]) rfl sc.nd (blkOk_by (own := [("slot", 6)]) (N := ["design", "caller", "span", "behind", "forth", "back", "slot", "tick"]) (sc := defScope (Hd.topS 14)) (by decide +kernel)) rfl gt_name (fun _ _ _ _ _ => pg_name (i := 6) sc.nd rfl (Or.inl rfl)) ?_
  refine wi_tup ?_
  refine we_sub ?_
  refine we_var 4 rfl ?_
  refine we_int ?_
  refine i_tup rfl ?_
  refine ⟨_, rfl, fun q hq => ?_⟩
  refine lcj_map (fun | .int i => .int ((i + 1) % c.w0.wheel) | d => d) (by rw [List.length_map]; show c.w0.slots.length ≤ _; have := hw0.s1; omega) (fun _ => trivial) (fun _ _ => trivial) ?_ ?_
  · intro k dd hdd l s H Ca cl fp
    obtain ⟨i, _, rfl⟩ := List.mem_map.mp (List.mem_of_getElem? hdd)
    refine we_bin od_mod ?_
    refine we_bin od_add ?_
    refine we_var 6 rfl ?_
    refine we_int ?_
    refine b_addI ?_
    refine we_sub ?_
    refine we_var 4 rfl ?_
    refine we_int ?_
    refine i_tup rfl ?_
    refine b_i a0 ?_
    exact ⟨rfl, rfl⟩
  have eb : (c.w0.slots.map D.int).map (fun | .int i => .int ((i + 1) % c.w0.wheel) | d => d) = (behind c).map D.int := by unfold behind; rw [List.map_map, List.map_map]; rfl
  show WSs _ _ _ (put M q (.lst ((c.w0.slots.map D.int).map (fun | .int i => .int ((i + 1) % c.w0.wheel) | d => d)))) _
  rw [eb]
  refine wss_one (ws_ret ?_)
  refine we_lcTG (own := [("tick", 7)]) rfl sc.nd (blkOk_by (own := [("tick", 7)]) (N := ["design", "caller", "span", "behind", "forth", "back", "slot", "tick"]) (sc := defScope (Hd.topS 14)) (by decide +kernel)) rfl gt_name (fun _ _ _ _ _ => pg_name (i := 7) sc.nd rfl (Or.inl rfl)) ?_
  refine wi_range1 (C.fr 71) ?_
  refine we_var 2 rfl ?_
  refine ⟨_, rfl, by omega, by have : lcmL [d.round.toNat, c.w0.wheel.toNat, c.w1.wheel.toNat] ≤ 1000000 := hsp; omega, fun q2 hq2 => ?_⟩
  have ne : q ≠ q2 := nn put_same hq2
  refine lcjT_filter (fun | .int t => decide (t % c.w0.wheel ∈ behind c) | _ => false) id (by rw [rg1_len]; have : lcmL [d.round.toNat, c.w0.wheel.toNat, c.w1.wheel.toNat] ≤ 1000000 := hsp; omega) (fun _ => trivial) (fun _ _ => trivial) ?_ ?_ ?_
  · intro k dd hdd l s H Ca cl fp
    obtain ⟨_, rfl⟩ := rg1_at hdd
    refine wt_cmp od_in ?_
    refine we_bin od_mod ?_
    refine we_var 7 rfl ?_
    refine we_sub ?_
    refine we_var 4 rfl ?_
    refine we_int ?_
    refine i_tup rfl ?_
    refine b_i a0 ?_
    refine we_var 3 rfl ?_
    refine ⟨_, _, _, rfl, .inr ⟨q, rfl, by rw [put_ne ne]; exact put_same⟩, mapM_ints _, ?_⟩
    refine t_bl ?_
    rw [inV_int]
    exact ⟨rfl, rfl⟩
  · intro k dd hdd l s H Ca cl fp
    obtain ⟨_, rfl⟩ := rg1_at hdd
    refine we_var 7 rfl ?_
    exact ⟨rfl, rfl⟩
  · refine ⟨_, Sub.refl _, kk q2 _ (fun x u e => by rw [put_ne (nn e (put_none hq2).2), put_ne (nn e hq)]; exact e) ?_ (put_none hq2).2⟩
    rw [put_same, List.map_id]
    congr 2
    show (rg1 ((spanOf d c : Nat) : Int)).filter _ = _
    unfold startsOf
    rw [rg1_map, List.filter_map]
    rfl
end
end K81

set_option Elab.async false
set_option linter.all false
set_option maxRecDepth 100000
set_option maxHeartbeats 4000000
namespace K81
open PySem PySem.Spec PyProof.Rows L2 DL
section
variable {P : Program} {w : World} {K : PySem.W.Frag} {mg : Str → Option Value} {base : Heap}
/-! ### stair_within -/
def lanesOf (c : Cal) : List Nat := [c.w0.slots.length, c.w1.slots.length]
/-- heard - start of the call j, all calls made at start -/
def stV (d : Des) (c : Cal) (b : Bnd) (budget first start : Int) (j : Nat) : Int := ((runC (opsL c b) d.round c first ((List.replicate (j + 1) start).map (rep budget))).heard.getLast?.getD []).getD budget.toNat 0 - start
def stVs (d : Des) (c : Cal) (b : Bnd) (budget first start : Int) (many : Nat) : List Int := (List.range many).map (stV d c b budget first start)
def mxs (x y : List Int) : List Int := List.zipWith max x y
def stL1 (d : Des) (c : Cal) (b : Bnd) (budget : Int) (many : Nat) (first : Int) (acc : List Int) (ss : List Int) : List Int := ss.foldl (fun acc s => mxs acc (stVs d c b budget first s many)) acc
def stL (d : Des) (c : Cal) (b : Bnd) (budget : Int) (many : Nat) (fs : List Nat) : List Int := fs.foldl (fun acc (f : Nat) => stL1 d c b budget many (f : Int) acc (startsOf d c)) (List.replicate many 0)
def stair (d : Des) (c : Cal) (b : Bnd) (budget : Int) (many : Nat) : List Int := stL d c b budget many (List.range (lcmL (lanesOf c)))
theorem stL1_len {d : Des} {c : Cal} {b : Bnd} {budget : Int} {many : Nat} {first : Int} : ∀ (ss acc : List Int), acc.length = many → (stL1 d c b budget many first acc ss).length = many
  | [], acc, h => h
  | s :: ss, acc, h => stL1_len ss _ (by unfold mxs stVs; rw [List.length_zipWith, List.length_map, List.length_range]; omega)
theorem stL_len {d : Des} {c : Cal} {b : Bnd} {budget : Int} {many : Nat} : ∀ (fs : List Nat) (acc : List Int), acc.length = many → (fs.foldl (fun acc (f : Nat) => stL1 d c b budget many (f : Int) acc (startsOf d c)) acc).length = many
  | [], acc, h => h
  | f :: fs, acc, h => stL_len fs _ (stL1_len _ _ h)
/-- acc with its first j put together with v -/
def part (acc v : List Int) (j : Nat) : List Int := (mxs acc v).take j ++ acc.drop j
theorem part_zero {acc v : List Int} : part acc v 0 = acc := rfl
theorem part_end {acc v : List Int} (h : acc.length = v.length) : part acc v acc.length = mxs acc v := by
  unfold part
  rw [List.drop_length, List.append_nil, List.take_of_length_le]
  unfold mxs
  rw [List.length_zipWith]
  omega
theorem part_at {acc v : List Int} {j : Nat} (hj : j < acc.length) (h : acc.length = v.length) : (part acc v j)[j]? = some (acc.getD j 0) := by
  have hm : (mxs acc v).length = acc.length := by unfold mxs; rw [List.length_zipWith]; omega
  unfold part
  rw [List.getElem?_append_right (by rw [List.length_take]; omega), List.length_take, Nat.min_eq_left (by omega), Nat.sub_self, List.getElem?_drop, Nat.add_zero]
  exact getD_at hj
theorem part_set {acc v : List Int} {j : Nat} (hj : j < acc.length) (h : acc.length = v.length) : (part acc v j).set j (max (acc.getD j 0) (v.getD j 0)) = part acc v (j + 1) := by
  have hm : (mxs acc v).length = acc.length := by unfold mxs; rw [List.length_zipWith]; omega
  have e : (mxs acc v)[j]? = some (max (acc.getD j 0) (v.getD j 0)) := by
    unfold mxs
    rw [List.getElem?_zipWith, getD_at (d := 0) hj, getD_at (d := 0) (show j < v.length by omega)]
  unfold part
  rw [List.take_add_one, e]
  have hl : ((mxs acc v).take j).length = j := by rw [List.length_take]; omega
  have e2 : acc.drop j = acc.getD j 0 :: acc.drop (j + 1) := by
    rw [List.drop_eq_getElem_cons hj]
    congr 1
    simp [List.getD, List.getElem?_eq_getElem hj]
  rw [List.set_append_right _ _ (by omega), hl, Nat.sub_self, e2]
  simp
theorem rep_flat (x : Int) : ∀ n : Nat, (List.replicate n [D.int x]).flatten = (List.replicate n x).map D.int
  | 0 => rfl
  | n + 1 => by rw [List.replicate_succ, List.flatten_cons, rep_flat x n]; rfl
theorem WayAt.pin {K : PySem.W.Frag} {M M' : Mem} {A : WAd} {wy : Way} {fails t0 t1 ahead : Int} {S : WSt} {pf : Addr} {l : List D} (h : WayAt K M A wy fails t0 t1 ahead S) (e : M pf = some (.pin l)) (f : Fr [pf] M M') : WayAt K M' A wy fails t0 t1 ahead S := by
  refine h.fr f fun x hx hy => ?_
  rw [List.mem_singleton] at hy
  subst hy
  simp only [List.mem_cons, List.not_mem_nil, or_false] at hx
  rcases hx with rfl | rfl | rfl | rfl | rfl | rfl
  · rw [h.o] at e; cases e
  · obtain ⟨_, q, _⟩ := h.f; rw [q] at e; cases e
  · obtain ⟨_, q, _⟩ := h.c; rw [q] at e; cases e
  · obtain ⟨_, q, _⟩ := h.t; rw [q] at e; cases e
  · obtain ⟨_, q, _⟩ := h.r; rw [q] at e; cases e
  · obtain ⟨_, q, _⟩ := h.b; rw [q] at e; cases e
theorem Rows.pin {M M' : Mem} {a pf : Addr} {l : List D} {xss : List (List Int)} (h : Rows M a xss) (e : M pf = some (.pin l)) (f : Fr [pf] M M') : Rows M' a xss := by
  refine h.fr f fun hy => ?_
  rw [List.mem_singleton] at hy
  subst hy
  obtain ⟨_, q, _⟩ := h
  rw [q] at e
  cases e
theorem CAt.pin {K : PySem.W.Frag} {M M' : Mem} {A : CAd} {d : Des} {c : Cal} {b : Bnd} {budget ahead : Int} {S : Cst (List Int)} {pf : Addr} {l : List D} (h : CAt K M A d c b budget ahead S) (e : M pf = some (.pin l)) (f : Fr [pf] M M') : CAt K M' A d c b budget ahead S := by
  refine ⟨f.oth _ _ (fun hy => ?_) h.o, fun s => WayAt.pin (h.w s) e f, h.bg.pin e f, h.dn.pin e f, h.hd.pin e f, h.sep⟩
  rw [List.mem_singleton] at hy
  have := h.o
  rw [hy, e] at this
  cases this
theorem Fr.pin {M : Mem} {pf : Addr} {l : List D} {m : MO} (e : M pf = some (.pin l)) : Fr [pf] M (DL.put M pf m) := Fr.put2 (by simp) e (fun _ _ z => by cases z)
def sp_stair_within : DSp := fun ds M P R => ∃ (d : Des) (c : Cal) (bs : List Bnd) (b : Bnd) (k many : Nat) (budget : Int), ds = [dDes d, dBnds bs, .int k, .int many, .int budget] ∧ d.cals[k]? = some c ∧ bs[k]? = some b ∧ c.Ok ∧ b.Ok ∧ d.Ok ∧ 0 ≤ budget ∧ budget < 1000 ∧ many ≤ 40 ∧ spanOf d c ≤ 1000000 ∧
  ∀ M', Sub M M' → P (.tup ((stair d c b budget many).map D.int)) M'
theorem sc_stair_within : FnScope ["design", "bounds", "caller", "many", "budget", "lanes", "found", "first", "start", "side", "state", "number"] ["design", "bounds", "caller", "many", "budget"] (defScope (Hd.topS 15)) := ⟨rfl, rfl, rfl, by decide +kernel, rfl, by decide +kernel, by decide +kernel⟩
theorem fn_stair_within (C : Ct K mg base) {f : Addr} {fd : FuncData} (F : FunD K Hd.d_stair_within.name Hd.d_stair_within.qual Hd.d_stair_within.params Hd.d_stair_within.body Hd.d_stair_within.scope [] [] f fd) : FnOk P w K mg base CX0 6 f fd ["design", "bounds", "caller", "many", "budget"] (lift sp_stair_within) := by
  refine fn_ok F sc_stair_within (by rintro _ _ _ _ ⟨_, _, _, _, _, _, _, rfl, _⟩; rfl) ?_
  intro cdv Ar outer s H E ds M Q R hr ⟨d, c, bs, b, k, many, budget, eds, h1, h2, hc, hb, hd, hb0, hb1, hmn, hsp, kk⟩
  subst eds
  have sc := sc_stair_within
  have hw0 := hc.w false
  have hw1 := hc.w true
  refine wss_cons ?_
  refine ws_lcG 5 (own := [("side", 9)]) rfl sc.nd (sw_true rfl rfl rfl (by decide +kernel)) (blkOk_by (own := [("side", 9)]) (N := ["design", "bounds", "caller", "many", "budget", "lanes", "found", "first", "start", "side", "state", "number"]) (sc := defScope (Hd.topS 15)) (by decide +kernel)) rfl gt_name (fun _ _ _ _ _ => pg_name (i := 9) sc.nd rfl (Or.inl rfl)) ?_
  refine wi_tup ?_
  refine we_tup ?_
  refine wa_cons ?_
  refine we_int ?_
  refine wa_cons ?_
  refine we_int ?_
  refine wa_nil ?_
  refine ⟨size_ok (by simp), ?_⟩
  refine ⟨_, rfl, fun q hq => ?_⟩
  refine lcj_map (fun | .int 0 => .int (c.w0.slots.length : Nat) | _ => .int (c.w1.slots.length : Nat)) (by simp) (fun _ => trivial) (fun _ _ => trivial) ?_ ?_
  · intro j dd hdd l s H Ca cl fp
    have hj : j < 2 := by have := (List.getElem?_eq_some_iff.mp hdd).1; simpa using this
    obtain ⟨sd, rfl, e2⟩ : ∃ sd, dd = dS sd ∧ (match dd with | .int 0 => D.int (c.w0.slots.length : Nat) | _ => .int (c.w1.slots.length : Nat)) = .int ((c.way sd).slots.length : Nat) := by
      match j, hj with
      | 0, _ => cases hdd; exact ⟨false, rfl, rfl⟩
      | 1, _ => cases hdd; exact ⟨true, rfl, rfl⟩
    rw [e2]
    refine we_callB cd_len (C.fr 67) ?_
    refine wa_cons ?_
    refine we_sub ?_
    refine we_call (ok_way_of C) hr ?_
    refine wa_cons ?_
    refine we_var 0 rfl ?_
    refine wa_cons ?_
    refine we_var 2 rfl ?_
    refine wa_cons ?_
    refine we_var 9 rfl ?_
    refine wa_nil ?_
    refine ⟨d, c, k, sd, rfl, h1, ?_⟩
    refine we_int ?_
    refine i_tup rfl ?_
    refine wa_nil ?_
    refine c_len rfl ?_
    rw [List.length_map]
    exact ⟨rfl, rfl⟩
  have elan : (lanesOf c).map (fun n => D.int (n : Nat)) = [D.int (c.w0.slots.length : Nat), D.int (c.w1.slots.length : Nat)] := rfl
  show WSs _ _ _ (put M q (.lst [D.int (c.w0.slots.length : Nat), D.int (c.w1.slots.length : Nat)])) _
  rw [← elan]
  refine wss_cons ?_
  refine ws_set 6 sc.nd ?_
  refine we_bin od_mul ?_
  refine we_lst ?_
  refine wa_cons ?_
  refine we_int ?_
  refine wa_nil ?_
  refine ⟨size_ok (by simp), fun p hp => ?_⟩
  refine we_var 3 rfl ?_
  refine ⟨_, put_same, by omega, by omega, by rw [sizeLine_eq]; simp; omega, fun pf hpf => ?_⟩
  have erep : (List.replicate ((many : Int)).toNat [D.int 0]).flatten = (List.replicate many (0 : Int)).map D.int := by rw [Int.toNat_natCast]; exact rep_flat 0 many
  rw [erep]
  have nlf : q ≠ pf := nn ((put_ne (nn put_same hp)).trans put_same) hpf
  have mf : M pf = none := (put_none (put_none hpf).2).2
  refine WSs.re (re_pin (a := pf) (l := (List.replicate many (0 : Int)).map D.int) put_same) ?_
  rw [put_put]
  have su1 : Sub M (put (put (put M q (.lst ((lanesOf c).map fun n => D.int (n : Nat)))) p (.lst [D.int 0])) pf (.pin ((List.replicate many (0 : Int)).map D.int))) := ((Sub.put hq).trans (Sub.put hp)).trans (Sub.put hpf)
  have at1 : (put (put (put M q (.lst ((lanesOf c).map fun n => D.int (n : Nat)))) p (.lst [D.int 0])) pf (.pin ((List.replicate many (0 : Int)).map D.int))) q = some (.lst ((lanesOf c).map fun n => D.int (n : Nat))) := ((put_ne nlf).trans (put_ne (nn put_same hp))).trans put_same
  have af1 : (put (put (put M q (.lst ((lanesOf c).map fun n => D.int (n : Nat)))) p (.lst [D.int 0])) pf (.pin ((List.replicate many (0 : Int)).map D.int))) pf = some (.pin ((List.replicate many (0 : Int)).map D.int)) := put_same
  show WSs _ _ _ (put (put (put M q (.lst ((lanesOf c).map fun n => D.int (n : Nat)))) p (.lst [D.int 0])) pf (.pin ((List.replicate many (0 : Int)).map D.int))) _
  generalize put (put (put M q (.lst ((lanesOf c).map fun n => D.int (n : Nat)))) p (.lst [D.int 0])) pf (.pin ((List.replicate many (0 : Int)).map D.int)) = M1 at su1 at1 af1 ⊢
  have hlan : ∀ n ∈ lanesOf c, 0 < n ∧ n ≤ 1000 := by
    intro n hn
    simp only [lanesOf, List.mem_cons, List.not_mem_nil, or_false] at hn
    rcases hn with rfl | rfl
    · exact ⟨hw0.s0, hw0.s1⟩
    · exact ⟨hw1.s0, hw1.s1⟩
  refine wss_cons ?_
  refine ws_for PassesOwn.never rfl ?_
  refine wi_range1 (C.fr 71) ?_
  refine we_call (ok_common_multiple C) hr ?_
  refine wa_cons ?_
  refine we_var 5 rfl ?_
  refine wa_nil ?_
  refine ⟨_, lanesOf c, rfl, .inr ⟨q, rfl, at1⟩, hlan, by simp [lanesOf], ?_⟩
  have hlcm : lcmL (lanesOf c) ≤ 1000000 := by
    unfold lcmL
    refine Nat.le_trans (lcmL_le _ 1 1 1000 (Nat.le_refl _) fun m hm => (hlan m hm).2) ?_
    rw [Nat.one_mul]
    exact (by decide : 1000 ^ 2 ≤ 1000000)
  refine ⟨_, rfl, by omega, by omega, ?_⟩
  refine ⟨fun i (Γ' : Sl) (M' : Mem) => (∃ x7 x8 x10 x11, Γ' = [some (dDes d), some (dBnds bs), some (D.int (k : Nat)), some (D.int (many : Nat)), some (D.int budget), some (D.ref q), some (D.ref pf), x7, x8, none, x10, x11]) ∧ ∃ M0, Re M' M0 ∧ Sub M M0 ∧ M0 pf = some (.pin ((stL d c b budget many (List.range i)).map D.int)), ⟨⟨none, none, none, none, rfl⟩, M1, Re.refl _, su1, af1⟩, fun _ _ _ _ _ => trivial, ?_, ?_⟩
  · rintro i dd _ M2' hdd ⟨⟨x7, x8, x10, x11, rfl⟩, M2, re2, su2, af2⟩
    obtain ⟨_, rfl⟩ := rg1_at hdd
    refine wg_name 7 sc.nd ?_
    refine WSs.re re2 ?_
    refine wss_one ?_
    refine ws_for PassesOwn.never rfl ?_
    refine wi_lst ?_
    refine we_call (ok_starts_of C) hr ?_
    refine wa_cons ?_
    refine we_var 0 rfl ?_
    refine wa_cons ?_
    refine we_var 2 rfl ?_
    refine wa_nil ?_
    refine ⟨d, c, k, rfl, h1, hc, hd, hsp, fun qs M3 su3 as3 nq => ?_⟩
    have af3 := su3 _ _ af2
    have nqf : qs ≠ pf := fun e => by subst e; rw [nq] at af2; cases af2
    refine ⟨qs, _, rfl, as3, ?_⟩
    have lacc : (stL d c b budget many (List.range i)).length = many := stL_len _ _ (List.length_replicate)
    refine ⟨fun j (Γ' : Sl) (M' : Mem) => (∃ x8 x10 x11, Γ' = [some (dDes d), some (dBnds bs), some (D.int (k : Nat)), some (D.int (many : Nat)), some (D.int budget), some (D.ref q), some (D.ref pf), some (D.int (i : Nat)), x8, none, x10, x11]) ∧ M' qs = some (.lst ((startsOf d c).map D.int)) ∧ ∃ M0, Re M' M0 ∧ Sub M M0 ∧ M0 qs = some (.lst ((startsOf d c).map D.int)) ∧ M0 pf = some (.pin ((stL1 d c b budget many (i : Nat) (stL d c b budget many (List.range i)) ((startsOf d c).take j)).map D.int)), ⟨⟨_, _, _, rfl⟩, as3, M3, Re.refl _, su2.trans su3, as3, af3⟩, fun _ _ _ _ h => h.2.1, ?_, ?_⟩
    · rintro j dd _ M4' hdd ⟨⟨x8, x10, x11, rfl⟩, _, M4, re4, su4, as4, af4⟩
      rw [List.getElem?_map] at hdd
      cases est : (startsOf d c)[j]? with
      | none => rw [est] at hdd; cases hdd
      | some st =>
        rw [est] at hdd
        cases hdd
        have etk : (startsOf d c).take (j + 1) = (startsOf d c).take j ++ [st] := by rw [List.take_add_one, est]; rfl
        generalize hacc : stL1 d c b budget many (i : Nat) (stL d c b budget many (List.range i)) ((startsOf d c).take j) = acc at af4
        have la : acc.length = many := by rw [← hacc]; exact stL1_len _ _ lacc
        have enext : stL1 d c b budget many (i : Nat) (stL d c b budget many (List.range i)) ((startsOf d c).take (j + 1)) = mxs acc (stVs d c b budget (i : Nat) st many) := by
          rw [etk, ← hacc]
          unfold stL1
          rw [List.foldl_append]
          rfl
        refine wg_name 8 sc.nd ?_
        refine WSs.re re4 ?_
        refine wss_cons ?_
        refine ws_set 10 sc.nd ?_
        refine we_make (mk_BudgetCaller C) hr ?_
        refine wa_cons ?_
        refine we_var 0 rfl ?_
        refine wa_cons ?_
        refine we_var 1 rfl ?_
        refine wa_cons ?_
        refine we_var 2 rfl ?_
        refine wa_cons ?_
        refine we_var 4 rfl ?_
        refine wa_cons ?_
        refine we_var 7 rfl ?_
        refine wa_nil ?_
        refine fun a ha => ⟨a, d, c, bs, b, k, budget, _, rfl, h1, h2, hc, put_same, fun A M5 ea mu f0 h0 => ⟨rfl, ?_⟩⟩
        have f5 := Fr.made ha f0
        have mu4 : ∀ x ∈ A.mut, M4 x = none := fun x hx => (put_none (mu x hx)).2
        subst ea
        have nmu : ∀ x u, M4 x = some u → x ∉ A.mut := fun x u e hx => by rw [mu4 x hx] at e; cases e
        have npf : pf ∉ A.mut := nmu _ _ af4
        have nqs : qs ∉ A.mut := nmu _ _ as4
        have hmu : ∀ x ∈ A.mut, M x = none := fun x hx => by
          cases e : M x with
          | none => rfl
          | some u => exact absurd hx (nmu x u (su4 x u e))
        have lv : (stVs d c b budget (i : Nat) st many).length = many := by unfold stVs; rw [List.length_map, List.length_range]
        refine wss_one ?_
        refine ws_for PassesOwn.never rfl ?_
        refine wi_range1 (C.fr 71) ?_
        refine we_var 3 rfl ?_
        refine ⟨_, rfl, by omega, by omega, ?_⟩
        refine ⟨fun n (Γ' : Sl) (M' : Mem) => (∃ x11, Γ' = [some (dDes d), some (dBnds bs), some (D.int (k : Nat)), some (D.int (many : Nat)), some (D.int budget), some (D.ref q), some (D.ref pf), some (D.int (i : Nat)), some (D.int st), none, some (D.ref A.a), x11]) ∧ M' qs = some (.lst ((startsOf d c).map D.int)) ∧ ∃ M0, Re M' M0 ∧ Sub M M0 ∧ M0 qs = some (.lst ((startsOf d c).map D.int)) ∧ M0 pf = some (.pin ((part acc (stVs d c b budget (i : Nat) st many) n).map D.int)) ∧ CAt K M0 A d c b budget (i : Nat) (runC (opsL c b) d.round c (i : Nat) ((List.replicate n st).map (rep budget))), ⟨⟨_, rfl⟩, f5.oth _ _ (by simp) as4, M5, Re.refl _, su4.trans f5.toSub, f5.oth _ _ (by simp) as4, ?_, h0⟩, fun _ _ _ _ _ => trivial, ?_, ?_⟩
        · rw [part_zero]
          exact f5.oth _ _ (by simp) af4
        · rintro n dd _ M6' hdd ⟨⟨x11, rfl⟩, _, M6, re6, su6, as6, af6, hC⟩
          obtain ⟨hn, rfl⟩ := rg1_at hdd
          have hn' : n < many := by omega
          refine wg_name 11 sc.nd ?_
          refine WSs.re (re6.trans (re_lst af6)) ?_
          refine wss_one ?_
          refine ws_asg ?_
          refine we_callB (cd_max rfl) (C.fr 69) ?_
          refine wa_cons ?_
          refine we_sub ?_
          refine we_var 6 rfl ?_
          refine we_var 11 rfl ?_
          refine i_lst put_same (atI_nat (map_at (part_at (by omega) (by omega)))) ?_
          refine wa_cons ?_
          refine WE.re (re_back af6) ?_
          refine we_bin od_sub ?_
          refine we_sub ?_
          refine we_meth (ok_put_call C) C.cC hr ?_
          refine we_var 10 rfl ?_
          refine ⟨A.a, _, rfl, hC.o, rfl, ?_⟩
          refine wa_cons ?_
          refine we_var 8 rfl ?_
          refine wa_nil ?_
          have hlen : ((List.replicate n st).map (rep budget)).length = n := by rw [List.length_map, List.length_replicate]
          have hl := runC_len (o := opsL c b) (round := d.round) (c := c) (ahead := (i : Nat)) ((List.replicate n st).map (rep budget))
          rw [hlen] at hl
          refine ⟨A, d, c, b, budget, _, st, _, rfl, hC, hc, hb, hd, hb0, hb1, by omega, by omega, by omega, runC_small hc (by omega), fun q7 M7 y7 fr7 hC7 r7 l7 => ?_⟩
          rw [← runC_snoc] at hC7 l7
          have erp : (List.replicate n st).map (rep budget) ++ [rep budget st] = (List.replicate (n + 1) st).map (rep budget) := by rw [List.replicate_succ', List.map_append]; rfl
          rw [erp] at hC7 l7
          have hy : y7.length = (budget + 1).toNat := (run_rows (b := b) (ahead := (i : Nat)) (budget := budget) (ts := List.replicate (n + 1) st) hd hc).2.2 y7 (List.mem_of_getLast? l7)
          refine we_var 4 rfl ?_
          have eb' : budget = (budget.toNat : Int) := by omega
          refine i_lst r7.1 (by rw [eb']; exact atI_nat (map_at (getD_at (d := (0 : Int)) (show budget.toNat < y7.length by omega)))) ?_
          refine we_var 8 rfl ?_
          refine b_sub ?_
          refine wa_nil ?_
          refine c_max ?_
          have af7 := fr7.oth _ _ npf af6
          have as7 := fr7.oth _ _ nqs as6
          have evn : y7.getD budget.toNat 0 - st = (stVs d c b budget (i : Nat) st many).getD n 0 := by
            have h3 : (stVs d c b budget (i : Nat) st many)[n]? = some (stV d c b budget (i : Nat) st n) := by unfold stVs; rw [List.getElem?_map, List.getElem?_range hn']; rfl
            have h4 : (stVs d c b budget (i : Nat) st many).getD n 0 = stV d c b budget (i : Nat) st n := by simp [List.getD, h3]
            rw [h4]
            unfold stV
            rw [l7]
            rfl
          refine WG.re (re_lst af7) ?_
          refine wg_lsub ?_
          refine we_var 6 rfl ?_
          refine we_var 11 rfl ?_
          have lpart : n < ((part acc (stVs d c b budget (i : Nat) st many) n).map D.int).length := by
            rw [List.length_map]
            exact (List.getElem?_eq_some_iff.mp (part_at (v := stVs d c b budget (i : Nat) st many) (show n < acc.length by omega) (by omega))).1
          refine ⟨_, _, n, rfl, put_same, rfl, lpart, ?_⟩
          rw [put_put, ← List.map_set, evn, part_set (by omega) (by omega)]
          have nqf' : qs ≠ pf := nqf
          have fpin : Fr [pf] M7 (put M7 pf (.pin ((part acc (stVs d c b budget (i : Nat) st many) (n + 1)).map D.int))) := Fr.pin af7
          refine ⟨⟨_, rfl⟩, (put_ne nqf').trans as7, put M7 pf (.pin ((part acc (stVs d c b budget (i : Nat) st many) (n + 1)).map D.int)), ?_, ?_, (put_ne nqf').trans as7, put_same, hC7.pin af7 fpin⟩
          · have := re_pin (M := put M7 pf (.lst ((part acc (stVs d c b budget (i : Nat) st many) (n + 1)).map D.int))) (a := pf) (l := (part acc (stVs d c b budget (i : Nat) st many) (n + 1)).map D.int) put_same
            rw [put_put] at this
            exact this
          · intro x u e
            have n1 : x ≠ pf := nn e mf
            have n2 : x ∉ A.mut := fun hx => by rw [hmu x hx] at e; cases e
            rw [put_ne n1]
            exact fr7.oth x u n2 (su6 x u e)
        · rintro _ M6' ⟨⟨x11, rfl⟩, as6', M6, re6, su6, as6, af6, hC⟩
          rw [rg1_len, Int.toNat_natCast] at af6
          refine ⟨⟨_, _, _, rfl⟩, as6', M6, re6, su6, as6, ?_⟩
          rw [enext, af6, ← la, part_end (by unfold stVs; rw [List.length_map, List.length_range])]
    · rintro _ M4' ⟨⟨x8, x10, x11, rfl⟩, _, M4, re4, su4, as4, af4⟩
      rw [List.length_map, List.take_length] at af4
      refine ⟨⟨_, _, _, _, rfl⟩, M4, re4, su4, ?_⟩
      rw [af4]
      congr 3
      unfold stL
      rw [List.range_succ, List.foldl_append]
      rfl
  · rintro _ M2' ⟨⟨x7, x8, x10, x11, rfl⟩, M2, re2, su2, af2⟩
    rw [rg1_len, Int.toNat_natCast] at af2
    refine WSs.re (re2.trans (re_lst af2)) ?_
    refine wss_one (ws_ret ?_)
    refine we_callT cd_tuple (C.fr 75) ?_
    refine wa_cons ?_
    refine we_var 6 rfl ?_
    refine wa_nil ?_
    refine c_tupL put_same ?_
    exact ⟨_, Sub.refl _, kk _ fun x u e => (put_ne (nn e mf)).trans (su2 x u e)⟩
theorem ok_stair_within (C : Ct K mg base) : DefOk P w K mg base CX0 6 "stair_within" ["design", "bounds", "caller", "many", "budget"] sp_stair_within :=
  C.df 11 11 (d := Hd.d_stair_within) rfl rfl rfl (fun _ _ _ _ _ _ us hl => match us, hl with | [_, _, _, _, _], _ => rfl) fun f fd F => fn_stair_within C F
end
end K81

set_option Elab.async false
set_option linter.all false
set_option maxRecDepth 100000
set_option maxHeartbeats 4000000
namespace DL
open PySem PySem.Spec PyProof.Rows L2
theorem WT.imp {X : Cx} {e : Expr} {Γ : Sl} {M : Mem} {PT PT' : Bool → Mem → Prop} (h : WT X e Γ M PT) (k : ∀ b M', PT b M' → PT' b M') : WT X e Γ M PT' := ⟨fun pins s σ H I hs hm => thn (h.run pins s σ H I hs hm) fun u s' ⟨H', I', M', t, m, p⟩ => ⟨H', I', M', t, m, k u M' p⟩⟩
end DL
namespace K81
open PySem PySem.Spec PyProof.Rows L2 DL
theorem Re.of_eq {M M0 : Mem} (e : M = M0) : Re M M0 := e ▸ Re.refl _
section
variable {P : Program} {w : World} {K : PySem.W.Frag} {mg : Str → Option Value} {base : Heap}
/-! ### _law_mixed, _law_draw: some number below the limit -/
def sp_law_mixed : DSp := fun ds M P R => ∃ x t : Int, ds = [.int x, .int t] ∧ ∀ v, P (.int v) M
theorem sc_law_mixed : FnScope ["cell", "trip", "one", "two"] ["cell", "trip"] (defScope (Hd.topS 17)) := ⟨rfl, rfl, rfl, by decide +kernel, rfl, by decide +kernel, by decide +kernel⟩
theorem ok_law_mixed (C : Ct K mg base) : DefOk P w K mg base CX0 1 "_law_mixed" ["cell", "trip"] sp_law_mixed := by
  refine C.df 12 12 (d := Hd.d_law_mixed) rfl rfl rfl (fun _ _ _ _ _ _ us hl => match us, hl with | [_, _], _ => rfl) fun f fd F => fn_ok F sc_law_mixed (by rintro _ _ _ _ ⟨_, _, rfl, _⟩; rfl) ?_
  intro cdv A outer s H E ds M Q R hr ⟨x, t, eds, p⟩
  subst eds
  have sc := sc_law_mixed
  refine wss_cons ?_
  refine ws_set 2 sc.nd ?_
  refine we_bin od_mod ?_
  refine we_callT cd_int (C.fr 65) ?_
  refine wa_cons ?_
  refine we_bin od_add ?_
  refine we_bin od_add ?_
  refine we_bin od_mul ?_
  refine we_var 0 rfl ?_
  refine we_int ?_
  refine b_mul (.inr ⟨by decide, by decide⟩) ?_
  refine we_bin od_mul ?_
  refine we_var 1 rfl ?_
  refine we_int ?_
  refine b_mul (.inr ⟨by decide, by decide⟩) ?_
  refine b_addI ?_
  refine we_int ?_
  refine b_addI ?_
  refine wa_nil ?_
  refine c_int ?_
  refine we_int ?_
  refine b_i (show (0 : Int) < 2147483647 by decide) ?_
  have h1 : 0 ≤ (x * 48271 + t * 69621 + 12345) % 2147483647 ∧ (x * 48271 + t * 69621 + 12345) % 2147483647 < 2147483647 := ⟨Int.emod_nonneg _ (by decide), Int.emod_lt_of_pos _ (by decide)⟩
  show WSs _ _ [some (.int x), some (.int t), some (.int ((x * 48271 + t * 69621 + 12345) % 2147483647)), none] M _
  generalize (x * 48271 + t * 69621 + 12345) % 2147483647 = one at h1 ⊢
  refine wss_cons ?_
  refine ws_set 3 sc.nd ?_
  refine we_bin od_mod ?_
  refine we_callT cd_int (C.fr 65) ?_
  refine wa_cons ?_
  refine we_bin od_add ?_
  refine we_bin od_add ?_
  refine we_bin od_mul ?_
  refine we_var 2 rfl ?_
  refine we_var 2 rfl ?_
  refine b_mul (.inl ⟨by omega, by omega⟩) ?_
  refine we_bin od_mul ?_
  refine we_var 1 rfl ?_
  refine we_int ?_
  refine b_mul (.inr ⟨by decide, by decide⟩) ?_
  refine b_addI ?_
  refine we_bin od_div ?_
  refine we_var 2 rfl ?_
  refine we_int ?_
  refine b_i (show CDiv _ _ from ⟨by decide, by decide⟩) ?_
  refine b_addI ?_
  refine wa_nil ?_
  refine c_int ?_
  refine we_int ?_
  refine b_i (show (0 : Int) < 2147483399 by decide) ?_
  refine wss_one ?_
  refine ws_ret ?_
  refine we_bin od_mod ?_
  refine we_callT cd_int (C.fr 65) ?_
  refine wa_cons ?_
  refine we_bin od_add ?_
  refine we_bin od_add ?_
  refine we_bin od_mul ?_
  refine we_var 3 rfl ?_
  refine we_int ?_
  refine b_mul (.inr ⟨by decide, by decide⟩) ?_
  refine we_bin od_div ?_
  refine we_var 3 rfl ?_
  refine we_int ?_
  refine b_i (show CDiv _ _ from ⟨by decide, by decide⟩) ?_
  refine b_addI ?_
  refine we_var 1 rfl ?_
  refine b_addI ?_
  refine wa_nil ?_
  refine c_int ?_
  refine we_int ?_
  refine b_i (show (0 : Int) < 998244353 by decide) ?_
  exact ⟨_, Sub.refl _, p _⟩
def bagL (c c2 : Addr) (i v n m k : Int) : List D := [.ref c, .int i, .int v, .int n, .int m, .int k, .ref c2]
structure BA where
  (b c e : Addr)
def Bag (M : Mem) (B : BA) : Prop := ∃ (i v n m k : Int) (cs es : List Int), M B.b = some (.lst (bagL B.c B.e i v n m k)) ∧ M B.c = some (.lst (cs.map D.int)) ∧ M B.e = some (.lst (es.map D.int)) ∧ es.length = cs.length ∧ B.c ≠ B.b ∧ B.e ≠ B.b ∧ 0 ≤ i ∧ cs.length ≤ 63
/-- the bag b may change, new objects may come -/
def Bf (b : Addr) (M M' : Mem) : Prop := ∀ x m, x ≠ b → M x = some m → M' x = some m
theorem Bf.refl {b : Addr} (M : Mem) : Bf b M M := fun _ _ _ h => h
theorem Bf.trans {b : Addr} {M M1 M2 : Mem} (f : Bf b M M1) (g : Bf b M1 M2) : Bf b M M2 := fun x m n e => g x m n (f x m n e)
theorem Bf.sub {b : Addr} {M M1 : Mem} (h : Sub M M1) : Bf b M M1 := fun x m _ e => h x m e
theorem Bf.new {b q : Addr} {M : Mem} {m : MO} (h : M q = none) : Bf b M (put M q m) := Bf.sub (Sub.put h)
theorem Bf.put {b : Addr} {M : Mem} {m : MO} : Bf b M (DL.put M b m) := fun x u n e => (put_ne n).trans e
theorem Bag.fr {B : BA} {M M1 : Mem} (h : Bag M B) (s : ∀ x ∈ [B.b, B.c, B.e], M1 x = M x) : Bag M1 B := let ⟨i, v, n, m, k, cs, es, e1, e2, e3, r⟩ := h; ⟨i, v, n, m, k, cs, es, (s _ (by simp)).trans e1, (s _ (by simp)).trans e2, (s _ (by simp)).trans e3, r⟩
theorem Bag.df {B : BA} {M : Mem} (h : Bag M B) : ∀ x ∈ [B.b, B.c, B.e], M x ≠ none := fun x hx => by
  obtain ⟨i, v, n, m, k, cs, es, e1, e2, e3, r⟩ := h
  simp only [List.mem_cons, List.not_mem_nil, or_false] at hx
  rcases hx with rfl | rfl | rfl
  · rw [e1]; exact fun z => by cases z
  · rw [e2]; exact fun z => by cases z
  · rw [e3]; exact fun z => by cases z
theorem Bag.sub {B : BA} {M M1 : Mem} (h : Bag M B) (s : Sub M M1) : Bag M1 B := h.fr fun x hx => by
  cases e : M x with
  | none => exact absurd e (h.df x hx)
  | some u => exact s x u e
theorem Bag.put {B : BA} {q : Addr} {M M1 : Mem} {m : MO} (h : Bag M B) (f : Bag M1 B) (hq : M q = none) : Bag (DL.put M1 q m) B := f.fr fun x hx => put_ne fun e => h.df x hx (e ▸ hq)
/-- put at an object that is none of the bag's -/
theorem Bag.put2 {B : BA} {q : Addr} {M : Mem} {m : MO} (h : Bag M B) (hq : q ∉ [B.b, B.c, B.e]) : Bag (DL.put M q m) B := h.fr fun x hx => put_ne fun e => hq (e ▸ hx)
def sp_law_draw : DSp := fun ds M P R => ∃ (B : BA) (lim : Int), ds = [.ref B.b, .int lim] ∧ Bag M B ∧ 0 < lim ∧ lim < 1000000000 ∧ ∀ (v : Int) M', 0 ≤ v → v < lim → Bag M' B → (∀ x, x ≠ B.b → M' x = M x) → P (.int v) M'
theorem sc_law_draw : FnScope ["bag", "limit", "cells", "found", "cell"] ["bag", "limit"] (defScope (Hd.topS 18)) := ⟨rfl, rfl, rfl, by decide +kernel, rfl, by decide +kernel, by decide +kernel⟩
theorem ok_law_draw (C : Ct K mg base) : DefOk P w K mg base CX0 2 "_law_draw" ["bag", "limit"] sp_law_draw := by
  refine C.df 13 13 (d := Hd.d_law_draw) rfl rfl rfl (fun _ _ _ _ _ _ us hl => match us, hl with | [_, _], _ => rfl) fun f fd F => fn_ok F sc_law_draw (by rintro _ _ _ _ ⟨_, _, rfl, _⟩; rfl) ?_
  intro cdv A outer s H E ds M Q R hr ⟨⟨b, c, c2⟩, lim, eds, ⟨i, v, n, m, k, cs, es, eb, ec, ee, hle, ncb, neb, hi, hcs⟩, hl0, hl1, kk⟩
  subst eds
  simp only at eb ec ee ncb neb kk
  have sc := sc_law_draw
  have fin : ∀ {x : Int} {i v n m k : Int}, 0 ≤ i → Q (.int (x % lim)) (put M b (.lst (bagL c c2 i v n m k))) := fun {x i v n m k} h => kk _ _ (Int.emod_nonneg _ (by omega)) (Int.emod_lt_of_pos _ hl0) ⟨i, v, n, m, k, cs, es, put_same, (put_ne ncb).trans ec, (put_ne neb).trans ee, hle, ncb, neb, h, hcs⟩ fun x hx => put_ne hx
  have atc : ∀ {l}, (put M b (.lst l)) c = some (.lst (cs.map D.int)) := fun {l} => (put_ne ncb).trans ec
  have ate : ∀ {l}, (put M b (.lst l)) c2 = some (.lst (es.map D.int)) := fun {l} => (put_ne neb).trans ee
  refine wss_cons ?_
  refine ws_asg ?_
  refine we_bin od_add ?_
  refine we_sub ?_
  refine we_var 0 rfl ?_
  refine we_int ?_
  refine i_lst eb rfl ?_
  refine we_int ?_
  refine b_addI ?_
  refine wg_lsub ?_
  refine we_var 0 rfl ?_
  refine we_int ?_
  refine ⟨_, _, 3, rfl, eb, rfl, Nat.le_of_ble_eq_true rfl, ?_⟩
  show WSs _ _ _ (put M b (.lst (bagL c c2 i v (n + 1) m k))) _
  generalize n + 1 = n
  refine wss_cons ?_
  refine ws_set 2 sc.nd ?_
  refine we_sub ?_
  refine we_var 0 rfl ?_
  refine we_int ?_
  refine i_lst put_same rfl ?_
  refine wss_cons ?_
  refine ws_if ?_
  refine wt_cmp od_eq ?_
  refine we_callB cd_len (C.fr 67) ?_
  refine wa_cons ?_
  refine we_var 2 rfl ?_
  refine wa_nil ?_
  refine c_len ⟨_, atc, rfl⟩ ?_
  rw [List.length_map]
  refine we_int ?_
  refine b_eqI ?_
  refine t_bl ?_
  refine ⟨fun hk => ?_, fun hk => ?_⟩
  · refine wss_one ?_
    refine ws_ret ?_
    refine we_bin od_mod ?_
    refine we_callT cd_int (C.fr 65) ?_
    refine wa_cons ?_
    refine we_call (ok_law_mixed C) hr ?_
    refine wa_cons ?_
    refine we_int ?_
    refine wa_cons ?_
    refine we_sub ?_
    refine we_var 0 rfl ?_
    refine we_int ?_
    refine i_lst put_same rfl ?_
    refine wa_nil ?_
    refine ⟨_, _, rfl, fun u => ?_⟩
    refine wa_nil ?_
    refine c_int ?_
    refine we_var 1 rfl ?_
    refine b_i hl0 ?_
    exact ⟨_, Sub.refl _, fin hi⟩
  refine wss_nil ?_
  have hcs0 : 0 < cs.length := by have := of_decide_eq_false hk; omega
  refine wss_cons ?_
  refine WS.nxt (fun (Γ' : Sl) (M' : Mem) => ∃ i v k x4, 0 ≤ i ∧ Γ' = [some (D.ref b), some (D.int lim), some (D.ref c), none, x4] ∧ M' = put M b (.lst (bagL c c2 i v n m k))) ?_ ?_
  · have out : ∀ {G : Sl} {M' : Mem}, G = [some (D.ref b), some (D.int lim), some (D.ref c), none, none] → M' = put M b (.lst (bagL c c2 i v n m k)) → ∃ i v k x4, 0 ≤ i ∧ G = [some (D.ref b), some (D.int lim), some (D.ref c), none, x4] ∧ M' = put M b (.lst (bagL c c2 i v n m k)) := fun {G M'} e1 e2 => ⟨i, v, k, none, hi, e1, e2⟩
    refine ws_if ?_
    refine wt_ww ?_
    refine ww_and ?_
    refine wt_cmp od_eq ?_
    refine we_sub ?_
    refine we_var 0 rfl ?_
    refine we_int ?_
    refine i_lst put_same rfl ?_
    refine we_int ?_
    refine b_eqI ?_
    refine t_bl ?_
    refine ⟨fun hk1 => ?_, fun hk1 => ⟨fun z => (nomatch z), fun _ => wss_nil (out rfl rfl)⟩⟩
    refine ww_and ?_
    refine wt_cmp od_eq ?_
    refine we_sub ?_
    refine we_var 0 rfl ?_
    refine we_int ?_
    refine i_lst put_same rfl ?_
    refine we_int ?_
    refine b_eqI ?_
    refine t_bl ?_
    refine ⟨fun hk2 => ?_, fun hk2 => ⟨fun z => (nomatch z), fun _ => wss_nil (out rfl rfl)⟩⟩
    refine ww_and1 ?_
    refine wt_cmp od_lt ?_
    refine we_sub ?_
    refine we_var 0 rfl ?_
    refine we_int ?_
    refine i_lst put_same rfl ?_
    refine we_callB cd_len (C.fr 67) ?_
    refine wa_cons ?_
    refine we_var 2 rfl ?_
    refine wa_nil ?_
    refine c_len ⟨_, atc, rfl⟩ ?_
    rw [List.length_map]
    refine b_cmp ?_
    refine t_bl ?_
    refine ⟨fun hk3 => ?_, fun hk3 => wss_nil (out rfl rfl)⟩
    have hlt : i < (cs.length : Int) := of_decide_eq_true hk3
    have ei : i = (i.toNat : Int) := by omega
    obtain ⟨cell, ecell⟩ : ∃ x, cs[i.toNat]? = some x := ⟨_, List.getElem?_eq_getElem (by omega)⟩
    refine wss_cons ?_
    refine ws_set 4 sc.nd ?_
    refine we_sub ?_
    refine we_var 2 rfl ?_
    refine we_sub ?_
    refine we_var 0 rfl ?_
    refine we_int ?_
    refine i_lst put_same rfl ?_
    refine i_lst atc (by rw [ei]; exact atI_nat (map_at ecell)) ?_
    refine wss_cons ?_
    refine ws_asg ?_
    refine we_bin od_add ?_
    refine we_sub ?_
    refine we_var 0 rfl ?_
    refine we_int ?_
    refine i_lst put_same rfl ?_
    refine we_int ?_
    refine b_addI ?_
    refine wg_lsub ?_
    refine we_var 0 rfl ?_
    refine we_int ?_
    refine ⟨_, _, 1, rfl, put_same, rfl, Nat.le_of_ble_eq_true rfl, ?_⟩
    rw [put_put]
    show WSs _ _ _ (put M b (.lst (bagL c c2 (i + 1) v n m k))) _
    have hi1 : 0 ≤ i + 1 := by omega
    generalize i + 1 = i1 at hi1 ⊢
    refine wss_cons ?_
    refine ws_if ?_
    refine wt_cmp od_lt ?_
    refine we_var 4 rfl ?_
    refine we_bin od_pow ?_
    refine we_int ?_
    refine we_int ?_
    refine b_i (show CPow _ _ from ⟨by decide, by decide, by decide⟩) ?_
    refine b_cmp ?_
    refine t_bl ?_
    refine ⟨fun hk4 => ?_, fun hk4 => ?_⟩
    · refine wss_one ?_
      refine ws_ret ?_
      refine we_bin od_mod ?_
      refine we_callT cd_int (C.fr 65) ?_
      refine wa_cons ?_
      refine we_call (ok_law_mixed C) hr ?_
      refine wa_cons ?_
      refine we_var 4 rfl ?_
      refine wa_cons ?_
      refine we_sub ?_
      refine we_var 0 rfl ?_
      refine we_int ?_
      refine i_lst put_same rfl ?_
      refine wa_nil ?_
      refine ⟨_, _, rfl, fun u => ?_⟩
      refine wa_nil ?_
      refine c_int ?_
      refine we_var 1 rfl ?_
      refine b_i hl0 ?_
      exact ⟨_, Sub.refl _, fin hi1⟩
    · refine wss_nil ?_
      refine wss_cons ?_
      refine ws_asg ?_
      refine we_var 4 rfl ?_
      refine wg_lsub ?_
      refine we_var 0 rfl ?_
      refine we_int ?_
      refine ⟨_, _, 2, rfl, put_same, rfl, Nat.le_of_ble_eq_true rfl, ?_⟩
      rw [put_put]
      show WSs _ _ _ (put M b (.lst (bagL c c2 i1 cell n m k))) _
      refine wss_one ?_
      refine ws_asg ?_
      refine we_int ?_
      refine wg_lsub ?_
      refine we_var 0 rfl ?_
      refine we_int ?_
      refine ⟨_, _, 5, rfl, put_same, rfl, Nat.le_of_ble_eq_true rfl, ?_⟩
      rw [put_put]
      exact ⟨i1, cell, 60, _, hi1, rfl, rfl⟩
  clear hi
  rintro _ _ ⟨i, v, k, x4, hi, rfl, rfl⟩
  refine wss_cons ?_
  have hidx : ∀ x : Int, ∃ y, atI (es.map D.int) (x % (cs.length : Int)) = some (.int y) := fun x => by
    have h1 := Int.emod_nonneg x (show (cs.length : Int) ≠ 0 by omega)
    have h2 := Int.emod_lt_of_pos x (show (0 : Int) < (cs.length : Int) by omega)
    obtain ⟨y, ey⟩ : ∃ y, es[(x % (cs.length : Int)).toNat]? = some y := ⟨_, List.getElem?_eq_getElem (by omega)⟩
    exact ⟨y, by rw [show x % (cs.length : Int) = ((x % (cs.length : Int)).toNat : Int) by omega]; exact atI_nat (map_at ey)⟩
  have early : ∀ (Y : Cx) (E' : DE) (st : List Stmt), True := fun _ _ _ => trivial
  refine WS.nxt (fun (Γ' : Sl) (M' : Mem) => Γ' = [some (D.ref b), some (D.int lim), some (D.ref c), none, x4] ∧ M' = put M b (.lst (bagL c c2 i v n m k))) ?_ ?_
  · refine ws_if ?_
    refine WT.imp (PT := fun k' M' => M' = put M b (.lst (bagL c c2 i v n m k))) ?_ ?_
    · refine wt_ww ?_
      refine ww_or ?_
      refine wt_cmp od_eq ?_
      refine we_sub ?_
      refine we_var 0 rfl ?_
      refine we_int ?_
      refine i_lst put_same rfl ?_
      refine we_int ?_
      refine b_eqI ?_
      refine t_bl ?_
      refine ⟨fun hk1 => ?_, fun _ => rfl⟩
      refine ww_or1 ?_
      refine wt_cmp od_eq ?_
      refine we_sub ?_
      refine we_var 0 rfl ?_
      refine we_int ?_
      refine i_lst put_same rfl ?_
      refine we_int ?_
      refine b_eqI ?_
      refine t_bl ?_
      rfl
    rintro k' _ rfl
    refine ⟨fun _ => ?_, fun _ => wss_nil ⟨rfl, rfl⟩⟩
    obtain ⟨y, ey⟩ := hidx n
    refine wss_one ?_
    refine ws_ret ?_
    refine we_bin od_mod ?_
    refine we_callT cd_int (C.fr 65) ?_
    refine wa_cons ?_
    refine we_call (ok_law_mixed C) hr ?_
    refine wa_cons ?_
    refine we_sub ?_
    refine we_sub ?_
    refine we_var 0 rfl ?_
    refine we_int ?_
    refine i_lst put_same rfl ?_
    refine we_bin od_mod ?_
    refine we_callT cd_int (C.fr 65) ?_
    refine wa_cons ?_
    refine we_sub ?_
    refine we_var 0 rfl ?_
    refine we_int ?_
    refine i_lst put_same rfl ?_
    refine wa_nil ?_
    refine c_int ?_
    refine we_callB cd_len (C.fr 67) ?_
    refine wa_cons ?_
    refine we_var 2 rfl ?_
    refine wa_nil ?_
    refine c_len ⟨_, atc, rfl⟩ ?_
    rw [List.length_map]
    refine b_i (show (0 : Int) < (cs.length : Int) by omega) ?_
    refine i_lst ate ey ?_
    refine wa_cons ?_
    refine we_sub ?_
    refine we_var 0 rfl ?_
    refine we_int ?_
    refine i_lst put_same rfl ?_
    refine wa_nil ?_
    refine ⟨_, _, rfl, fun u => ?_⟩
    refine wa_nil ?_
    refine c_int ?_
    refine we_var 1 rfl ?_
    refine b_i hl0 ?_
    exact ⟨_, Sub.refl _, fin hi⟩
  rintro _ _ ⟨rfl, rfl⟩
  refine wss_cons ?_
  refine ws_set 3 sc.nd ?_
  refine we_bin od_mod ?_
  refine we_callT cd_int (C.fr 65) ?_
  refine wa_cons ?_
  refine we_sub ?_
  refine we_var 0 rfl ?_
  refine we_int ?_
  refine i_lst put_same rfl ?_
  refine wa_nil ?_
  refine c_int ?_
  refine we_var 1 rfl ?_
  refine b_i hl0 ?_
  refine wss_cons ?_
  refine ws_asg ?_
  refine we_bin od_sub ?_
  refine we_sub ?_
  refine we_var 0 rfl ?_
  refine we_int ?_
  refine i_lst put_same rfl ?_
  refine we_int ?_
  refine b_sub ?_
  refine wg_lsub ?_
  refine we_var 0 rfl ?_
  refine we_int ?_
  refine ⟨_, _, 5, rfl, put_same, rfl, Nat.le_of_ble_eq_true rfl, ?_⟩
  rw [put_put]
  show WSs _ _ _ (put M b (.lst (bagL c c2 i v n m (k - 1)))) _
  refine wss_cons ?_
  refine ws_asg ?_
  refine we_bin od_mul ?_
  refine we_bin od_div ?_
  refine we_callT cd_int (C.fr 65) ?_
  refine wa_cons ?_
  refine we_sub ?_
  refine we_var 0 rfl ?_
  refine we_int ?_
  refine i_lst put_same rfl ?_
  refine wa_nil ?_
  refine c_int ?_
  refine we_var 1 rfl ?_
  refine b_i (show CDiv _ _ from ⟨hl0, by omega⟩) ?_
  refine we_callT cd_int (C.fr 65) ?_
  refine wa_cons ?_
  refine we_cmp od_gt ?_
  refine we_sub ?_
  refine we_var 0 rfl ?_
  refine we_int ?_
  refine i_lst put_same rfl ?_
  refine we_int ?_
  refine b_cmp ?_
  refine wa_nil ?_
  refine c_intB ?_
  refine b_mul (.inr ⟨by split <;> decide, by split <;> decide⟩) ?_
  refine wg_lsub ?_
  refine we_var 0 rfl ?_
  refine we_int ?_
  refine ⟨_, _, 2, rfl, put_same, rfl, Nat.le_of_ble_eq_true rfl, ?_⟩
  rw [put_put]
  refine wss_one ?_
  refine ws_ret ?_
  refine we_var 3 rfl ?_
  exact ⟨_, Sub.refl _, fin hi⟩
end
end K81

set_option Elab.async false
set_option linter.all false
set_option maxRecDepth 100000
set_option maxHeartbeats 4000000
namespace K81
open PySem PySem.Spec PyProof.Rows L2 DL
theorem Bf.of_eq {b : Addr} {M M1 : Mem} (h : ∀ x, x ≠ b → M1 x = M x) : Bf b M M1 := fun x m n e => (h x n).trans e
section
variable {P : Program} {w : World} {K : PySem.W.Frag} {mg : Str → Option Value} {base : Heap}
/-! ### _law_pick -/
def sp_law_pick : DSp := fun ds M P R => ∃ (B : BA) (a : Addr) (xs : List Int), ds = [.ref B.b, .ref a] ∧ Bag M B ∧ a ≠ B.b ∧ M a = some (.lst (xs.map D.int)) ∧ 0 < xs.length ∧ xs.length ≤ 1000 ∧ ∀ (x : Int) M', x ∈ xs → Bag M' B → Bf B.b M M' → P (.int x) M'
theorem sc_law_pick : FnScope ["bag", "some"] ["bag", "some"] (defScope (Hd.topS 21)) := ⟨rfl, rfl, rfl, by decide +kernel, rfl, by decide +kernel, by decide +kernel⟩
theorem ok_law_pick (C : Ct K mg base) : DefOk P w K mg base CX0 3 "_law_pick" ["bag", "some"] sp_law_pick := by
  refine C.df 16 16 (d := Hd.d_law_pick) rfl rfl rfl (fun _ _ _ _ _ _ us hl => match us, hl with | [_, _], _ => rfl) fun f fd F => fn_ok F sc_law_pick (by rintro _ _ _ _ ⟨_, _, _, rfl, _⟩; rfl) ?_
  intro cdv Ar outer s H E ds M Q R hr ⟨B, a, xs, eds, hB, hab, ha, h0, h1, kk⟩
  subst eds
  refine wss_one (ws_ret ?_)
  refine we_sub ?_
  refine we_var 1 rfl ?_
  refine we_call (ok_law_draw C) hr ?_
  refine wa_cons ?_
  refine we_var 0 rfl ?_
  refine wa_cons ?_
  refine we_callB cd_len (C.fr 67) ?_
  refine wa_cons ?_
  refine we_var 1 rfl ?_
  refine wa_nil ?_
  refine c_len ⟨_, ha, rfl⟩ ?_
  rw [List.length_map]
  refine wa_nil ?_
  refine ⟨B, _, rfl, hB, by omega, by omega, fun v M' v0 v1 hB' hM' => ?_⟩
  obtain ⟨x, ex⟩ : ∃ x, xs[v.toNat]? = some x := ⟨_, List.getElem?_eq_getElem (by omega)⟩
  refine i_lst ((hM' a hab).trans ha) (by rw [show v = (v.toNat : Int) by omega]; exact atI_nat (map_at ex)) ?_
  exact ⟨_, Sub.refl _, kk x M' (List.mem_of_getElem? ex) hB' (Bf.of_eq hM')⟩
/-! ### _law_bound -/
structure Bnd.In (b : Bnd) (f : Int) : Prop where
  lo : 1 ≤ b.lo
  hi : 1 ≤ b.hi
  low : 1 ≤ b.low
  high : 1 ≤ b.high
  f0 : 1 ≤ b.fails
  f1 : b.fails ≤ f
  lo1 : b.lo ≤ 2000
  hi1 : b.hi ≤ 2000
  low1 : b.low ≤ 2000
  high1 : b.high ≤ 2000
  ex0 : 0 ≤ b.extra
  ex1 : b.extra ≤ 2000
def sp_law_bound : DSp := fun ds M P R => ∃ (B : BA) (most fails : Int), ds = [.ref B.b, .int most, .int fails] ∧ Bag M B ∧ 0 < most ∧ most ≤ 1000 ∧ 0 < fails ∧ fails ≤ 1000 ∧ ∀ (b : Bnd) M', b.In fails → Bag M' B → Bf B.b M M' → P (dBnd b) M'
theorem sc_law_bound : FnScope ["bag", "most", "fails", "wide", "lo", "low", "hi", "high"] ["bag", "most", "fails"] (defScope (Hd.topS 22)) := ⟨rfl, rfl, rfl, by decide +kernel, rfl, by decide +kernel, by decide +kernel⟩
theorem ok_law_bound (C : Ct K mg base) : DefOk P w K mg base CX0 4 "_law_bound" ["bag", "most", "fails"] sp_law_bound := by
  refine C.df 17 17 (d := Hd.d_law_bound) rfl rfl rfl (fun _ _ _ _ _ _ us hl => match us, hl with | [_, _, _], _ => rfl) fun f fd F => fn_ok F sc_law_bound (by rintro _ _ _ _ ⟨_, _, _, rfl, _⟩; rfl) ?_
  intro cdv Ar outer s H E ds M Q R hr ⟨B, most, fails, eds, hB, m0, m1, f0, f1, kk⟩
  subst eds
  have sc := sc_law_bound
  refine wss_cons ?_
  refine ws_par 4 5 rfl sc.nd ?_
  refine wa_cons ?_
  refine we_bin od_add ?_
  refine we_int ?_
  refine we_call (ok_law_draw C) hr ?_
  refine wa_cons ?_
  refine we_var 0 rfl ?_
  refine wa_cons ?_
  refine we_var 1 rfl ?_
  refine wa_nil ?_
  refine ⟨B, _, rfl, hB, by omega, by omega, fun lo M1 l0 l1 hB1 e1 => ?_⟩
  refine b_addI ?_
  refine wa_cons ?_
  refine we_bin od_add ?_
  refine we_int ?_
  refine we_call (ok_law_draw C) hr ?_
  refine wa_cons ?_
  refine we_var 0 rfl ?_
  refine wa_cons ?_
  refine we_var 1 rfl ?_
  refine wa_nil ?_
  refine ⟨B, _, rfl, hB1, by omega, by omega, fun low M2 w0 w1 hB2 e2 => ?_⟩
  refine b_addI ?_
  refine wa_nil ?_
  refine ⟨_, _, rfl, ?_⟩
  refine wss_cons ?_
  refine ws_set 3 sc.nd ?_
  refine we_call (ok_law_pick C) hr ?_
  refine wa_cons ?_
  refine we_var 0 rfl ?_
  refine wa_cons ?_
  refine we_lst ?_
  refine wa_cons ?_
  refine we_int ?_
  refine wa_cons ?_
  refine we_int ?_
  refine wa_cons ?_
  refine we_var 1 rfl ?_
  refine wa_nil ?_
  refine ⟨size_ok (by simp), fun p hp => ?_⟩
  refine wa_nil ?_
  have hpb : p ≠ B.b := fun e => hB2.df B.b (by simp) (e ▸ hp)
  refine ⟨B, p, [0, 1, most], rfl, hB2.put hB2 hp, hpb, put_same, by simp, by simp, fun wide M3 hw hB3 e3 => ?_⟩
  have hw' : 0 ≤ wide ∧ wide ≤ 1000 := by
    simp only [List.mem_cons, List.not_mem_nil, or_false] at hw
    rcases hw with rfl | rfl | rfl <;> omega
  have f3 : Bf B.b M M3 := ((Bf.of_eq e1).trans (Bf.of_eq e2)).trans ((Bf.new hp).trans e3)
  refine wss_cons ?_
  refine ws_par 6 7 rfl sc.nd ?_
  refine wa_cons ?_
  refine we_callB (cd_min rfl) (C.fr 70) ?_
  refine wa_cons ?_
  refine we_int ?_
  refine wa_cons ?_
  refine we_bin od_add ?_
  refine we_var 4 rfl ?_
  refine we_call (ok_law_draw C) hr ?_
  refine wa_cons ?_
  refine we_var 0 rfl ?_
  refine wa_cons ?_
  refine we_bin od_add ?_
  refine we_var 3 rfl ?_
  refine we_int ?_
  refine b_addI ?_
  refine wa_nil ?_
  refine ⟨B, _, rfl, hB3, by omega, by omega, fun x4 M4 x40 x41 hB4 e4 => ?_⟩
  refine b_addI ?_
  refine wa_nil ?_
  refine c_min ?_
  refine wa_cons ?_
  refine we_callB (cd_min rfl) (C.fr 70) ?_
  refine wa_cons ?_
  refine we_int ?_
  refine wa_cons ?_
  refine we_bin od_add ?_
  refine we_var 5 rfl ?_
  refine we_call (ok_law_draw C) hr ?_
  refine wa_cons ?_
  refine we_var 0 rfl ?_
  refine wa_cons ?_
  refine we_bin od_add ?_
  refine we_var 3 rfl ?_
  refine we_int ?_
  refine b_addI ?_
  refine wa_nil ?_
  refine ⟨B, _, rfl, hB4, by omega, by omega, fun x5 M5 x50 x51 hB5 e5 => ?_⟩
  refine b_addI ?_
  refine wa_nil ?_
  refine c_min ?_
  refine wa_nil ?_
  refine ⟨_, _, rfl, ?_⟩
  refine wss_one ?_
  refine ws_ret ?_
  refine we_tup ?_
  refine wa_cons ?_
  refine we_var 4 rfl ?_
  refine wa_cons ?_
  refine we_var 6 rfl ?_
  refine wa_cons ?_
  refine we_var 5 rfl ?_
  refine wa_cons ?_
  refine we_var 7 rfl ?_
  refine wa_cons ?_
  refine we_bin od_add ?_
  refine we_int ?_
  refine we_call (ok_law_draw C) hr ?_
  refine wa_cons ?_
  refine we_var 0 rfl ?_
  refine wa_cons ?_
  refine we_var 2 rfl ?_
  refine wa_nil ?_
  refine ⟨B, _, rfl, hB5, by omega, by omega, fun x6 M6 x60 x61 hB6 e6 => ?_⟩
  refine b_addI ?_
  refine wa_cons ?_
  refine we_bin od_add ?_
  refine we_int ?_
  refine we_call (ok_law_draw C) hr ?_
  refine wa_cons ?_
  refine we_var 0 rfl ?_
  refine wa_cons ?_
  refine we_int ?_
  refine wa_nil ?_
  refine ⟨B, _, rfl, hB6, by omega, by omega, fun x7 M7 x70 x71 hB7 e7 => ?_⟩
  refine b_addI ?_
  refine wa_nil ?_
  refine ⟨size_ok (by simp), _, Sub.refl _, kk ⟨1 + lo, min 60 (1 + lo + x4), 1 + low, min 60 (1 + low + x5), 1 + x6, 1 + x7⟩ M7 ⟨?_, ?_, ?_, ?_, ?_, ?_, ?_, ?_, ?_, ?_, ?_, ?_⟩ hB7 ?_⟩
  · show 1 ≤ 1 + lo; omega
  · show 1 ≤ min 60 (1 + lo + x4); omega
  · show 1 ≤ 1 + low; omega
  · show 1 ≤ min 60 (1 + low + x5); omega
  · show 1 ≤ 1 + x6; omega
  · show 1 + x6 ≤ fails; omega
  · show 1 + lo ≤ 2000; omega
  · show min 60 (1 + lo + x4) ≤ 2000; omega
  · show 1 + low ≤ 2000; omega
  · show min 60 (1 + low + x5) ≤ 2000; omega
  · show 0 ≤ 1 + x7; omega
  · show 1 + x7 ≤ 2000; omega
  · exact f3.trans ((((Bf.of_eq e4).trans (Bf.of_eq e5)).trans (Bf.of_eq e6)).trans (Bf.of_eq e7))
/-! ### _law_way -/
theorem Bag.ne {B : BA} {M : Mem} {p : Addr} (h : Bag M B) (hp : M p = none) : p ∉ [B.b, B.c, B.e] := fun hx => h.df p hx hp
def sp_law_way : DSp := fun ds M P R => ∃ (B : BA) (wa ra : Addr) (ws rs : List Int) (lanes : Int), ds = [.ref B.b, .ref wa, .int lanes, .ref ra] ∧ Bag M B ∧ wa ≠ B.b ∧ ra ≠ B.b ∧ M wa = some (.lst (ws.map D.int)) ∧ M ra = some (.lst (rs.map D.int)) ∧ 0 < ws.length ∧ ws.length ≤ 1000 ∧ 0 < rs.length ∧ rs.length ≤ 1000 ∧ (∀ x ∈ ws, 0 < x ∧ x < 1000) ∧ (∀ x ∈ rs, 0 < x) ∧ 0 < lanes ∧ lanes < 1000 ∧
  ∀ (wy : Way) M', wy.Ok → wy.wheel ∈ ws → wy.reach ∈ rs → (wy.slots.length : Int) ≤ lanes → Bag M' B → Bf B.b M M' → P (dWay wy) M'
theorem sc_law_way : FnScope ["bag", "wheels", "lanes", "reaches", "wheel", "slots", "k"] ["bag", "wheels", "lanes", "reaches"] (defScope (Hd.topS 23)) := ⟨rfl, rfl, rfl, by decide +kernel, rfl, by decide +kernel, by decide +kernel⟩
theorem ok_law_way (C : Ct K mg base) : DefOk P w K mg base CX0 4 "_law_way" ["bag", "wheels", "lanes", "reaches"] sp_law_way := by
  refine C.df 18 18 (d := Hd.d_law_way) rfl rfl rfl (fun _ _ _ _ _ _ us hl => match us, hl with | [_, _, _, _], _ => rfl) fun f fd F => fn_ok F sc_law_way (by rintro _ _ _ _ ⟨_, _, _, _, _, _, rfl, _⟩; rfl) ?_
  intro cdv Ar outer s H E ds M Q R hr ⟨B, wa, ra, ws, rs, lanes, eds, hB, nwa, nra, hwa, hra, w0, w1, r0, r1, hws, hrs, l0, l1, kk⟩
  subst eds
  have sc := sc_law_way
  refine wss_cons ?_
  refine ws_set 4 sc.nd ?_
  refine we_call (ok_law_pick C) hr ?_
  refine wa_cons ?_
  refine we_var 0 rfl ?_
  refine wa_cons ?_
  refine we_var 1 rfl ?_
  refine wa_nil ?_
  refine ⟨B, wa, ws, rfl, hB, nwa, hwa, w0, w1, fun wh M1 hwh hB1 f1 => ?_⟩
  have hw := hws wh hwh
  refine wss_cons ?_
  refine ws_set 5 sc.nd ?_
  refine we_callT cd_tuple (C.fr 75) ?_
  refine wa_cons ?_
  refine we_lcG (own := [("k", 6)]) rfl sc.nd (blkOk_by (own := [("k", 6)]) (N := ["bag", "wheels", "lanes", "reaches", "wheel", "slots", "k"]) (sc := defScope (Hd.topS 23)) (by decide +kernel)) rfl gt_name (fun _ _ _ _ _ => pg_name (i := 6) sc.nd rfl (Or.inl rfl)) ?_
  refine wi_range1 (C.fr 71) ?_
  refine we_bin od_add ?_
  refine we_int ?_
  refine we_call (ok_law_draw C) hr ?_
  refine wa_cons ?_
  refine we_var 0 rfl ?_
  refine wa_cons ?_
  refine we_var 2 rfl ?_
  refine wa_nil ?_
  refine ⟨B, _, rfl, hB1, by omega, by omega, fun n M2 n0 n1 hB2 e2 => ?_⟩
  refine b_addI ?_
  refine ⟨_, rfl, by omega, by omega, fun p hp => ?_⟩
  have f2 : Bf B.b M M2 := f1.trans (Bf.of_eq e2)
  have hpb := hB2.ne hp
  refine ⟨fun _ _ => trivial, fun k M' => Bag M' B ∧ Bf B.b M2 M' ∧ ∃ l : List Int, l.length = k ∧ (∀ x ∈ l, 0 ≤ x ∧ x < wh) ∧ M' p = some (.lst (l.map D.int)), ⟨hB2.put hB2 hp, Bf.new hp, [], rfl, fun _ h => (nomatch h), put_same⟩, fun _ _ _ _ => trivial, ?_, ?_⟩
  · rintro k dd M3 hdd ⟨hB3, f3, l, hl, hl2, hp3⟩ s H Ca cl fp
    have hk := (List.getElem?_eq_some_iff.mp hdd).1
    rw [rg1_len] at hk
    refine we_call (ok_law_draw C) hr ?_
    refine wa_cons ?_
    refine we_var 0 rfl ?_
    refine wa_cons ?_
    refine we_var 4 rfl ?_
    refine wa_nil ?_
    refine ⟨B, _, rfl, hB3, by omega, by omega, fun v M4 v0 v1 hB4 e4 => ?_⟩
    have npb : p ≠ B.b := fun e => hpb (by simp [e])
    refine ⟨l.map D.int, (e4 p npb).trans hp3, by rw [sizeLine_eq, List.length_map]; omega, hB4.put2 hpb, fun x m n e => ?_, l ++ [v], by simp [hl], ?_, ?_⟩
    · have hx : x ≠ p := nn e hp
      rw [put_ne hx, e4 x n]
      exact f3 x m n e
    · intro x hx
      rcases List.mem_append.mp hx with h | h
      · exact hl2 x h
      · rw [List.mem_singleton.mp h]; exact ⟨v0, v1⟩
    · rw [put_same, List.map_append]; rfl
  · rintro M3 ⟨hB3, f3, l, hl, hl2, hp3⟩
    rw [rg1_len] at hl
    refine wa_nil ?_
    refine c_tupL hp3 ?_
    refine wss_one ?_
    refine ws_ret ?_
    refine we_tup ?_
    refine wa_cons ?_
    refine we_var 4 rfl ?_
    refine wa_cons ?_
    refine we_var 5 rfl ?_
    refine wa_cons ?_
    refine we_call (ok_law_pick C) hr ?_
    refine wa_cons ?_
    refine we_var 0 rfl ?_
    refine wa_cons ?_
    refine we_var 3 rfl ?_
    refine wa_nil ?_
    refine ⟨B, ra, rs, rfl, hB3, nra, f3 _ _ nra (f2 _ _ nra hra), r0, r1, fun rch M4 hrch hB4 f4 => ?_⟩
    refine wa_cons ?_
    refine we_int ?_
    refine wa_nil ?_
    refine ⟨size_ok (by simp), _, Sub.refl _, kk ⟨wh, l, rch⟩ M4 ⟨hw.1, hw.2, ?_, ?_, hl2, hrs rch hrch⟩ hwh hrch ?_ hB4 ((f2.trans f3).trans f4)⟩
    · show 0 < l.length; omega
    · show l.length ≤ 1000; omega
    · show (l.length : Int) ≤ lanes; omega
end
end K81

set_option Elab.async false
set_option linter.all false
set_option maxRecDepth 100000
set_option maxHeartbeats 4000000
namespace K81
open PySem PySem.Spec PyProof.Rows L2 DL
section
variable {P : Program} {w : World} {K : PySem.W.Frag} {mg : Str → Option Value} {base : Heap}
/-! ### _law_design -/
structure Cal.In (c : Cal) (ws : List Int) (lanes pieces : Int) : Prop where
  ok : c.Ok
  w : ∀ s, (c.way s).wheel ∈ ws ∧ ((c.way s).slots.length : Int) ≤ lanes
  p : ∀ s, c.per s ≤ pieces
  r : ∀ s, (c.way s).reach ≤ 2000
  o : c.opn ≤ 2000
  t0 : 0 ≤ c.turn
  t1 : c.turn ≤ 2000
def sp_law_design : DSp := fun ds M P R => ∃ (B : BA) (ta wa : Addr) (ts ws : List Int) (callers lanes pieces T : Int), ds = [.ref B.b, .int callers, .ref ta, .ref wa, .int lanes, .int pieces] ∧ Bag M B ∧ ta ≠ B.b ∧ wa ≠ B.b ∧ M ta = some (.lst (ts.map D.int)) ∧ M wa = some (.lst (ws.map D.int)) ∧
  0 < ts.length ∧ ts.length ≤ 1000 ∧ 0 < ws.length ∧ ws.length ≤ 1000 ∧ T ≤ 100 ∧ (∀ x ∈ ts, 0 < x ∧ x ≤ T) ∧ (∀ x ∈ ws, 0 < x ∧ x < 1000) ∧ 0 < callers ∧ callers ≤ T ∧ 0 < lanes ∧ lanes < 1000 ∧ 0 < pieces ∧ pieces ≤ 1000 ∧
  ∀ (d : Des) M', d.Ok → d.round ≤ T → (∀ c ∈ d.cals, c.In ws lanes pieces) → 0 < d.cals.length → (d.cals.length : Int) ≤ callers → Bag M' B → Bf B.b M M' → P (dDes d) M'
theorem sc_law_design : FnScope ["bag", "callers", "turns", "wheels", "lanes", "pieces", "many", "left", "k", "turn_of", "made", "ways", "turn"] ["bag", "callers", "turns", "wheels", "lanes", "pieces"] (defScope (Hd.topS 24)) := ⟨rfl, rfl, rfl, by decide +kernel, rfl, by decide +kernel, by decide +kernel⟩
theorem rgD_ints {n : Int} : rgD 0 n = ((List.range n.toNat).map fun i => ((i : Nat) : Int)).map D.int := by
  unfold rgD
  rw [List.map_map, Int.sub_zero]
  refine List.map_congr_left fun i _ => ?_
  exact congrArg D.int (Int.zero_add _)
theorem erase_map : ∀ (l : List Int) (n : Nat), (l.map D.int).eraseIdx n = (l.eraseIdx n).map D.int
  | [], _ => rfl
  | _ :: _, 0 => rfl
  | x :: l, n + 1 => by
    show D.int x :: (l.map D.int).eraseIdx n = _
    rw [erase_map l n]
    rfl
theorem ok_law_design (C : Ct K mg base) : DefOk P w K mg base CX0 5 "_law_design" ["bag", "callers", "turns", "wheels", "lanes", "pieces"] sp_law_design := by
  refine C.df 19 19 (d := Hd.d_law_design) rfl rfl rfl (fun _ _ _ _ _ _ us hl => match us, hl with | [_, _, _, _, _, _], _ => rfl) fun f fd F => fn_ok F sc_law_design (by rintro _ _ _ _ ⟨_, _, _, _, _, _, _, _, _, rfl, _⟩; rfl) ?_
  intro cdv Ar outer s H E ds M Q R hr ⟨B, ta, wa, ts, ws, callers, lanes, pieces, T, eds, hB, nta, nwa, hta, hwa, t0, t1, w0, w1, hT, hts, hws, c0, c1, l0, l1, p0, p1, kk⟩
  subst eds
  have sc := sc_law_design
  refine wss_cons ?_
  refine ws_set 6 sc.nd ?_
  refine we_bin od_add ?_
  refine we_int ?_
  refine we_call (ok_law_draw C) hr ?_
  refine wa_cons ?_
  refine we_var 0 rfl ?_
  refine wa_cons ?_
  refine we_var 1 rfl ?_
  refine wa_nil ?_
  refine ⟨B, _, rfl, hB, by omega, by omega, fun m M1 m0 m1 hB1 e1 => ?_⟩
  refine b_addI ?_
  have f1 := Bf.of_eq e1
  refine wss_cons ?_
  refine ws_par 9 10 rfl sc.nd ?_
  refine wa_cons ?_
  refine we_callB (cd_max rfl) (C.fr 69) ?_
  refine wa_cons ?_
  refine we_var 6 rfl ?_
  refine wa_cons ?_
  refine we_call (ok_law_pick C) hr ?_
  refine wa_cons ?_
  refine we_var 0 rfl ?_
  refine wa_cons ?_
  refine we_var 2 rfl ?_
  refine wa_nil ?_
  refine ⟨B, ta, ts, rfl, hB1, nta, f1 _ _ nta hta, t0, t1, fun tn M2 htn hB2 f2 => ?_⟩
  have htn' := hts tn htn
  refine wa_nil ?_
  refine c_max ?_
  refine wa_cons ?_
  refine we_lst ?_
  refine wa_nil ?_
  refine ⟨size_ok (by simp), fun pm hpm => ?_⟩
  refine wa_nil ?_
  refine ⟨_, _, rfl, ?_⟩
  have hR : 1 + m ≤ max (1 + m) tn ∧ 0 < max (1 + m) tn ∧ max (1 + m) tn ≤ T := by omega
  generalize hR2 : max (1 + m) tn = rnd at hR
  have f3 : Bf B.b M (put M2 pm (.lst [])) := (f1.trans f2).trans (Bf.new hpm)
  have hB3 : Bag (put M2 pm (.lst [])) B := hB2.put hB2 hpm
  have npm := hB2.ne hpm
  refine wss_cons ?_
  refine ws_set 7 sc.nd ?_
  refine we_listRg rfl (C.fr 68) (C.fr 71) ?_
  refine we_var 9 rfl ?_
  refine ⟨_, rfl, ⟨by omega, by omega, by omega⟩, fun pl hpl => ?_⟩
  obtain ⟨nlm, hpl2⟩ := put_none hpl
  have npl := hB2.ne hpl2
  have f4 : Bf B.b M (put (put M2 pm (.lst [])) pl (.lst (rgD 0 rnd))) := f3.trans (Bf.new hpl)
  have hB4 : Bag (put (put M2 pm (.lst [])) pl (.lst (rgD 0 rnd))) B := hB3.put hB3 hpl
  have hpmM : M pm = none := by
    cases e : M pm with
    | none => rfl
    | some u => exact absurd ((f1.trans f2) pm u (fun z => npm (by simp [z])) e) (by rw [hpm]; intro z; cases z)
  have hplM : M pl = none := by
    cases e : M pl with
    | none => rfl
    | some u => exact absurd ((f1.trans f2) pl u (fun z => npl (by simp [z])) e) (by rw [hpl2]; intro z; cases z)
  refine wss_cons ?_
  refine ws_for PassesOwn.never rfl ?_
  refine wi_range1 (C.fr 71) ?_
  refine we_var 6 rfl ?_
  refine ⟨_, rfl, by omega, by omega, ?_⟩
  refine ⟨fun i (Γ' : Sl) (M' : Mem) => (∃ x8 x11 x12, Γ' = [some (D.ref B.b), some (D.int callers), some (D.ref ta), some (D.ref wa), some (D.int lanes), some (D.int pieces), some (D.int (1 + m)), some (D.ref pl), x8, some (D.int rnd), some (D.ref pm), x11, x12]) ∧ Bag M' B ∧ Bf B.b M M' ∧ (∃ l : List Int, M' pl = some (.lst (l.map D.int)) ∧ (l.length : Int) = rnd - (i : Nat) ∧ ∀ x ∈ l, 0 ≤ x ∧ x < rnd) ∧ ∃ cs : List Cal, M' pm = some (.lst (cs.map dCal)) ∧ cs.length = i ∧ ∀ c ∈ cs, c.In ws lanes pieces,
    ⟨⟨none, none, none, rfl⟩, hB4, f4, ⟨_, by rw [put_same, rgD_ints], by rw [List.length_map, List.length_range]; omega, fun x hx => by
      obtain ⟨i, hi, rfl⟩ := List.mem_map.mp hx
      have := List.mem_range.mp hi
      omega⟩, [], (put_ne (Ne.symm nlm)).trans put_same, rfl, fun _ h => (nomatch h)⟩, fun _ _ _ _ _ => trivial, ?_, ?_⟩
  · rintro i dd _ M5 hdd ⟨⟨x8, x11, x12, rfl⟩, hB5, f5, ⟨l, el, ll, hlx⟩, cs, ecs, lcs, hcs⟩
    obtain ⟨hi, rfl⟩ := rg1_at hdd
    refine wg_name 8 sc.nd ?_
    refine wss_cons ?_
    refine ws_set 11 sc.nd ?_
    refine we_tup ?_
    refine wa_cons ?_
    refine we_call (ok_law_way C) hr ?_
    refine wa_cons ?_
    refine we_var 0 rfl ?_
    refine wa_cons ?_
    refine we_var 3 rfl ?_
    refine wa_cons ?_
    refine we_var 4 rfl ?_
    refine wa_cons ?_
    refine we_lst ?_
    refine wa_cons ?_
    refine we_int ?_
    refine wa_cons ?_
    refine we_int ?_
    refine wa_cons ?_
    refine we_int ?_
    refine wa_cons ?_
    refine we_int ?_
    refine wa_nil ?_
    refine ⟨size_ok (by simp), fun q6 hq6 => ?_⟩
    refine wa_nil ?_
    have n6 := hB5.ne hq6
    have hrs : ∀ x ∈ [(1 : Int), 2, 3, 40], 0 < x := by decide
    have hrs2 : ∀ x ∈ [(1 : Int), 2, 3, 40], x ≤ 2000 := by decide
    refine ⟨B, wa, q6, ws, [1, 2, 3, 40], lanes, rfl, hB5.put hB5 hq6, nwa, fun e => n6 (by simp [e]), (put_ne (nn (f5 _ _ nwa hwa) hq6)).trans (f5 _ _ nwa hwa), put_same, w0, w1, by simp, by simp, hws, hrs, l0, l1, fun wy0 M6 ok0 wm0 rm0 wl0 hB6 f6 => ?_⟩
    have g6 : Bf B.b M5 M6 := (Bf.new hq6).trans f6
    refine wa_cons ?_
    refine we_call (ok_law_way C) hr ?_
    refine wa_cons ?_
    refine we_var 0 rfl ?_
    refine wa_cons ?_
    refine we_var 3 rfl ?_
    refine wa_cons ?_
    refine we_var 4 rfl ?_
    refine wa_cons ?_
    refine we_lst ?_
    refine wa_cons ?_
    refine we_int ?_
    refine wa_cons ?_
    refine we_int ?_
    refine wa_cons ?_
    refine we_int ?_
    refine wa_cons ?_
    refine we_int ?_
    refine wa_nil ?_
    refine ⟨size_ok (by simp), fun q7 hq7 => ?_⟩
    refine wa_nil ?_
    have n7 := hB6.ne hq7
    have hwa6 := g6 _ _ nwa (f5 _ _ nwa hwa)
    refine ⟨B, wa, q7, ws, [1, 2, 3, 40], lanes, rfl, hB6.put hB6 hq7, nwa, fun e => n7 (by simp [e]), (put_ne (nn hwa6 hq7)).trans hwa6, put_same, w0, w1, by simp, by simp, hws, hrs, l0, l1, fun wy1 M7 ok1 wm1 rm1 wl1 hB7 f7 => ?_⟩
    have g7 : Bf B.b M5 M7 := g6.trans ((Bf.new hq7).trans f7)
    refine wa_nil ?_
    refine ⟨size_ok (by simp), ?_⟩
    have nbl : pl ≠ B.b := fun e => npl (by simp [e])
    have nbm : pm ≠ B.b := fun e => npm (by simp [e])
    have el7 := g7 _ _ nbl el
    refine wss_cons ?_
    refine ws_set 12 sc.nd ?_
    refine we_popAt ?_
    refine we_var 7 rfl ?_
    refine ⟨_, _, rfl, el7, ?_⟩
    refine we_call (ok_law_draw C) hr ?_
    refine wa_cons ?_
    refine we_var 0 rfl ?_
    refine wa_cons ?_
    refine we_callB cd_len (C.fr 67) ?_
    refine wa_cons ?_
    refine we_var 7 rfl ?_
    refine wa_nil ?_
    refine c_len ⟨_, el7, rfl⟩ ?_
    rw [List.length_map]
    refine wa_nil ?_
    refine ⟨B, _, rfl, hB7, by omega, by omega, fun v M8 v0 v1 hB8 e8 => ?_⟩
    have el8 := (e8 pl nbl).trans el7
    obtain ⟨tr, etr⟩ : ∃ x, l[v.toNat]? = some x := ⟨_, List.getElem?_eq_getElem (by omega)⟩
    refine ⟨l.map D.int, v, v.toNat, D.int tr, el8, rfl, by omega, by omega, map_at etr, ?_⟩
    have eer : (l.map D.int).eraseIdx v.toNat = (l.eraseIdx v.toNat).map D.int := erase_map _ _
    rw [eer]
    have g8 : Bf B.b M5 M8 := g7.trans (Bf.of_eq e8)
    have hB9 : Bag (put M8 pl (.lst ((l.eraseIdx v.toNat).map D.int))) B := hB8.put2 npl
    have em9 : (put M8 pl (.lst ((l.eraseIdx v.toNat).map D.int))) pm = some (.lst (cs.map dCal)) := (put_ne (Ne.symm nlm)).trans (g8 _ _ nbm ecs)
    have el9 : (put M8 pl (.lst ((l.eraseIdx v.toNat).map D.int))) pl = some (.lst ((l.eraseIdx v.toNat).map D.int)) := put_same
    have f9 : Bf B.b M (put M8 pl (.lst ((l.eraseIdx v.toNat).map D.int))) := fun x u n e => (put_ne (nn e hplM)).trans (g8 _ _ n (f5 _ _ n e))
    show WSs _ _ _ (put M8 pl (.lst ((l.eraseIdx v.toNat).map D.int))) _
    generalize put M8 pl (.lst ((l.eraseIdx v.toNat).map D.int)) = M9 at hB9 em9 el9 f9 ⊢
    refine wss_one ?_
    refine ws_expr ?_
    refine we_append ?_
    refine we_var 10 rfl ?_
    refine ⟨_, _, rfl, em9, ?_⟩
    refine we_bin od_add ?_
    refine we_var 11 rfl ?_
    refine we_tup ?_
    refine wa_cons ?_
    refine we_bin od_add ?_
    refine we_int ?_
    refine we_call (ok_law_draw C) hr ?_
    refine wa_cons ?_
    refine we_var 0 rfl ?_
    refine wa_cons ?_
    refine we_var 5 rfl ?_
    refine wa_nil ?_
    refine ⟨B, _, rfl, hB9, by omega, by omega, fun a10 MA a0 a1 hBA eA => ?_⟩
    refine b_addI ?_
    refine wa_cons ?_
    refine we_bin od_add ?_
    refine we_int ?_
    refine we_call (ok_law_draw C) hr ?_
    refine wa_cons ?_
    refine we_var 0 rfl ?_
    refine wa_cons ?_
    refine we_var 5 rfl ?_
    refine wa_nil ?_
    refine ⟨B, _, rfl, hBA, by omega, by omega, fun a11 MB b0 b1 hBB eB => ?_⟩
    refine b_addI ?_
    refine wa_cons ?_
    refine we_bin od_add ?_
    refine we_int ?_
    refine we_call (ok_law_draw C) hr ?_
    refine wa_cons ?_
    refine we_var 0 rfl ?_
    refine wa_cons ?_
    refine we_int ?_
    refine wa_nil ?_
    refine ⟨B, _, rfl, hBB, by omega, by omega, fun a12 MC d0 d1 hBC eC => ?_⟩
    refine b_addI ?_
    refine wa_cons ?_
    refine we_var 12 rfl ?_
    refine wa_nil ?_
    refine ⟨size_ok (by simp), ?_⟩
    refine b_addT (size_ok (by simp)) ?_
    have gC : ∀ x, x ≠ B.b → MC x = M9 x := fun x n => ((eC x n).trans (eB x n)).trans (eA x n)
    have emC := (gC pm nbm).trans em9
    refine ⟨_, emC, by rw [sizeLine_eq, List.length_map]; omega, ?_⟩
    refine ⟨⟨_, _, _, rfl⟩, hBC.put2 npm, fun x u n e => ?_, ⟨l.eraseIdx v.toNat, ?_, ?_, fun x hx => hlx x (List.mem_of_mem_eraseIdx hx)⟩, cs ++ [⟨wy0, wy1, 1 + a10, 1 + a11, 1 + a12, tr⟩], ?_, ?_, ?_⟩
    · rw [put_ne (nn e hpmM), gC x n]
      exact f9 x u n e
    · rw [put_ne nlm, gC pl nbl]
      exact el9
    · rw [List.length_eraseIdx_of_lt (by omega)]
      omega
    · rw [put_same, List.map_append]
      rfl
    · rw [List.length_append, lcs]; rfl
    · intro c hc
      rcases List.mem_append.mp hc with h | h
      · exact hcs c h
      · rw [List.mem_singleton.mp h]
        refine ⟨⟨fun s => ?_, fun s => ?_, ?_⟩, fun s => ?_, fun s => ?_, fun s => ?_, ?_, ?_, ?_⟩
        · cases s
          · exact ok0
          · exact ok1
        · cases s
          · show 0 < 1 + a10 ∧ 1 + a10 ≤ 1000; omega
          · show 0 < 1 + a11 ∧ 1 + a11 ≤ 1000; omega
        · show 0 < 1 + a12; omega
        · cases s
          · exact ⟨wm0, wl0⟩
          · exact ⟨wm1, wl1⟩
        · cases s
          · show 1 + a10 ≤ pieces; omega
          · show 1 + a11 ≤ pieces; omega
        · cases s
          · exact hrs2 _ rm0
          · exact hrs2 _ rm1
        · show 1 + a12 ≤ 2000; omega
        · exact (hlx tr (List.mem_of_getElem? etr)).1
        · have := (hlx tr (List.mem_of_getElem? etr)).2
          show tr ≤ 2000
          omega
  · rintro _ M5 ⟨⟨x8, x11, x12, rfl⟩, hB5, f5, _, cs, ecs, lcs, hcs⟩
    rw [rg1_len] at lcs
    refine wss_one (ws_ret ?_)
    refine we_tup ?_
    refine wa_cons ?_
    refine we_var 9 rfl ?_
    refine wa_cons ?_
    refine we_callT cd_tuple (C.fr 75) ?_
    refine wa_cons ?_
    refine we_var 10 rfl ?_
    refine wa_nil ?_
    refine c_tupL ecs ?_
    refine wa_nil ?_
    refine ⟨size_ok (by simp), _, Sub.refl _, kk ⟨rnd, cs⟩ M5 ⟨hR.2.1, by show rnd < 1000; omega⟩ hR.2.2 hcs ?_ ?_ hB5 f5⟩
    · show 0 < cs.length; omega
    · show (cs.length : Int) ≤ callers; omega
end
end K81

set_option Elab.async false
set_option linter.all false
set_option maxRecDepth 100000
set_option maxHeartbeats 4000000
namespace K81
open PySem PySem.Spec PyProof.Rows L2 DL
section
variable {P : Program} {w : World} {K : PySem.W.Frag} {mg : Str → Option Value} {base : Heap}
/-! ### _law_same: True where both are alike -/
inductive Scal : D → Prop
  | non : Scal .non
  | bl (b : Bool) : Scal (.bl b)
  | int (i : Int) : Scal (.int i)
  | str (i : Str) : Scal (.str i)
def deep : Nat → D → Prop
  | 0, d => Scal d
  | n + 1, d => Scal d ∨ ∃ l, d = .tup l ∧ l.length ≤ 1000000 ∧ ∀ x ∈ l, deep n x
theorem c_isi {M : Mem} {P : PD} {d : D} {S T : String} {b : Bool} (h : TyD M d S) (h2 : kitB S T = some b) (k : P (.bl b) M) : BIsi [d, .ty T] M P := ⟨d, S, T, b, rfl, h, h2, k⟩
theorem b_neI {M : Mem} {P : PD} {i j : Int} (k : P (.bl (!decide (i = j))) M) : BNe (.int i) (.int j) M P := k
def sp_law_same (n : Nat) : DSp := fun ds M P R => ∃ d, ds = [d, d] ∧ deep n d ∧ P (.bl true) M
theorem sc_law_same : FnScope ["actual", "due", "k"] ["actual", "due"] (defScope (Hd.topS 20)) := ⟨rfl, rfl, rfl, by decide +kernel, rfl, by decide +kernel, by decide +kernel⟩
abbrev Xs (P : Program) (w : World) (K : PySem.W.Frag) (mg : Str → Option Value) (base : Heap) (f : Addr) (cdv : Value) (A : Around) (outer : List Env) (s : Shared) (H : Hp) (E : XK) : Cx :=
  (cxOf CX0 P w K mg base ["actual", "due", "k"] Hd.d_law_same.qual Hd.d_law_same.scope f cdv A outer s H E).nox
theorem same_scal (C : Ct K mg base) {f : Addr} {cdv : Value} {A : Around} {outer : List Env} {s : Shared} {H : Hp} {E : XK} {d : D} {M : Mem} {D' : DE} (hd : Scal d) (kk : D'.rt (.bl true) M) :
    WSs (Xs P w K mg base f cdv A outer s H E) (defBody (Hd.topS 20)) (start ["actual", "due", "k"] [d, d]) M D' := by
  have ht : ∃ S, TyD M d S ∧ kitB S "tuple" = some false := by
    cases hd with
    | non => exact ⟨_, .non, by decide +kernel⟩
    | bl b => exact ⟨_, .bl b, by decide +kernel⟩
    | int b => exact ⟨_, .int b, by decide +kernel⟩
    | str b => exact ⟨_, .str b, by decide +kernel⟩
  obtain ⟨S, t1, t2⟩ := ht
  refine wss_cons ?_
  refine ws_if ?_
  refine wt_val ?_
  refine we_callB cd_isi (C.fr 66) ?_
  refine wa_cons ?_
  refine we_var 1 rfl ?_
  refine wa_cons ?_
  refine we_ty (T := "tuple") (C.fr 75) ?_
  refine wa_nil ?_
  refine c_isi t1 t2 ?_
  refine t_bl ?_
  refine ⟨fun z => (nomatch z), fun _ => ?_⟩
  refine wss_nil ?_
  refine wss_cons ?_
  refine ws_if ?_
  refine wt_cmp od_is ?_
  refine we_var 1 rfl ?_
  refine we_non ?_
  refine b_is ?_
  refine t_bl ?_
  refine ⟨fun hk => ?_, fun hk => ?_⟩
  · cases hd with
    | non =>
      refine wss_one (ws_ret ?_)
      refine we_cmp od_is ?_
      refine we_var 0 rfl ?_
      refine we_non ?_
      refine b_is ?_
      exact kk
    | bl b => cases hk
    | int b => cases hk
    | str b => cases hk
  refine wss_nil ?_
  refine wss_cons ?_
  refine ws_if ?_
  refine wt_val ?_
  refine we_callB cd_isi (C.fr 66) ?_
  refine wa_cons ?_
  refine we_var 1 rfl ?_
  refine wa_cons ?_
  refine we_ty (T := "bool") (C.fr 63) ?_
  refine wa_nil ?_
  cases hd with
  | non => cases hk
  | bl b =>
    refine c_isi (.bl b) (b := true) (by decide +kernel) ?_
    refine t_bl ?_
    refine ⟨fun _ => ?_, fun z => (nomatch z)⟩
    refine wss_one (ws_ret ?_)
    refine we_and ?_
    refine we_callB cd_isi (C.fr 66) ?_
    refine wa_cons ?_
    refine we_var 0 rfl ?_
    refine wa_cons ?_
    refine we_ty (T := "bool") (C.fr 63) ?_
    refine wa_nil ?_
    refine c_isi (.bl b) (b := true) (by decide +kernel) ?_
    refine ⟨true, rfl, fun _ => ?_, fun z => (nomatch z)⟩
    refine we_one ?_
    refine we_cmp od_eq ?_
    refine we_var 0 rfl ?_
    refine we_var 1 rfl ?_
    show D'.rt (.bl (decide (b = b))) M
    rw [decide_eq_true rfl]
    exact kk
  | int b =>
    refine c_isi (.int b) (b := false) (by decide +kernel) ?_
    refine t_bl ?_
    refine ⟨fun z => (nomatch z), fun _ => ?_⟩
    refine wss_nil ?_
    refine wss_cons ?_
    refine ws_if ?_
    refine wt_val ?_
    refine we_callB cd_isi (C.fr 66) ?_
    refine wa_cons ?_
    refine we_var 1 rfl ?_
    refine wa_cons ?_
    refine we_ty (T := "str") (C.fr 73) ?_
    refine wa_nil ?_
    refine c_isi (.int b) (b := false) (by decide +kernel) ?_
    refine t_bl ?_
    refine ⟨fun z => (nomatch z), fun _ => ?_⟩
    refine wss_nil ?_
    refine wss_one (ws_ret ?_)
    refine we_and ?_
    refine we_callB cd_isi (C.fr 66) ?_
    refine wa_cons ?_
    refine we_var 0 rfl ?_
    refine wa_cons ?_
    refine we_ty (T := "int") (C.fr 65) ?_
    refine wa_nil ?_
    refine c_isi (.int b) (b := true) (by decide +kernel) ?_
    refine ⟨true, rfl, fun _ => ?_, fun z => (nomatch z)⟩
    refine we_and ?_
    refine we_not ?_
    refine we_callB cd_isi (C.fr 66) ?_
    refine wa_cons ?_
    refine we_var 0 rfl ?_
    refine wa_cons ?_
    refine we_ty (T := "bool") (C.fr 63) ?_
    refine wa_nil ?_
    refine c_isi (.int b) (b := false) (by decide +kernel) ?_
    refine ⟨false, rfl, true, rfl, fun _ => ?_, fun z => (nomatch z)⟩
    refine we_one ?_
    refine we_cmp od_eq ?_
    refine we_var 0 rfl ?_
    refine we_var 1 rfl ?_
    show D'.rt (.bl (decide (b = b))) M
    rw [decide_eq_true rfl]
    exact kk
  | str b =>
    refine c_isi (.str b) (b := false) (by decide +kernel) ?_
    refine t_bl ?_
    refine ⟨fun z => (nomatch z), fun _ => ?_⟩
    refine wss_nil ?_
    refine wss_cons ?_
    refine ws_if ?_
    refine wt_val ?_
    refine we_callB cd_isi (C.fr 66) ?_
    refine wa_cons ?_
    refine we_var 1 rfl ?_
    refine wa_cons ?_
    refine we_ty (T := "str") (C.fr 73) ?_
    refine wa_nil ?_
    refine c_isi (.str b) (b := true) (by decide +kernel) ?_
    refine t_bl ?_
    refine ⟨fun _ => ?_, fun z => (nomatch z)⟩
    refine wss_one (ws_ret ?_)
    refine we_and ?_
    refine we_callB cd_isi (C.fr 66) ?_
    refine wa_cons ?_
    refine we_var 0 rfl ?_
    refine wa_cons ?_
    refine we_ty (T := "str") (C.fr 73) ?_
    refine wa_nil ?_
    refine c_isi (.str b) (b := true) (by decide +kernel) ?_
    refine ⟨true, rfl, fun _ => ?_, fun z => (nomatch z)⟩
    refine we_one ?_
    refine we_cmp od_eq ?_
    refine we_var 0 rfl ?_
    refine we_var 1 rfl ?_
    show D'.rt (.bl (decide (b = b))) M
    rw [decide_eq_true rfl]
    exact kk
theorem ok_law_same (C : Ct K mg base) : ∀ n : Nat, DefOk P w K mg base CX0 (n + 1) "_law_same" ["actual", "due"] (sp_law_same n)
  | 0 => by
    refine C.df 15 15 (d := Hd.d_law_same) rfl rfl rfl (fun _ _ _ _ _ _ us hl => match us, hl with | [_, _], _ => rfl) fun f fd F => fn_ok F sc_law_same (by rintro _ _ _ _ ⟨_, rfl, _⟩; rfl) ?_
    intro cdv Ar outer s H E ds M Q R hr ⟨d, eds, hd, kk⟩
    subst eds
    exact same_scal C hd ⟨M, Sub.refl M, kk⟩
  | n + 1 => by
    have rec_ := ok_law_same C n
    refine C.df 15 15 (d := Hd.d_law_same) rfl rfl rfl (fun _ _ _ _ _ _ us hl => match us, hl with | [_, _], _ => rfl) fun f fd F => fn_ok F sc_law_same (by rintro _ _ _ _ ⟨_, rfl, _⟩; rfl) ?_
    intro cdv Ar outer s H E ds M Q R hr ⟨d, eds, hd, kk⟩
    subst eds
    have sc := sc_law_same
    rcases hd with hd | ⟨l, rfl, hl, hx⟩
    · exact same_scal C hd ⟨M, Sub.refl M, kk⟩
    refine wss_cons ?_
    refine ws_if ?_
    refine wt_val ?_
    refine we_callB cd_isi (C.fr 66) ?_
    refine wa_cons ?_
    refine we_var 1 rfl ?_
    refine wa_cons ?_
    refine we_ty (T := "tuple") (C.fr 75) ?_
    refine wa_nil ?_
    refine c_isi (.tup l) (b := true) (by decide +kernel) ?_
    refine t_bl ?_
    refine ⟨fun _ => ?_, fun z => (nomatch z)⟩
    refine wss_cons ?_
    refine ws_if ?_
    refine wt_ww ?_
    refine ww_or ?_
    refine wt_not ?_
    refine wt_val ?_
    refine we_callB cd_isi (C.fr 66) ?_
    refine wa_cons ?_
    refine we_var 0 rfl ?_
    refine wa_cons ?_
    refine we_ty (T := "tuple") (C.fr 75) ?_
    refine wa_nil ?_
    refine c_isi (.tup l) (b := true) (by decide +kernel) ?_
    refine t_bl ?_
    refine ⟨fun _ => ?_, fun z => (nomatch z)⟩
    refine ww_or1 ?_
    refine wt_cmp od_ne ?_
    refine we_callB cd_len (C.fr 67) ?_
    refine wa_cons ?_
    refine we_var 0 rfl ?_
    refine wa_nil ?_
    refine c_len rfl ?_
    refine we_callB cd_len (C.fr 67) ?_
    refine wa_cons ?_
    refine we_var 1 rfl ?_
    refine wa_nil ?_
    refine c_len rfl ?_
    refine b_neI ?_
    refine t_bl ?_
    refine ⟨fun z => absurd z (by simp), fun _ => ?_⟩
    refine wss_nil ?_
    refine wss_cons ?_
    refine ws_for PassesOwn.never rfl ?_
    refine wi_range1 (C.fr 71) ?_
    refine we_callB cd_len (C.fr 67) ?_
    refine wa_cons ?_
    refine we_var 1 rfl ?_
    refine wa_nil ?_
    refine c_len rfl ?_
    refine ⟨_, rfl, by omega, by omega, ?_⟩
    refine ⟨fun i (Γ' : Sl) (M' : Mem) => (∃ x2, Γ' = [some (D.tup l), some (D.tup l), x2]) ∧ M' = M, ⟨⟨none, rfl⟩, rfl⟩, fun _ _ _ _ _ => trivial, ?_, ?_⟩
    · rintro i dd _ M' hdd ⟨⟨x2, rfl⟩, eM⟩
      obtain rfl := eM.symm
      obtain ⟨hi, rfl⟩ := rg1_at hdd
      obtain ⟨y, ey⟩ : ∃ y, l[i]? = some y := ⟨_, List.getElem?_eq_getElem (by omega)⟩
      refine wg_name 2 sc.nd ?_
      refine wss_one ?_
      refine ws_if ?_
      refine wt_not ?_
      refine wt_val ?_
      refine we_call rec_ hr ?_ (Nat.le_refl _)
      refine wa_cons ?_
      refine we_sub ?_
      refine we_var 0 rfl ?_
      refine we_var 2 rfl ?_
      refine i_tup (atI_nat ey) ?_
      refine wa_cons ?_
      refine we_sub ?_
      refine we_var 1 rfl ?_
      refine we_var 2 rfl ?_
      refine i_tup (atI_nat ey) ?_
      refine wa_nil ?_
      refine ⟨y, rfl, hx y (List.mem_of_getElem? ey), ?_⟩
      refine t_bl ?_
      refine ⟨fun z => (nomatch z), fun _ => ?_⟩
      refine wss_nil ?_
      exact ⟨⟨_, rfl⟩, rfl⟩
    · rintro _ M' ⟨⟨x2, rfl⟩, eM⟩
      obtain rfl := eM.symm
      refine wss_one (ws_ret ?_)
      refine we_bl ?_
      exact ⟨_, Sub.refl _, kk⟩
/-! ### _law_start -/
def sp_law_start : DSp := fun ds M P R => ∃ (d : D) (ns : List Int), ds = [d] ∧ Scr K d ns ∧ ns.length ≤ 63 ∧ ∀ (B : BA) M', M B.b = none → Sub M M' → Bag M' B → P (.ref B.b) M'
theorem sc_law_start : FnScope ["script", "bag", "cell"] ["script"] (defScope (Hd.topS 19)) := ⟨rfl, rfl, rfl, by decide +kernel, rfl, by decide +kernel, by decide +kernel⟩
theorem ok_law_start (C : Ct K mg base) : DefOk P w K mg base CX0 3 "_law_start" ["script"] (sp_law_start (K := K)) := by
  refine C.df 14 14 (d := Hd.d_law_start) rfl rfl rfl (fun _ _ _ _ _ _ us hl => match us, hl with | [_], _ => rfl) fun f fd F => fn_ok F sc_law_start (by rintro _ _ _ _ ⟨_, _, rfl, _⟩; rfl) ?_
  intro cdv Ar outer s H E ds M Q R hr ⟨d, ns, eds, hsc, hns, kk⟩
  subst eds
  have sc := sc_law_start
  refine wss_cons ?_
  refine ws_set 1 sc.nd ?_
  refine we_lst ?_
  refine wa_cons ?_
  refine we_callT cd_listS (C.fr 68) ?_
  refine wa_cons ?_
  refine we_var 0 rfl ?_
  refine wa_nil ?_
  refine ⟨d, ns, rfl, hsc, fun pc hpc => ?_⟩
  refine wa_cons ?_
  refine we_int ?_
  refine wa_cons ?_
  refine we_int ?_
  refine wa_cons ?_
  refine we_int ?_
  refine wa_cons ?_
  refine we_int ?_
  refine wa_cons ?_
  refine we_int ?_
  refine wa_cons ?_
  refine we_lcG (own := [("cell", 2)]) rfl sc.nd (blkOk_by (own := [("cell", 2)]) (N := ["script", "bag", "cell"]) (sc := defScope (Hd.topS 19)) (by decide +kernel)) rfl gt_name (fun _ _ _ _ _ => pg_name (i := 2) sc.nd rfl (Or.inl rfl)) ?_
  refine wi_scr ?_
  refine we_var 0 rfl ?_
  refine ⟨ns, hsc, fun pe hpe => ?_⟩
  refine lcj_map (fun | .int i => .int (i % 2147483647) | d => d) (by rw [List.length_map]; omega) (fun _ => trivial) (fun _ _ => trivial) ?_ ?_
  · intro k dd hdd l s H Ca cl fp
    obtain ⟨i, _, rfl⟩ := List.mem_map.mp (List.mem_of_getElem? hdd)
    refine we_bin od_mod ?_
    refine we_callT cd_int (C.fr 65) ?_
    refine wa_cons ?_
    refine we_var 2 rfl ?_
    refine wa_nil ?_
    refine c_int ?_
    refine we_int ?_
    refine b_i (show (0 : Int) < 2147483647 by decide) ?_
    exact ⟨rfl, rfl⟩
  have em : (ns.map D.int).map (fun | .int i => .int (i % 2147483647) | d => d) = (ns.map fun i => i % 2147483647).map D.int := by rw [List.map_map, List.map_map]; rfl
  rw [em]
  refine wa_nil ?_
  refine ⟨size_ok (by simp), fun pb hpb => ?_⟩
  have nce : pc ≠ pe := nn put_same hpe
  have hb1 := put_none hpb
  have hb2 := put_none hb1.2
  have hMb : M pb = none := hb2.2
  have eB : ∀ m : Int, Bag (put (put (put M pc (.lst (ns.map D.int))) pe (.lst ((ns.map fun i => i % 2147483647).map D.int))) pb (.lst (bagL pc pe 0 0 0 m 0))) ⟨pb, pc, pe⟩ := fun m =>
    ⟨0, 0, 0, m, 0, ns, ns.map fun i => i % 2147483647, put_same, ((put_ne (Ne.symm hb2.1)).trans (put_ne nce)).trans put_same, (put_ne (Ne.symm hb1.1)).trans put_same, List.length_map .., Ne.symm hb2.1, Ne.symm hb1.1, Int.le_refl _, hns⟩
  have sB : ∀ m : Int, Sub M (put (put (put M pc (.lst (ns.map D.int))) pe (.lst ((ns.map fun i => i % 2147483647).map D.int))) pb (.lst (bagL pc pe 0 0 0 m 0))) := fun m => ((Sub.put hpc).trans (Sub.put hpe)).trans (Sub.put hpb)
  show WSs _ _ _ (put (put (put M pc (.lst (ns.map D.int))) pe (.lst ((ns.map fun i => i % 2147483647).map D.int))) pb (.lst (bagL pc pe 0 0 0 0 0))) _
  have fin : ∀ m : Int, WSs (cxOf CX0 P w K mg base ["script", "bag", "cell"] Hd.d_law_start.qual Hd.d_law_start.scope f cdv Ar outer s H E).nox ((defBody (Hd.topS 19)).drop 2) [some d, some (.ref pb), none] (put (put (put M pc (.lst (ns.map D.int))) pe (.lst ((ns.map fun i => i % 2147483647).map D.int))) pb (.lst (bagL pc pe 0 0 0 m 0))) { nx := fun _ M' => ∃ M2, Sub M2 M' ∧ Q .non M2, rt := fun d M' => ∃ M2, Sub M2 M' ∧ Q d M2 } := fun m => by
    refine wss_cons ?_
    refine ws_expr ?_
    refine we_call (ok_law_draw C) hr ?_
    refine wa_cons ?_
    refine we_var 1 rfl ?_
    refine wa_cons ?_
    refine we_int ?_
    refine wa_nil ?_
    refine ⟨⟨pb, pc, pe⟩, _, rfl, eB m, by omega, by omega, fun v M' _ _ hB hM => ?_⟩
    refine wss_one (ws_ret ?_)
    refine we_var 1 rfl ?_
    exact ⟨_, Sub.refl _, kk ⟨pb, pc, pe⟩ M' hMb (fun x u e => (hM x (nn e hMb)).trans (sB m x u e)) hB⟩
  refine wss_cons ?_
  refine ws_if ?_
  refine wt_ww ?_
  refine ww_or ?_
  refine wt_cmp od_eq ?_
  refine we_callB cd_lenS (C.fr 67) ?_
  refine wa_cons ?_
  refine we_var 0 rfl ?_
  refine wa_nil ?_
  refine ⟨d, ns, rfl, hsc, ?_⟩
  refine we_int ?_
  refine b_eqI ?_
  refine t_bl ?_
  have hset : ∀ (M0 : Mem), M0 = put (put (put M pc (.lst (ns.map D.int))) pe (.lst ((ns.map fun i => i % 2147483647).map D.int))) pb (.lst (bagL pc pe 0 0 0 0 0)) → True := fun _ _ => trivial
  refine ⟨fun hk => ?_, fun hk => ⟨fun _ => ?_, fun z => (nomatch z)⟩⟩
  · refine ww_or1 ?_
    obtain ⟨x0, ex0⟩ : ∃ x, ns[0]? = some x := ⟨_, List.getElem?_eq_getElem (by have := of_decide_eq_false hk; omega)⟩
    refine wt_cmp od_eq ?_
    refine we_bin od_mod ?_
    refine we_callT cd_int (C.fr 65) ?_
    refine wa_cons ?_
    refine we_subS ?_
    refine we_var 0 rfl ?_
    refine we_int ?_
    refine ⟨ns, 0, x0, hsc, rfl, atI_nat (j := 0) ex0, ?_⟩
    refine wa_nil ?_
    refine c_int ?_
    refine we_int ?_
    refine b_i (show (0 : Int) < 2 by decide) ?_
    refine we_int ?_
    refine b_eqI ?_
    refine t_bl ?_
    refine ⟨fun _ => ?_, fun _ => wss_nil (fin 0)⟩
    refine wss_one ?_
    refine ws_asg ?_
    refine we_int ?_
    refine wg_lsub ?_
    refine we_var 1 rfl ?_
    refine we_int ?_
    refine ⟨_, _, 4, rfl, put_same, rfl, Nat.le_of_ble_eq_true rfl, ?_⟩
    rw [put_put]
    exact fin 1
  · refine wss_one ?_
    refine ws_asg ?_
    refine we_int ?_
    refine wg_lsub ?_
    refine we_var 1 rfl ?_
    refine we_int ?_
    refine ⟨_, _, 4, rfl, put_same, rfl, Nat.le_of_ble_eq_true rfl, ?_⟩
    rw [put_put]
    exact fin 1
end
end K81

set_option Elab.async false
set_option linter.all false
set_option maxRecDepth 100000
set_option maxHeartbeats 4000000
namespace K81
open PySem PySem.Spec PyProof.Rows L2 DL
section
variable {P : Program} {w : World} {K : PySem.W.Frag} {mg : Str → Option Value} {base : Heap}
/-! ### _law_bounds, _law_ticks, _law_behind -/
def sp_law_bounds : DSp := fun ds M P R => ∃ (B : BA) (d : Des) (most fails : Int), ds = [.ref B.b, dDes d, .int most, .int fails] ∧ Bag M B ∧ d.cals.length ≤ 1000 ∧ 0 < most ∧ most ≤ 1000 ∧ 0 < fails ∧ fails ≤ 1000 ∧ ∀ (bs : List Bnd) M', bs.length = d.cals.length → (∀ b ∈ bs, b.In fails) → Bag M' B → Bf B.b M M' → P (dBnds bs) M'
theorem sc_law_bounds : FnScope ["bag", "design", "most", "fails", "one"] ["bag", "design", "most", "fails"] (defScope (Hd.topS 25)) := ⟨rfl, rfl, rfl, by decide +kernel, rfl, by decide +kernel, by decide +kernel⟩
theorem ok_law_bounds (C : Ct K mg base) : DefOk P w K mg base CX0 5 "_law_bounds" ["bag", "design", "most", "fails"] sp_law_bounds := by
  refine C.df 20 20 (d := Hd.d_law_bounds) rfl rfl rfl (fun _ _ _ _ _ _ us hl => match us, hl with | [_, _, _, _], _ => rfl) fun f fd F => fn_ok F sc_law_bounds (by rintro _ _ _ _ ⟨_, _, _, _, rfl, _⟩; rfl) ?_
  intro cdv Ar outer s H E ds M Q R hr ⟨B, d, most, fails, eds, hB, ld, m0, m1, f0, f1, kk⟩
  subst eds
  have sc := sc_law_bounds
  refine wss_one (ws_ret ?_)
  refine we_callT cd_tuple (C.fr 75) ?_
  refine wa_cons ?_
  refine we_lcG (own := [("one", 4)]) rfl sc.nd (blkOk_by (own := [("one", 4)]) (N := ["bag", "design", "most", "fails", "one"]) (sc := defScope (Hd.topS 25)) (by decide +kernel)) rfl gt_name (fun _ _ _ _ _ => pg_name (i := 4) sc.nd rfl (Or.inl rfl)) ?_
  refine wi_tup ?_
  refine we_sub ?_
  refine we_var 1 rfl ?_
  refine we_int ?_
  refine i_tup rfl ?_
  refine ⟨_, rfl, fun p hp => ?_⟩
  have hpb := hB.ne hp
  refine ⟨fun _ _ => trivial, fun k M' => Bag M' B ∧ Bf B.b M M' ∧ ∃ l : List Bnd, l.length = k ∧ (∀ b ∈ l, b.In fails) ∧ M' p = some (.lst (l.map dBnd)), ⟨hB.put hB hp, Bf.new hp, [], rfl, fun _ h => (nomatch h), put_same⟩, fun _ _ _ _ => trivial, ?_, ?_⟩
  · rintro k dd M3 hdd ⟨hB3, f3, l, hl, hl2, hp3⟩ s H Ca cl fp
    have hk := (List.getElem?_eq_some_iff.mp hdd).1
    rw [List.length_map] at hk
    refine we_call (ok_law_bound C) hr ?_
    refine wa_cons ?_
    refine we_var 0 rfl ?_
    refine wa_cons ?_
    refine we_var 2 rfl ?_
    refine wa_cons ?_
    refine we_var 3 rfl ?_
    refine wa_nil ?_
    refine ⟨B, _, _, rfl, hB3, m0, m1, f0, f1, fun b M4 hb hB4 f4 => ?_⟩
    have npb : p ≠ B.b := fun e => hpb (by simp [e])
    refine ⟨l.map dBnd, f4 _ _ npb hp3, by rw [sizeLine_eq, List.length_map]; omega, hB4.put2 hpb, fun x m n e => ?_, l ++ [b], by simp [hl], ?_, ?_⟩
    · rw [put_ne (nn e hp)]
      exact f4 _ _ n (f3 x m n e)
    · intro x hx
      rcases List.mem_append.mp hx with h | h
      · exact hl2 x h
      · rw [List.mem_singleton.mp h]; exact hb
    · rw [put_same, List.map_append]; rfl
  · rintro M3 ⟨hB3, f3, l, hl, hl2, hp3⟩
    rw [List.length_map] at hl
    refine wa_nil ?_
    refine c_tupL hp3 ?_
    exact ⟨_, Sub.refl _, kk l M3 hl hl2 hB3 f3⟩
def sp_law_ticks : DSp := fun ds M P R => ∃ (B : BA) (many last : Int), ds = [.ref B.b, .int many, .int last] ∧ Bag M B ∧ 0 ≤ many ∧ many ≤ 1000 ∧ 0 ≤ last ∧ last ≤ 1000 ∧ ∀ (ts : List Int) M', (ts.length : Int) = many → (∀ t ∈ ts, 0 ≤ t) → Bag M' B → Bf B.b M M' → P (.tup (ts.map D.int)) M'
theorem sc_law_ticks : FnScope ["bag", "many", "last", "k", "made", "tick"] ["bag", "many", "last"] (defScope (Hd.topS 26)) := ⟨rfl, rfl, rfl, by decide +kernel, rfl, by decide +kernel, by decide +kernel⟩
theorem ok_law_ticks (C : Ct K mg base) : DefOk P w K mg base CX0 4 "_law_ticks" ["bag", "many", "last"] sp_law_ticks := by
  refine C.df 21 21 (d := Hd.d_law_ticks) rfl rfl rfl (fun _ _ _ _ _ _ us hl => match us, hl with | [_, _, _], _ => rfl) fun f fd F => fn_ok F sc_law_ticks (by rintro _ _ _ _ ⟨_, _, _, rfl, _⟩; rfl) ?_
  intro cdv Ar outer s H E ds M Q R hr ⟨B, many, last, eds, hB, m0, m1, l0, l1, kk⟩
  subst eds
  have sc := sc_law_ticks
  refine wss_cons ?_
  refine ws_par 4 5 rfl sc.nd ?_
  refine wa_cons ?_
  refine we_lst ?_
  refine wa_nil ?_
  refine ⟨size_ok (by simp), fun p hp => ?_⟩
  have hpb := hB.ne hp
  have npb : p ≠ B.b := fun e => hpb (by simp [e])
  refine wa_cons ?_
  refine we_call (ok_law_draw C) hr ?_
  refine wa_cons ?_
  refine we_var 0 rfl ?_
  refine wa_cons ?_
  refine we_bin od_add ?_
  refine we_var 2 rfl ?_
  refine we_int ?_
  refine b_addI ?_
  refine wa_nil ?_
  refine ⟨B, _, rfl, hB.put hB hp, by omega, by omega, fun t0 M1 t00 _ hB1 e1 => ?_⟩
  refine wa_nil ?_
  refine ⟨_, _, rfl, ?_⟩
  refine wss_cons ?_
  refine ws_for PassesOwn.never rfl ?_
  refine wi_range1 (C.fr 71) ?_
  refine we_var 1 rfl ?_
  refine ⟨_, rfl, by omega, by omega, ?_⟩
  refine ⟨fun i (Γ' : Sl) (M' : Mem) => (∃ x3 t, 0 ≤ t ∧ Γ' = [some (D.ref B.b), some (D.int many), some (D.int last), x3, some (D.ref p), some (D.int t)]) ∧ Bag M' B ∧ Bf B.b M M' ∧ ∃ ts : List Int, ts.length = i ∧ (∀ t ∈ ts, 0 ≤ t) ∧ M' p = some (.lst (ts.map D.int)), ⟨⟨none, t0, t00, rfl⟩, hB1, (Bf.new hp).trans (Bf.of_eq e1), [], rfl, fun _ h => (nomatch h), (e1 p npb).trans put_same⟩, fun _ _ _ _ _ => trivial, ?_, ?_⟩
  · rintro i dd _ M2 hdd ⟨⟨x3, t, ht, rfl⟩, hB2, f2, ts, lts, hts, ep⟩
    obtain ⟨hi, rfl⟩ := rg1_at hdd
    refine wg_name 3 sc.nd ?_
    refine wss_cons ?_
    refine ws_expr ?_
    refine we_append ?_
    refine we_var 4 rfl ?_
    refine ⟨_, _, rfl, ep, ?_⟩
    refine we_var 5 rfl ?_
    refine ⟨_, ep, by rw [sizeLine_eq, List.length_map]; omega, ?_⟩
    have hB3 := hB2.put2 (m := .lst (ts.map D.int ++ [D.int t])) hpb
    have f3 : Bf B.b M (put M2 p (.lst (ts.map D.int ++ [D.int t]))) := fun x u n e => (put_ne (nn e hp)).trans (f2 x u n e)
    refine wss_one ?_
    refine ws_set 5 sc.nd ?_
    refine we_bin od_add ?_
    refine we_var 5 rfl ?_
    refine we_call (ok_law_pick C) hr ?_
    refine wa_cons ?_
    refine we_var 0 rfl ?_
    refine wa_cons ?_
    refine we_lst ?_
    refine wa_cons ?_
    refine we_int ?_
    refine wa_cons ?_
    refine we_int ?_
    refine wa_cons ?_
    refine we_int ?_
    refine wa_cons ?_
    refine we_int ?_
    refine wa_cons ?_
    refine we_int ?_
    refine wa_cons ?_
    refine we_var 2 rfl ?_
    refine wa_nil ?_
    refine ⟨size_ok (by simp), fun q hq => ?_⟩
    refine wa_nil ?_
    have nqb := hB3.ne hq
    refine ⟨B, q, [0, 0, 1, 2, 5, last], rfl, hB3.put hB3 hq, fun e => nqb (by simp [e]), put_same, by simp, by simp, fun x M4 hx hB4 f4 => ?_⟩
    have hx0 : 0 ≤ x := by
      simp only [List.mem_cons, List.not_mem_nil, or_false] at hx
      rcases hx with rfl | rfl | rfl | rfl | rfl | rfl <;> omega
    refine b_addI ?_
    have npq : p ≠ q := nn put_same hq
    refine ⟨⟨_, t + x, by omega, rfl⟩, hB4, f3.trans ((Bf.new hq).trans f4), ts ++ [t], by simp [lts], ?_, ?_⟩
    · intro y hy
      rcases List.mem_append.mp hy with h | h
      · exact hts y h
      · rw [List.mem_singleton.mp h]; exact ht
    · refine f4 _ _ npb ?_
      rw [put_ne npq, put_same, List.map_append]
      rfl
  · rintro _ M2 ⟨⟨x3, t, ht, rfl⟩, hB2, f2, ts, lts, hts, ep⟩
    rw [rg1_len] at lts
    refine wss_one (ws_ret ?_)
    refine we_callT cd_tuple (C.fr 75) ?_
    refine wa_cons ?_
    refine we_var 4 rfl ?_
    refine wa_nil ?_
    refine c_tupL ep ?_
    exact ⟨_, Sub.refl _, kk ts M2 (by omega) hts hB2 f2⟩
def sp_law_behind : DSp := fun ds M P R => ∃ t s wh : Int, ds = [.int wh, .int s, .int t] ∧ 0 < wh ∧ P (.int (ns t s wh)) M
theorem sc_law_behind : FnScope ["wheel", "slot", "tick"] ["wheel", "slot", "tick"] (defScope (Hd.topS 27)) := ⟨rfl, rfl, rfl, by decide +kernel, rfl, by decide +kernel, by decide +kernel⟩
theorem ok_law_behind (C : Ct K mg base) : DefOk P w K mg base CX0 1 "_law_behind" ["wheel", "slot", "tick"] sp_law_behind := by
  refine C.df 22 22 (d := Hd.d_law_behind) rfl rfl rfl (fun _ _ _ _ _ _ us hl => match us, hl with | [_, _, _], _ => rfl) fun f fd F => fn_ok F sc_law_behind (by rintro _ _ _ _ ⟨_, _, _, rfl, _⟩; rfl) ?_
  intro cdv Ar outer s H E ds M Q R hr ⟨t, sl, wh, eds, hw, kk⟩
  subst eds
  refine wss_one (ws_ret ?_)
  refine we_bin od_add ?_
  refine we_var 2 rfl ?_
  refine we_bin od_mod ?_
  refine we_callT cd_int (C.fr 65) ?_
  refine wa_cons ?_
  refine we_bin od_sub ?_
  refine we_var 1 rfl ?_
  refine we_var 2 rfl ?_
  refine b_sub ?_
  refine wa_nil ?_
  refine c_int ?_
  refine we_var 0 rfl ?_
  refine b_i hw ?_
  refine b_addI ?_
  exact ⟨_, Sub.refl _, kk⟩
/-! ### the law's line -/
def lineKvs (A : Nat → Addr) (d : Des) (c : Cal) (b : Bnd) (speed : Str) (base calls ans : Int) : List (Key × D) :=
  [(.inr "round", .int d.round), (.inr "turn", .int c.turn), (.inr "open", .int c.opn), (.inr "per", .tup [.int c.p0, .int c.p1]), (.inr "ways", .tup [dWay c.w0, dWay c.w1]), (.inr "speed", .str speed),
    (.inr "least", .tup [.int b.lo, .int b.low]), (.inr "most", .tup [.int b.hi, .int b.high]), (.inr "fails", .int b.fails), (.inr "base", .int base), (.inr "fates", .ref (A 15)), (.inr "calls", .int calls),
    (.inr "told", .ref (A 1)), (.inr "upto", .ref (A 4)), (.inr "read", .ref (A 7)), (.inr "letters", .ref (A 8)), (.inr "begun", .ref (A 11)), (.inr "done", .ref (A 12)), (.inr "heard", .ref (A 13)), (.inr "answered", .int ans), (.inr "trees", .ref (A 14))]
def sI (s : Bool) : Int := if s then 1 else 0
/-- what the law's runs are made of: F how many tries of a letter fail -/
def opsI (c : Cal) (b : Bnd) (F : Bool → Int → Int) : Ops Int := ⟨max, fun s wh x => ns x s wh, fun s n x => x + F s n * (c.way s).wheel + b.t0 s, fun s n x => x + F s n * (c.way s).wheel + b.t1 s, fun x => x + 1⟩
def slow : Str := "slow"
def some_ : Str := "some"
/-- the speed's word and the dict of fates tell of F -/
def Tells (sp : Str) (b : Bnd) (fk : List (List Key × D)) (F : Bool → Int → Int) : Prop := (sp = slow ∧ F = fun _ _ => b.fails) ∨ (sp = some_ ∧ ∀ s n, (valD fk [.inl (sI s), .inl n]).getD (.int 0) = .int (F s n))
def Inj (A : Nat → Addr) : Prop := ∀ i j, i < 16 → j < 16 → A i = A j → i = j
theorem Inj.ne {A : Nat → Addr} (h : Inj A) {i j : Nat} (e : i ≠ j) (hi : i < 16) (hj : j < 16) : A i ≠ A j := fun z => e (h i j hi hj z)
structure LineAt (M : Mem) (A : Nat → Addr) (d : Des) (c : Cal) (b : Bnd) (sp : Str) (base : Int) (F : Bool → Int → Int) (S : Cst Int) : Prop where
  o : M (A 0) = some (.dK (lineKvs A d c b sp base S.begun.length (S.done.getLast?.getD 0)))
  t : M (A 1) = some (.lst [.ref (A 2), .ref (A 3)])
  t0 : M (A 2) = some (.lst ((S.w false).tolds.map D.int))
  t1 : M (A 3) = some (.lst ((S.w true).tolds.map D.int))
  u : M (A 4) = some (.lst [.ref (A 5), .ref (A 6)])
  u0 : M (A 5) = some (.lst ((S.w false).tbs.map D.int))
  u1 : M (A 6) = some (.lst ((S.w true).tbs.map D.int))
  r : M (A 7) = some (.lst [.int (lastR (S.w false) 0), .int (lastR (S.w true) 0)])
  e : M (A 8) = some (.lst [.ref (A 9), .ref (A 10)])
  e0 : ∃ l : List D, M (A 9) = some (.lst l) ∧ l.length = (S.w false).tolds.length
  e1 : ∃ l : List D, M (A 10) = some (.lst l) ∧ l.length = (S.w true).tolds.length
  bg : M (A 11) = some (.lst (S.begun.map D.int))
  dn : M (A 12) = some (.lst (S.done.map D.int))
  h : M (A 13) = some (.lst (S.heard.map D.int))
  z : M (A 14) = some (.lst [])
  fk : ∃ k, M (A 15) = some (.dT k) ∧ Tells sp b k F
  inj : Inj A
  lb : ∀ s, (S.w s).tbs.length = (S.w s).tolds.length
end
end K81

set_option Elab.async false
set_option linter.all false
set_option maxRecDepth 100000
set_option maxHeartbeats 4000000
namespace K81
open PySem PySem.Spec PyProof.Rows L2 DL
section
variable {P : Program} {w : World} {K : PySem.W.Frag} {mg : Str → Option Value} {base : Heap}
def sp_law_outcome : DSp := fun ds M P R => ∃ (A : Nat → Addr) (d : Des) (c : Cal) (b : Bnd) (sp : Str) (bs : Int) (F : Bool → Int → Int) (S : Cst Int) (s : Bool) (num first : Int), ds = [.ref (A 0), dS s, .int num, .int first] ∧ LineAt M A d c b sp bs F S ∧ c.Ok ∧
  P (.tup [.int ((opsI c b F).come s num first), .int ((opsI c b F).told s num first)]) M
theorem sc_law_outcome : FnScope ["line", "side", "number", "first", "j", "wheel", "least", "most", "come", "tries", "told", "tick", "delay", "ack"] ["line", "side", "number", "first"] (defScope (Hd.topS 29)) := ⟨rfl, rfl, rfl, by decide +kernel, rfl, by decide +kernel, by decide +kernel⟩
theorem t0_eq (b : Bnd) (s : Bool) : atI [D.int b.hi, D.int b.high] (if s then 1 else 0) = some (.int (b.t0 s)) := by cases s <;> rfl
theorem t1_eq (b : Bnd) (s : Bool) : ∃ y, atI [D.int b.hi, D.int b.high] (1 - (if s then 1 else 0)) = some (.int y) ∧ b.t0 s + y = b.t1 s := by cases s <;> exact ⟨_, rfl, rfl⟩
theorem ok_law_outcome (C : Ct K mg base) : DefOk P w K mg base CX0 1 "_law_outcome" ["line", "side", "number", "first"] sp_law_outcome := by
  refine C.df 24 24 (d := Hd.d_law_outcome) rfl rfl rfl (fun _ _ _ _ _ _ us hl => match us, hl with | [_, _, _, _], _ => rfl) fun f fd F => fn_ok F sc_law_outcome (by rintro _ _ _ _ ⟨_, _, _, _, _, _, _, _, _, _, _, rfl, _⟩; rfl) ?_
  intro cdv Ar outer s H E ds M Q R hr ⟨A, d, c, b, sp, bs, F, S, sd, num, first, eds, hL, hc, kk⟩
  subst eds
  have sc := sc_law_outcome
  have hw := hc.w sd
  obtain ⟨y, ey, ey2⟩ := t1_eq b sd
  obtain ⟨fk, efk, hT⟩ := hL.fk
  have hLo := hL.o
  refine wss_cons ?_
  refine ws_par3 5 6 7 rfl sc.nd ?_
  refine wa_cons ?_
  refine we_sub ?_
  refine we_sub ?_
  refine we_dget (hu_of hr) ?_
  refine we_var 0 rfl ?_
  refine we_str ?_
  refine ⟨_, _, rfl, .inl ⟨_, .inr "ways", hLo, rfl, rfl⟩, ?_⟩
  refine we_var 1 rfl ?_
  refine i_tup (d := dWay (c.way sd)) (by cases sd <;> rfl) ?_
  refine we_int ?_
  refine i_tup rfl ?_
  refine wa_cons ?_
  refine we_dget (hu_of hr) ?_
  refine we_var 0 rfl ?_
  refine we_str ?_
  refine ⟨_, _, rfl, .inl ⟨_, .inr "least", hLo, rfl, rfl⟩, ?_⟩
  refine wa_cons ?_
  refine we_dget (hu_of hr) ?_
  refine we_var 0 rfl ?_
  refine we_str ?_
  refine ⟨_, _, rfl, .inl ⟨_, .inr "most", hLo, rfl, rfl⟩, ?_⟩
  refine wa_nil ?_
  refine ⟨_, _, _, rfl, ?_⟩
  refine wss_cons ?_
  refine ws_if ?_
  refine wt_cmp od_eq ?_
  refine we_dget (hu_of hr) ?_
  refine we_var 0 rfl ?_
  refine we_str ?_
  refine ⟨_, _, rfl, .inl ⟨_, .inr "speed", hLo, rfl, rfl⟩, ?_⟩
  refine we_str ?_
  refine b_eqS ?_
  refine t_bl ?_
  have w0 := hw.w0
  have w1 := hw.w1
  rcases hT with ⟨esp, eF⟩ | ⟨esp, hF⟩
  · subst esp
    refine ⟨fun _ => ?_, fun hk => absurd hk (by decide +kernel)⟩
    refine wss_cons ?_
    refine ws_set 8 sc.nd ?_
    refine we_bin od_add ?_
    refine we_bin od_add ?_
    refine we_var 3 rfl ?_
    refine we_bin od_mul ?_
    refine we_dget (hu_of hr) ?_
    refine we_var 0 rfl ?_
    refine we_str ?_
    refine ⟨_, _, rfl, .inl ⟨_, .inr "fails", hLo, rfl, rfl⟩, ?_⟩
    refine we_var 5 rfl ?_
    refine b_mul (.inr ⟨by omega, by omega⟩) ?_
    refine b_addI ?_
    refine we_sub ?_
    refine we_var 7 rfl ?_
    refine we_var 1 rfl ?_
    refine i_tup (t0_eq b sd) ?_
    refine b_addI ?_
    refine wss_one ?_
    refine ws_ret ?_
    refine we_tup ?_
    refine wa_cons ?_
    refine we_var 8 rfl ?_
    refine wa_cons ?_
    refine we_bin od_add ?_
    refine we_var 8 rfl ?_
    refine we_sub ?_
    refine we_var 7 rfl ?_
    refine we_bin od_sub ?_
    refine we_int ?_
    refine we_var 1 rfl ?_
    refine b_sub ?_
    refine i_tup ey ?_
    refine b_addI ?_
    refine wa_nil ?_
    refine ⟨size_ok (by simp), _, Sub.refl _, ?_⟩
    have e : first + b.fails * (c.way sd).wheel + b.t0 sd + y = first + b.fails * (c.way sd).wheel + b.t1 sd := by rw [Int.add_assoc, ey2]
    rw [e]
    subst eF
    exact kk
  · subst esp
    refine ⟨fun hk => absurd hk (by decide +kernel), fun _ => ?_⟩
    refine wss_nil ?_
    refine wss_cons ?_
    refine ws_if ?_
    refine wt_cmp od_eq ?_
    refine we_dget (hu_of hr) ?_
    refine we_var 0 rfl ?_
    refine we_str ?_
    refine ⟨_, _, rfl, .inl ⟨_, .inr "speed", hLo, rfl, rfl⟩, ?_⟩
    refine we_str ?_
    refine b_eqS ?_
    refine t_bl ?_
    refine ⟨fun _ => ?_, fun hk => absurd hk (by decide +kernel)⟩
    refine wss_cons ?_
    refine ws_set 8 sc.nd ?_
    refine we_bin od_add ?_
    refine we_bin od_add ?_
    refine we_var 3 rfl ?_
    refine we_bin od_mul ?_
    refine we_dget2 (hu_of hr) ?_
    refine we_dget (hu_of hr) ?_
    refine we_var 0 rfl ?_
    refine we_str ?_
    refine ⟨_, _, rfl, .inl ⟨_, .inr "fates", hLo, rfl, rfl⟩, ?_⟩
    refine ⟨_, rfl, .inr ⟨_, efk⟩, ?_⟩
    refine we_tup ?_
    refine wa_cons ?_
    refine we_var 1 rfl ?_
    refine wa_cons ?_
    refine we_var 2 rfl ?_
    refine wa_nil ?_
    refine ⟨size_ok (by simp), ?_⟩
    refine we_int ?_
    refine ⟨_, .inr ⟨_, [.inl (sI sd), .inl num], efk, rfl, rfl⟩, ?_⟩
    rw [hF sd num]
    refine we_var 5 rfl ?_
    refine b_mul (.inr ⟨by omega, by omega⟩) ?_
    refine b_addI ?_
    refine we_sub ?_
    refine we_var 7 rfl ?_
    refine we_var 1 rfl ?_
    refine i_tup (t0_eq b sd) ?_
    refine b_addI ?_
    refine wss_one ?_
    refine ws_ret ?_
    refine we_tup ?_
    refine wa_cons ?_
    refine we_var 8 rfl ?_
    refine wa_cons ?_
    refine we_bin od_add ?_
    refine we_var 8 rfl ?_
    refine we_sub ?_
    refine we_var 7 rfl ?_
    refine we_bin od_sub ?_
    refine we_int ?_
    refine we_var 1 rfl ?_
    refine b_sub ?_
    refine i_tup ey ?_
    refine b_addI ?_
    refine wa_nil ?_
    refine ⟨size_ok (by simp), _, Sub.refl _, ?_⟩
    have e : first + F sd num * (c.way sd).wheel + b.t0 sd + y = first + F sd num * (c.way sd).wheel + b.t1 sd := by rw [Int.add_assoc, ey2]
    rw [e]
    exact kk
end
end K81

set_option Elab.async false
set_option linter.all false
set_option maxRecDepth 100000
set_option maxHeartbeats 4000000
namespace K81
open PySem PySem.Spec PyProof.Rows L2 DL
theorem pn {M : Mem} {A : Nat → Addr} {m : MO} {i j : Nat} (h : Inj A) (e : i ≠ j := by decide) (hi : i < 16 := by decide) (hj : j < 16 := by decide) : put M (A j) m (A i) = M (A i) := put_ne (h.ne e hi hj)
/-- only the line's own objects change -/
def Lf (A : Nat → Addr) (M M' : Mem) : Prop := ∀ x m, (∀ i, i < 15 → x ≠ A i) → M x = some m → M' x = some m
theorem Lf.refl {A : Nat → Addr} (M : Mem) : Lf A M M := fun _ _ _ h => h
theorem Lf.trans {A : Nat → Addr} {M M1 M2 : Mem} (f : Lf A M M1) (g : Lf A M1 M2) : Lf A M M2 := fun x m n e => g x m n (f x m n e)
theorem Lf.put {A : Nat → Addr} {M : Mem} {m : MO} (i : Nat) (hi : i < 15 := by decide) : Lf A M (put M (A i) m) := fun x u n e => (put_ne (n i hi)).trans e
def iT (s : Bool) : Nat := if s then 3 else 2
def iU (s : Bool) : Nat := if s then 6 else 5
def iE (s : Bool) : Nat := if s then 10 else 9
section
variable {M : Mem} {A : Nat → Addr} {d : Des} {c : Cal} {b : Bnd} {sp : Str} {bs : Int} {F : Bool → Int → Int} {S : Cst Int}
theorem LineAt.tS (h : LineAt M A d c b sp bs F S) (s : Bool) : M (A (iT s)) = some (.lst ((S.w s).tolds.map D.int)) := by cases s; exact h.t0; exact h.t1
theorem LineAt.uS (h : LineAt M A d c b sp bs F S) (s : Bool) : M (A (iU s)) = some (.lst ((S.w s).tbs.map D.int)) := by cases s; exact h.u0; exact h.u1
theorem LineAt.eS (h : LineAt M A d c b sp bs F S) (s : Bool) : ∃ l : List D, M (A (iE s)) = some (.lst l) ∧ l.length = (S.w s).tolds.length := by cases s; exact h.e0; exact h.e1
end
theorem ns_le {t s wh : Int} (h : 0 < wh) : t ≤ ns t s wh := by
  unfold ns
  have := Int.emod_nonneg (s - t) (show wh ≠ 0 by omega)
  omega
structure Bnd.Nn (b : Bnd) : Prop where
  t0 : ∀ s, 0 ≤ b.t0 s
  t1 : ∀ s, 0 ≤ b.t1 s
theorem st2_le {c : Cal} {b : Bnd} {F : Bool → Int → Int} {wy : Way} {W : Wst Int} {bg : Int} : bg ≤ st2 (opsI c b F) wy W bg := by
  have h1 : bg ≤ st1 (opsI c b F) wy W bg := by
    unfold st1
    split
    · exact Int.le_max_left _ _
    · exact Int.le_refl _
  unfold st2
  split
  · exact Int.le_trans h1 (Int.le_max_left _ _)
  · exact h1
theorem fst_le {c : Cal} {b : Bnd} {F : Bool → Int → Int} {wy : Way} {a : Int} {W : Wst Int} {bg : Int} (h : 0 < wy.wheel) : bg ≤ fst_ (opsI c b F) wy a W bg := Int.le_trans (st2_le (c := c) (b := b) (F := F) (wy := wy) (W := W)) (ns_le h)
section
variable {P : Program} {w : World} {K : PySem.W.Frag} {mg : Str → Option Value} {base : Heap}
def sp_law_letter : DSp := fun ds M P R => ∃ (A : Nat → Addr) (d : Des) (c : Cal) (b : Bnd) (sp : Str) (bs : Int) (F : Bool → Int → Int) (S : Cst Int) (s : Bool) (bg : Int), ds = [.ref (A 0), dS s, .int bg] ∧ LineAt M A d c b sp bs F S ∧ c.Ok ∧ b.Nn ∧ 0 ≤ bg ∧ (∀ s n, 0 ≤ F s n) ∧ (S.w s).tolds.length ≤ 50000 ∧
  ∀ M', Lf A M M' → LineAt M' A d c b sp bs F (S.setW s (putL (opsI c b F) (c.way s) s (bs * c.per s) (S.w s) bg)) → P (.int (lastR (putL (opsI c b F) (c.way s) s (bs * c.per s) (S.w s) bg) 0)) M'
theorem sc_law_letter : FnScope ["line", "side", "begun", "first", "way", "place", "number", "lanes", "tick", "come", "told", "upto", "told_row", "letters"] ["line", "side", "begun"] (defScope (Hd.topS 30)) := ⟨rfl, rfl, rfl, by decide +kernel, rfl, by decide +kernel, by decide +kernel⟩
theorem ok_law_letter (C : Ct K mg base) : DefOk P w K mg base CX0 2 "_law_letter" ["line", "side", "begun"] sp_law_letter := by
  refine C.df 25 25 (d := Hd.d_law_letter) rfl rfl rfl (fun _ _ _ _ _ _ us hl => match us, hl with | [_, _, _], _ => rfl) fun f fd F => fn_ok F sc_law_letter (by rintro _ _ _ _ ⟨_, _, _, _, _, _, _, _, _, _, rfl, _⟩; rfl) ?_
  intro cdv Ar outer s H E ds M Q R hr ⟨A, d, c, b, sp, bs, F, S, sd, bg, eds, hL, hc, hb, hbg, hF, hn, kk⟩
  subst eds
  have sc := sc_law_letter
  have hw := hc.w sd
  have hp := hc.p sd
  have hI := hL.inj
  have hLo := hL.o
  generalize ewy : c.way sd = wy at *
  have s0 := hw.s0
  have r0 := hw.r0
  refine wss_cons ?_
  refine ws_par 4 5 rfl sc.nd ?_
  refine wa_cons ?_
  refine we_sub ?_
  refine we_dget (hu_of hr) ?_
  refine we_var 0 rfl ?_
  refine we_str ?_
  refine ⟨_, _, rfl, .inl ⟨_, .inr "ways", hLo, rfl, rfl⟩, ?_⟩
  refine we_var 1 rfl ?_
  refine i_tup (d := dWay wy) (by rw [← ewy]; cases sd <;> rfl) ?_
  refine wa_cons ?_
  refine we_callB cd_len (C.fr 67) ?_
  refine wa_cons ?_
  refine we_sub ?_
  refine we_dget (hu_of hr) ?_
  refine we_var 0 rfl ?_
  refine we_str ?_
  refine ⟨_, _, rfl, .inl ⟨_, .inr "told", hLo, rfl, rfl⟩, ?_⟩
  refine we_var 1 rfl ?_
  refine i_lst (d := .ref (A (iT sd))) hL.t (by cases sd <;> rfl) ?_
  refine wa_nil ?_
  refine c_len ⟨_, hL.tS sd, rfl⟩ ?_
  rw [List.length_map]
  refine wa_nil ?_
  refine ⟨_, _, rfl, ?_⟩
  refine wss_cons ?_
  refine ws_par3 6 7 8 rfl sc.nd ?_
  refine wa_cons ?_
  refine we_bin od_add ?_
  refine we_bin od_mul ?_
  refine we_dget (hu_of hr) ?_
  refine we_var 0 rfl ?_
  refine we_str ?_
  refine ⟨_, _, rfl, .inl ⟨_, .inr "base", hLo, rfl, rfl⟩, ?_⟩
  refine we_sub ?_
  refine we_dget (hu_of hr) ?_
  refine we_var 0 rfl ?_
  refine we_str ?_
  refine ⟨_, _, rfl, .inl ⟨_, .inr "per", hLo, rfl, rfl⟩, ?_⟩
  refine we_var 1 rfl ?_
  refine i_tup (d := .int (c.per sd)) (by cases sd <;> rfl) ?_
  refine b_mul (.inr ⟨by omega, by omega⟩) ?_
  refine we_var 5 rfl ?_
  refine b_addI ?_
  refine wa_cons ?_
  refine we_callB cd_len (C.fr 67) ?_
  refine wa_cons ?_
  refine we_sub ?_
  refine we_var 4 rfl ?_
  refine we_int ?_
  refine i_tup rfl ?_
  refine wa_nil ?_
  refine c_len rfl ?_
  rw [List.length_map]
  refine wa_cons ?_
  refine we_var 2 rfl ?_
  refine wa_nil ?_
  refine ⟨_, _, _, rfl, ?_⟩
  generalize hn0 : (S.w sd).tolds.length = n at *
  refine wss_cons ?_
  refine WS.nxt (fun (Γ' : Sl) (M' : Mem) => Γ' = [some (D.ref (A 0)), some (dS sd), some (D.int bg), none, some (dWay wy), some (D.int (n : Nat)), some (D.int (bs * c.per sd + (n : Nat))), some (D.int (wy.slots.length : Nat)), some (D.int (st1 (opsI c b F) wy (S.w sd) bg)), none, none, none, none, none] ∧ M' = M) ?_ ?_
  · refine ws_if ?_
    refine wt_cmp od_ge ?_
    refine we_var 5 rfl ?_
    refine we_var 7 rfl ?_
    refine b_cmp ?_
    refine t_bl ?_
    refine ⟨fun hk => ?_, fun hk => ?_⟩
    · have hk : wy.slots.length ≤ n := by have := of_decide_eq_true hk; omega
      have hat := getD_at (d := bg) (show n - wy.slots.length < (S.w sd).tolds.length by omega)
      refine wss_one ?_
      refine ws_set 8 sc.nd ?_
      refine we_callB (cd_max rfl) (C.fr 69) ?_
      refine wa_cons ?_
      refine we_var 8 rfl ?_
      refine wa_cons ?_
      refine we_sub ?_
      refine we_sub ?_
      refine we_dget (hu_of hr) ?_
      refine we_var 0 rfl ?_
      refine we_str ?_
      refine ⟨_, _, rfl, .inl ⟨_, .inr "told", hLo, rfl, rfl⟩, ?_⟩
      refine we_var 1 rfl ?_
      refine i_lst (d := .ref (A (iT sd))) hL.t (by cases sd <;> rfl) ?_
      refine we_bin od_sub ?_
      refine we_var 5 rfl ?_
      refine we_var 7 rfl ?_
      refine b_sub ?_
      refine i_lst (hL.tS sd) (atI_sub hk (map_at hat)) ?_
      refine wa_nil ?_
      refine c_max ?_
      refine ⟨?_, rfl⟩
      unfold st1
      rw [hn0, if_pos hk]
      rfl
    · have hk : ¬ wy.slots.length ≤ n := by have := of_decide_eq_false hk; omega
      refine wss_nil ⟨?_, rfl⟩
      unfold st1
      rw [hn0, if_neg hk]
      rfl
  rintro _ M1 ⟨rfl, eM⟩
  obtain rfl := eM.symm
  refine wss_cons ?_
  refine WS.nxt (fun (Γ' : Sl) (M' : Mem) => Γ' = [some (D.ref (A 0)), some (dS sd), some (D.int bg), none, some (dWay wy), some (D.int (n : Nat)), some (D.int (bs * c.per sd + (n : Nat))), some (D.int (wy.slots.length : Nat)), some (D.int (st2 (opsI c b F) wy (S.w sd) bg)), none, none, none, none, none] ∧ M' = M) ?_ ?_
  · refine ws_if ?_
    refine wt_cmp od_ge ?_
    refine we_var 5 rfl ?_
    refine we_sub ?_
    refine we_var 4 rfl ?_
    refine we_int ?_
    refine i_tup rfl ?_
    refine b_cmp ?_
    refine t_bl ?_
    refine ⟨fun hk => ?_, fun hk => ?_⟩
    · have hk : wy.reach ≤ (n : Int) := of_decide_eq_true hk
      have lb := hL.lb sd
      have hat := getD_at (d := st1 (opsI c b F) wy (S.w sd) bg) (show n - wy.reach.toNat < (S.w sd).tbs.length by omega)
      refine wss_one ?_
      refine ws_set 8 sc.nd ?_
      refine we_callB (cd_max rfl) (C.fr 69) ?_
      refine wa_cons ?_
      refine we_var 8 rfl ?_
      refine wa_cons ?_
      refine we_sub ?_
      refine we_sub ?_
      refine we_dget (hu_of hr) ?_
      refine we_var 0 rfl ?_
      refine we_str ?_
      refine ⟨_, _, rfl, .inl ⟨_, .inr "upto", hLo, rfl, rfl⟩, ?_⟩
      refine we_var 1 rfl ?_
      refine i_lst (d := .ref (A (iU sd))) hL.u (by cases sd <;> rfl) ?_
      refine we_bin od_sub ?_
      refine we_var 5 rfl ?_
      refine we_sub ?_
      refine we_var 4 rfl ?_
      refine we_int ?_
      refine i_tup rfl ?_
      refine b_sub ?_
      have er : wy.reach = (wy.reach.toNat : Int) := by omega
      refine i_lst (hL.uS sd) (by rw [er]; exact atI_sub (by omega) (map_at hat)) ?_
      refine wa_nil ?_
      refine c_max ?_
      refine ⟨?_, rfl⟩
      unfold st2
      rw [hn0, if_pos hk]
      rfl
    · have hk : ¬ wy.reach ≤ (n : Int) := of_decide_eq_false hk
      refine wss_nil ⟨?_, rfl⟩
      unfold st2
      rw [hn0, if_neg hk]
  rintro _ M1 ⟨rfl, eM⟩
  obtain rfl := eM.symm
  refine wss_cons ?_
  refine ws_set 3 sc.nd ?_
  refine we_call (ok_law_behind C) hr ?_
  refine wa_cons ?_
  refine we_sub ?_
  refine we_var 4 rfl ?_
  refine we_int ?_
  refine i_tup rfl ?_
  refine wa_cons ?_
  refine we_sub ?_
  refine we_sub ?_
  refine we_var 4 rfl ?_
  refine we_int ?_
  refine i_tup rfl ?_
  refine we_bin od_mod ?_
  refine we_callT cd_int (C.fr 65) ?_
  refine wa_cons ?_
  refine we_var 6 rfl ?_
  refine wa_nil ?_
  refine c_int ?_
  refine we_var 7 rfl ?_
  refine b_i (show (0 : Int) < (wy.slots.length : Int) by omega) ?_
  refine i_tup (Way.slot_at hw _) ?_
  refine wa_cons ?_
  refine we_var 8 rfl ?_
  refine wa_nil ?_
  refine ⟨_, _, _, rfl, hw.w0, ?_⟩
  have efst : ns (st2 (opsI c b F) wy (S.w sd) bg) (wy.slot (bs * c.per sd + (n : Nat))) wy.wheel = fst_ (opsI c b F) wy (bs * c.per sd) (S.w sd) bg := by unfold fst_; rw [hn0]; rfl
  rw [efst]
  have hfst : bg ≤ fst_ (opsI c b F) wy (bs * c.per sd) (S.w sd) bg := fst_le hw.w0
  refine wss_cons ?_
  refine ws_asg ?_
  refine we_call (ok_law_outcome C) hr ?_
  refine wa_cons ?_
  refine we_var 0 rfl ?_
  refine wa_cons ?_
  refine we_var 1 rfl ?_
  refine wa_cons ?_
  refine we_var 6 rfl ?_
  refine wa_cons ?_
  refine we_var 3 rfl ?_
  refine wa_nil ?_
  refine ⟨A, d, c, b, sp, bs, F, S, sd, _, _, rfl, hL, hc, ?_⟩
  have hcm0 : 0 ≤ (opsI c b F).come sd (bs * c.per sd + (n : Nat)) (fst_ (opsI c b F) wy (bs * c.per sd) (S.w sd) bg) := by
    show 0 ≤ fst_ (opsI c b F) wy (bs * c.per sd) (S.w sd) bg + F sd (bs * c.per sd + (n : Nat)) * (c.way sd).wheel + b.t0 sd
    have h1 := Int.mul_nonneg (hF sd (bs * c.per sd + (n : Nat))) (show 0 ≤ (c.way sd).wheel by have := (hc.w sd).w0; omega)
    have h2 := hb.t0 sd
    omega
  generalize hcm : (opsI c b F).come sd (bs * c.per sd + (n : Nat)) (fst_ (opsI c b F) wy (bs * c.per sd) (S.w sd) bg) = cm at *
  generalize htd : (opsI c b F).told sd (bs * c.per sd + (n : Nat)) (fst_ (opsI c b F) wy (bs * c.per sd) (S.w sd) bg) = td at *
  have eput : putL (opsI c b F) wy sd (bs * c.per sd) (S.w sd) bg = ⟨(S.w sd).tolds ++ [td], snoc max (S.w sd).reads cm, snoc max (S.w sd).tbs td⟩ := by
    unfold putL
    rw [hn0, hcm, htd]
    rfl
  refine wg_tup rfl rfl ?_
  refine wgs_cons ?_
  refine wg_name 9 sc.nd ?_
  refine wgs_cons ?_
  refine wg_name 10 sc.nd ?_
  refine wgs_nil ?_
  refine wss_cons ?_
  refine ws_par3 11 12 13 rfl sc.nd ?_
  refine wa_cons ?_
  refine we_sub ?_
  refine we_dget (hu_of hr) ?_
  refine we_var 0 rfl ?_
  refine we_str ?_
  refine ⟨_, _, rfl, .inl ⟨_, .inr "upto", hLo, rfl, rfl⟩, ?_⟩
  refine we_var 1 rfl ?_
  refine i_lst (d := .ref (A (iU sd))) hL.u (by cases sd <;> rfl) ?_
  refine wa_cons ?_
  refine we_sub ?_
  refine we_dget (hu_of hr) ?_
  refine we_var 0 rfl ?_
  refine we_str ?_
  refine ⟨_, _, rfl, .inl ⟨_, .inr "told", hLo, rfl, rfl⟩, ?_⟩
  refine we_var 1 rfl ?_
  refine i_lst (d := .ref (A (iT sd))) hL.t (by cases sd <;> rfl) ?_
  refine wa_cons ?_
  refine we_sub ?_
  refine we_dget (hu_of hr) ?_
  refine we_var 0 rfl ?_
  refine we_str ?_
  refine ⟨_, _, rfl, .inl ⟨_, .inr "letters", hLo, rfl, rfl⟩, ?_⟩
  refine we_var 1 rfl ?_
  refine i_lst (d := .ref (A (iE sd))) hL.e (by cases sd <;> rfl) ?_
  refine wa_nil ?_
  refine ⟨_, _, _, rfl, ?_⟩
  have hnS : n < sizeLine := by rw [sizeLine_eq]; omega
  have lb := hL.lb sd
  refine wss_cons ?_
  refine WS.nxt (fun (Γ' : Sl) (M' : Mem) => Γ' = [some (D.ref (A 0)), some (dS sd), some (D.int bg), some (D.int (fst_ (opsI c b F) wy (bs * c.per sd) (S.w sd) bg)), some (dWay wy), some (D.int (n : Nat)), some (D.int (bs * c.per sd + (n : Nat))), some (D.int (wy.slots.length : Nat)), some (D.int (st2 (opsI c b F) wy (S.w sd) bg)), some (D.int cm), some (D.int td), some (D.ref (A (iU sd))), some (D.ref (A (iT sd))), some (D.ref (A (iE sd)))] ∧ M' = put M (A (iU sd)) (.lst ((snoc max (S.w sd).tbs td).map D.int))) ?_ ?_
  · refine ws_expr ?_
    refine we_append ?_
    refine we_var 11 rfl ?_
    refine ⟨_, _, rfl, hL.uS sd, ?_⟩
    refine we_ifexp ?_
    refine wt_cmp od_eq ?_
    refine we_var 5 rfl ?_
    refine we_int ?_
    refine b_eqI ?_
    refine t_bl ?_
    refine ⟨fun hk => ?_, fun hk => ?_⟩
    · have hk : n = 0 := by have := of_decide_eq_true hk; omega
      have he : (S.w sd).tbs = [] := List.length_eq_zero_iff.mp (by omega)
      refine we_var 10 rfl ?_
      refine ⟨_, hL.uS sd, by rw [List.length_map]; omega, rfl, ?_⟩
      rw [he]
      rfl
    · have hk : n ≠ 0 := by have := of_decide_eq_false hk; omega
      have hat := getD_at (d := (0 : Int)) (show n - 1 < (S.w sd).tbs.length by omega)
      have hlast : (S.w sd).tbs.getLast? = some ((S.w sd).tbs.getD (n - 1) 0) := by rw [List.getLast?_eq_getElem?, lb, hn0]; exact hat
      refine we_callB (cd_max rfl) (C.fr 69) ?_
      refine wa_cons ?_
      refine we_var 10 rfl ?_
      refine wa_cons ?_
      refine we_sub ?_
      refine we_var 11 rfl ?_
      refine we_bin od_sub ?_
      refine we_var 5 rfl ?_
      refine we_int ?_
      refine b_sub ?_
      refine i_lst (hL.uS sd) (show atI _ ((n : Int) - ((1 : Nat) : Int)) = _ from atI_sub (by omega) (map_at hat)) ?_
      refine wa_nil ?_
      refine c_max ?_
      refine ⟨_, hL.uS sd, by rw [List.length_map]; omega, rfl, ?_⟩
      unfold snoc
      rw [hlast, List.map_append]
      rfl
  rintro _ M1 ⟨rfl, rfl⟩
  have nTU : A (iT sd) ≠ A (iU sd) := hI.ne (by cases sd <;> decide) (by cases sd <;> decide) (by cases sd <;> decide)
  have nTE : A (iT sd) ≠ A (iE sd) := hI.ne (by cases sd <;> decide) (by cases sd <;> decide) (by cases sd <;> decide)
  have nUE : A (iU sd) ≠ A (iE sd) := hI.ne (by cases sd <;> decide) (by cases sd <;> decide) (by cases sd <;> decide)
  have n0U : A 0 ≠ A (iU sd) := hI.ne (by cases sd <;> decide) (by decide) (by cases sd <;> decide)
  have n0T : A 0 ≠ A (iT sd) := hI.ne (by cases sd <;> decide) (by decide) (by cases sd <;> decide)
  have n0E : A 0 ≠ A (iE sd) := hI.ne (by cases sd <;> decide) (by decide) (by cases sd <;> decide)
  have n7U : A 7 ≠ A (iU sd) := hI.ne (by cases sd <;> decide) (by decide) (by cases sd <;> decide)
  have n7T : A 7 ≠ A (iT sd) := hI.ne (by cases sd <;> decide) (by decide) (by cases sd <;> decide)
  have n7E : A 7 ≠ A (iE sd) := hI.ne (by cases sd <;> decide) (by decide) (by cases sd <;> decide)
  have n07 : A 0 ≠ A 7 := hI.ne (by decide) (by decide) (by decide)
  obtain ⟨el, eel, lel⟩ := hL.eS sd
  refine wss_cons ?_
  refine ws_expr ?_
  refine we_append ?_
  refine we_var 12 rfl ?_
  refine ⟨_, _, rfl, (put_ne nTU).trans (hL.tS sd), ?_⟩
  refine we_var 10 rfl ?_
  refine ⟨_, (put_ne nTU).trans (hL.tS sd), by rw [List.length_map]; omega, ?_⟩
  refine wss_cons ?_
  refine ws_asg ?_
  refine we_callB (cd_max rfl) (C.fr 69) ?_
  refine wa_cons ?_
  refine we_sub ?_
  refine we_dget (hu_of hr) ?_
  refine we_var 0 rfl ?_
  refine we_str ?_
  refine ⟨_, _, rfl, .inl ⟨_, .inr "read", ((put_ne n0T).trans (put_ne n0U)).trans hLo, rfl, rfl⟩, ?_⟩
  refine we_var 1 rfl ?_
  refine i_lst (d := .int (lastR (S.w sd) 0)) (((put_ne n7T).trans (put_ne n7U)).trans hL.r) (by cases sd <;> rfl) ?_
  refine wa_cons ?_
  refine we_var 9 rfl ?_
  refine wa_nil ?_
  refine c_max ?_
  have eread : max (lastR (S.w sd) 0) cm = lastR (⟨(S.w sd).tolds ++ [td], snoc max (S.w sd).reads cm, snoc max (S.w sd).tbs td⟩ : Wst Int) 0 := by
    unfold lastR
    rw [snoc_last]
    cases (S.w sd).reads.getLast? with
    | none => show max 0 cm = cm; omega
    | some y => show max y cm = max cm y; omega
  rw [eread]
  refine wg_lsub ?_
  refine we_dget (hu_of hr) ?_
  refine we_var 0 rfl ?_
  refine we_str ?_
  refine ⟨_, _, rfl, .inl ⟨_, .inr "read", ((put_ne n0T).trans (put_ne n0U)).trans hLo, rfl, rfl⟩, ?_⟩
  refine we_var 1 rfl ?_
  refine ⟨_, _, (if sd then 1 else 0 : Nat), rfl, ((put_ne n7T).trans (put_ne n7U)).trans hL.r, by cases sd <;> rfl, by cases sd <;> exact Nat.le_of_ble_eq_true rfl, ?_⟩
  refine wss_cons ?_
  refine ws_expr ?_
  refine we_append ?_
  refine we_var 13 rfl ?_
  have nE7 : A (iE sd) ≠ A 7 := Ne.symm n7E
  refine ⟨_, _, rfl, (((put_ne nE7).trans (put_ne (Ne.symm nTE))).trans (put_ne (Ne.symm nUE))).trans eel, ?_⟩
  refine we_tup ?_
  refine wa_cons ?_
  refine we_var 3 rfl ?_
  refine wa_cons ?_
  refine we_var 9 rfl ?_
  refine wa_cons ?_
  refine we_var 10 rfl ?_
  refine wa_cons ?_
  refine we_sub ?_
  refine we_dget (hu_of hr) ?_
  refine we_var 0 rfl ?_
  refine we_str ?_
  refine ⟨_, _, rfl, .inl ⟨_, .inr "read", (((put_ne n07).trans (put_ne n0T)).trans (put_ne n0U)).trans hLo, rfl, rfl⟩, ?_⟩
  refine we_var 1 rfl ?_
  refine i_lst (d := .int (lastR (⟨(S.w sd).tolds ++ [td], snoc max (S.w sd).reads cm, snoc max (S.w sd).tbs td⟩ : Wst Int) 0)) put_same (by cases sd <;> rfl) ?_
  refine wa_nil ?_
  refine ⟨size_ok (by simp), ?_⟩
  refine ⟨_, (((put_ne nE7).trans (put_ne (Ne.symm nTE))).trans (put_ne (Ne.symm nUE))).trans eel, by omega, ?_⟩
  refine wss_one (ws_ret ?_)
  refine we_sub ?_
  refine we_dget (hu_of hr) ?_
  refine we_var 0 rfl ?_
  refine we_str ?_
  refine ⟨_, _, rfl, .inl ⟨_, .inr "read", ((((put_ne n0E).trans (put_ne n07)).trans (put_ne n0T)).trans (put_ne n0U)).trans hLo, rfl, rfl⟩, ?_⟩
  refine we_var 1 rfl ?_
  refine i_lst (d := .int (lastR (⟨(S.w sd).tolds ++ [td], snoc max (S.w sd).reads cm, snoc max (S.w sd).tbs td⟩ : Wst Int) 0)) ((put_ne n7E).trans put_same) (by cases sd <;> rfl) ?_
  rw [eput] at kk
  refine ⟨_, Sub.refl _, kk _ ?_ ?_⟩
  · refine (((Lf.put (iU sd) (by cases sd <;> decide)).trans (Lf.put (iT sd) (by cases sd <;> decide))).trans (Lf.put 7)).trans (Lf.put (iE sd) (by cases sd <;> decide))
  · cases sd with
    | false =>
      exact { o := ((((pn hI).trans (pn hI)).trans (pn hI)).trans (pn hI)).trans hL.o
              t := ((((pn hI).trans (pn hI)).trans (pn hI)).trans (pn hI)).trans hL.t
              t0 := (((pn hI (i := 2) (j := 9)).trans (pn hI (i := 2) (j := 7))).trans put_same).trans (by rw [Cst.setW_get, List.map_append]; rfl)
              t1 := ((((pn hI).trans (pn hI)).trans (pn hI)).trans (pn hI)).trans hL.t1
              u := ((((pn hI).trans (pn hI)).trans (pn hI)).trans (pn hI)).trans hL.u
              u0 := (((pn hI (i := 5) (j := 9)).trans (pn hI (i := 5) (j := 7))).trans ((pn hI (i := 5) (j := 2)).trans put_same)).trans (by rw [Cst.setW_get])
              u1 := ((((pn hI).trans (pn hI)).trans (pn hI)).trans (pn hI)).trans hL.u1
              r := ((pn hI (i := 7) (j := 9)).trans put_same).trans rfl
              e := ((((pn hI).trans (pn hI)).trans (pn hI)).trans (pn hI)).trans hL.e
              e0 := ⟨_, put_same, by rw [Cst.setW_get]; simp [lel]⟩
              e1 := let ⟨l, h1, h2⟩ := hL.e1; ⟨l, ((((pn hI).trans (pn hI)).trans (pn hI)).trans (pn hI)).trans h1, h2⟩
              bg := ((((pn hI).trans (pn hI)).trans (pn hI)).trans (pn hI)).trans hL.bg
              dn := ((((pn hI).trans (pn hI)).trans (pn hI)).trans (pn hI)).trans hL.dn
              h := ((((pn hI).trans (pn hI)).trans (pn hI)).trans (pn hI)).trans hL.h
              z := ((((pn hI).trans (pn hI)).trans (pn hI)).trans (pn hI)).trans hL.z
              fk := let ⟨k, h1, h2⟩ := hL.fk; ⟨k, ((((pn hI).trans (pn hI)).trans (pn hI)).trans (pn hI)).trans h1, h2⟩
              inj := hI
              lb := fun t => by
                cases t with
                | false => rw [Cst.setW_get]; simp [snoc, hn0] at lb ⊢; omega
                | true => exact hL.lb true }
    | true =>
      exact { o := ((((pn hI).trans (pn hI)).trans (pn hI)).trans (pn hI)).trans hL.o
              t := ((((pn hI).trans (pn hI)).trans (pn hI)).trans (pn hI)).trans hL.t
              t1 := (((pn hI (i := 3) (j := 10)).trans (pn hI (i := 3) (j := 7))).trans put_same).trans (by rw [Cst.setW_get, List.map_append]; rfl)
              t0 := ((((pn hI).trans (pn hI)).trans (pn hI)).trans (pn hI)).trans hL.t0
              u := ((((pn hI).trans (pn hI)).trans (pn hI)).trans (pn hI)).trans hL.u
              u1 := (((pn hI (i := 6) (j := 10)).trans (pn hI (i := 6) (j := 7))).trans ((pn hI (i := 6) (j := 3)).trans put_same)).trans (by rw [Cst.setW_get])
              u0 := ((((pn hI).trans (pn hI)).trans (pn hI)).trans (pn hI)).trans hL.u0
              r := ((pn hI (i := 7) (j := 10)).trans put_same).trans rfl
              e := ((((pn hI).trans (pn hI)).trans (pn hI)).trans (pn hI)).trans hL.e
              e1 := ⟨_, put_same, by rw [Cst.setW_get]; simp [lel]⟩
              e0 := let ⟨l, h1, h2⟩ := hL.e0; ⟨l, ((((pn hI).trans (pn hI)).trans (pn hI)).trans (pn hI)).trans h1, h2⟩
              bg := ((((pn hI).trans (pn hI)).trans (pn hI)).trans (pn hI)).trans hL.bg
              dn := ((((pn hI).trans (pn hI)).trans (pn hI)).trans (pn hI)).trans hL.dn
              h := ((((pn hI).trans (pn hI)).trans (pn hI)).trans (pn hI)).trans hL.h
              z := ((((pn hI).trans (pn hI)).trans (pn hI)).trans (pn hI)).trans hL.z
              fk := let ⟨k, h1, h2⟩ := hL.fk; ⟨k, ((((pn hI).trans (pn hI)).trans (pn hI)).trans (pn hI)).trans h1, h2⟩
              inj := hI
              lb := fun t => by
                cases t with
                | true => rw [Cst.setW_get]; simp [snoc, hn0] at lb ⊢; omega
                | false => exact hL.lb false }
end
end K81

set_option Elab.async false
set_option linter.all false
set_option maxRecDepth 100000
set_option maxHeartbeats 4000000
namespace K81
open PySem PySem.Spec PyProof.Rows L2 DL
theorem putL_last {c : Cal} {b : Bnd} {F : Bool → Int → Int} {wy : Way} {s : Bool} {a : Int} {W : Wst Int} {bg : Int} (hw : 0 < wy.wheel) (hc : 0 < (c.way s).wheel) (hb : b.Nn) (hF : ∀ s n, 0 ≤ F s n) : ∃ y, (putL (opsI c b F) wy s a W bg).reads.getLast? = some y ∧ bg ≤ y := by
  refine ⟨_, snoc_last _ _ _, ?_⟩
  have h1 : bg ≤ (opsI c b F).come s (a + W.tolds.length) (fst_ (opsI c b F) wy a W bg) := by
    have h2 : bg ≤ fst_ (opsI c b F) wy a W bg := fst_le hw
    have h3 := Int.mul_nonneg (hF s (a + W.tolds.length)) (show 0 ≤ (c.way s).wheel by omega)
    have h4 := hb.t0 s
    show bg ≤ fst_ (opsI c b F) wy a W bg + F s (a + W.tolds.length) * (c.way s).wheel + b.t0 s
    omega
  cases W.reads.getLast? with
  | none => exact h1
  | some y => exact Int.le_trans h1 (Int.le_max_left _ _)
theorem putLs_last {c : Cal} {b : Bnd} {F : Bool → Int → Int} {wy : Way} {s : Bool} {a : Int} {W : Wst Int} {bg : Int} (hw : 0 < wy.wheel) (hc : 0 < (c.way s).wheel) (hb : b.Nn) (hF : ∀ s n, 0 ≤ F s n) {k : Nat} (hk : 0 < k) : ∃ y, (putLs (opsI c b F) wy s a bg k W).reads.getLast? = some y ∧ bg ≤ y := by
  cases k with
  | zero => exact absurd hk (Nat.lt_irrefl _)
  | succ k => exact putL_last hw hc hb hF
theorem bgC_le {c : Cal} {b : Bnd} {F : Bool → Int → Int} {S : Cst Int} {made : Int} : made ≤ bgC (opsI c b F) c S made := by
  unfold bgC
  split
  · exact Int.le_max_left _ _
  · exact Int.le_refl _
section
variable {P : Program} {w : World} {K : PySem.W.Frag} {mg : Str → Option Value} {base : Heap}
def sp_law_call : DSp := fun ds M P R => ∃ (A : Nat → Addr) (d : Des) (c : Cal) (b : Bnd) (sp : Str) (bs : Int) (F : Bool → Int → Int) (S : Cst Int) (tick : Int), ds = [.ref (A 0), .int tick] ∧ LineAt M A d c b sp bs F S ∧ c.Ok ∧ d.Ok ∧ b.Nn ∧ 0 ≤ tick ∧ (∀ s n, 0 ≤ F s n) ∧ S.begun.length ≤ 40 ∧ S.done.length = S.begun.length ∧ S.heard.length = S.begun.length ∧ (∀ s, (S.w s).tolds.length ≤ 40000) ∧
  ∀ M', Lf A M M' → LineAt M' A d c b sp bs F (putC (opsI c b F) d.round c bs S tick) → P (.int (lastR (wC1 (opsI c b F) c bs S (dnOf (opsI c b F) d.round c bs S tick)) tick)) M'
theorem sc_law_call : FnScope ["line", "tick", "begun", "p", "ready", "done", "answered", "one", "k", "gone", "begun_row", "done_row", "heard_row"] ["line", "tick"] (defScope (Hd.topS 31)) := ⟨rfl, rfl, rfl, by decide +kernel, rfl, by decide +kernel, by decide +kernel⟩
theorem ok_law_call (C : Ct K mg base) : DefOk P w K mg base CX0 3 "_law_call" ["line", "tick"] sp_law_call := by
  refine C.df 26 26 (d := Hd.d_law_call) rfl rfl rfl (fun _ _ _ _ _ _ us hl => match us, hl with | [_, _], _ => rfl) fun f fd Fd => fn_ok Fd sc_law_call (by rintro _ _ _ _ ⟨_, _, _, _, _, _, _, _, _, rfl, _⟩; rfl) ?_
  intro cdv Ar outer s H E ds M Q R hr ⟨A, d, c, b, sp, bs, F, S, tick, eds, hL, hc, hd, hb, ht, hF, hn, hnd, hnh, htl, kk⟩
  subst eds
  have sc := sc_law_call
  have hI := hL.inj
  have hLo := hL.o
  have ho := hc.o
  have p0 := hc.p false
  have p1 := hc.p true
  have w00 := (hc.w false).w0
  have w10 := (hc.w true).w0
  refine wss_cons ?_
  refine ws_par 8 9 rfl sc.nd ?_
  refine wa_cons ?_
  refine we_dget (hu_of hr) ?_
  refine we_var 0 rfl ?_
  refine we_str ?_
  refine ⟨_, _, rfl, .inl ⟨_, .inr "calls", hLo, rfl, rfl⟩, ?_⟩
  refine wa_cons ?_
  refine we_int ?_
  refine wa_nil ?_
  refine ⟨_, _, rfl, ?_⟩
  refine wss_cons ?_
  refine WS.nxt (fun (Γ' : Sl) (M' : Mem) => Γ' = [some (D.ref (A 0)), some (D.int tick), some (D.int (bgC (opsI c b F) c S tick)), none, none, none, none, none, some (D.int (S.begun.length : Nat)), some (D.int 0), none, none, none] ∧ M' = M) ?_ ?_
  · refine ws_set 2 sc.nd ?_
    refine we_ifexp ?_
    refine wt_cmp od_lt ?_
    refine we_var 8 rfl ?_
    refine we_dget (hu_of hr) ?_
    refine we_var 0 rfl ?_
    refine we_str ?_
    refine ⟨_, _, rfl, .inl ⟨_, .inr "open", hLo, rfl, rfl⟩, ?_⟩
    refine b_cmp ?_
    refine t_bl ?_
    refine ⟨fun hk => ?_, fun hk => ?_⟩
    · have hk : ¬ c.opn ≤ (S.begun.length : Int) := by have := of_decide_eq_true hk; omega
      refine we_var 1 rfl ?_
      refine ⟨?_, rfl⟩
      unfold bgC
      rw [if_neg hk]
      rfl
    · have hk : c.opn ≤ (S.begun.length : Int) := by have := of_decide_eq_false hk; omega
      have hat := getD_at (d := tick) (show S.begun.length - c.opn.toNat < S.heard.length by omega)
      refine we_callB (cd_max rfl) (C.fr 69) ?_
      refine wa_cons ?_
      refine we_var 1 rfl ?_
      refine wa_cons ?_
      refine we_sub ?_
      refine we_dget (hu_of hr) ?_
      refine we_var 0 rfl ?_
      refine we_str ?_
      refine ⟨_, _, rfl, .inl ⟨_, .inr "heard", hLo, rfl, rfl⟩, ?_⟩
      refine we_bin od_sub ?_
      refine we_var 8 rfl ?_
      refine we_dget (hu_of hr) ?_
      refine we_var 0 rfl ?_
      refine we_str ?_
      refine ⟨_, _, rfl, .inl ⟨_, .inr "open", hLo, rfl, rfl⟩, ?_⟩
      refine b_sub ?_
      have eo : c.opn = (c.opn.toNat : Int) := by omega
      refine i_lst hL.h (by rw [eo]; exact atI_sub (by omega) (map_at hat)) ?_
      refine wa_nil ?_
      refine c_max ?_
      refine ⟨?_, rfl⟩
      unfold bgC
      rw [if_pos hk]
      rfl
  rintro _ M1 ⟨rfl, eM⟩
  obtain rfl := eM.symm
  have hbg : 0 ≤ bgC (opsI c b F) c S tick := Int.le_trans ht bgC_le
  generalize hbgv : bgC (opsI c b F) c S tick = bg at *
  refine wss_cons ?_
  refine ws_for PassesOwn.never rfl ?_
  refine wi_range1 (C.fr 71) ?_
  refine we_sub ?_
  refine we_dget (hu_of hr) ?_
  refine we_var 0 rfl ?_
  refine we_str ?_
  refine ⟨_, _, rfl, .inl ⟨_, .inr "per", hLo, rfl, rfl⟩, ?_⟩
  refine we_int ?_
  refine i_tup (d := .int (c.per false)) rfl ?_
  refine ⟨_, rfl, by omega, by omega, ?_⟩
  refine ⟨fun i (Γ' : Sl) (M' : Mem) => (∃ x3 g, (0 < i → g = lastR (putLs (opsI c b F) (c.way false) false (bs * c.per false) bg i (S.w false)) 0) ∧ Γ' = [some (D.ref (A 0)), some (D.int tick), some (D.int bg), x3, none, none, none, none, some (D.int (S.begun.length : Nat)), some (D.int g), none, none, none]) ∧ Lf A M M' ∧ LineAt M' A d c b sp bs F (S.setW false (putLs (opsI c b F) (c.way false) false (bs * c.per false) bg i (S.w false))),
    ⟨⟨none, 0, fun z => absurd z (Nat.lt_irrefl _), rfl⟩, Lf.refl M, by show LineAt M A d c b sp bs F (S.setW false (S.w false)); rw [Cst.setW_same]; exact hL⟩, fun _ _ _ _ _ => trivial, ?_, ?_⟩
  · rintro i dd _ M2 hdd ⟨⟨x3, g, hg, rfl⟩, f2, hL2⟩
    obtain ⟨hi, rfl⟩ := rg1_at hdd
    refine wg_name 3 sc.nd ?_
    refine wss_one ?_
    refine ws_set 9 sc.nd ?_
    refine we_call (ok_law_letter C) hr ?_
    refine wa_cons ?_
    refine we_var 0 rfl ?_
    refine wa_cons ?_
    refine we_int ?_
    refine wa_cons ?_
    refine we_var 2 rfl ?_
    refine wa_nil ?_
    refine ⟨A, d, c, b, sp, bs, F, _, false, bg, rfl, hL2, hc, hb, hbg, hF, ?_, fun M3 f3 hL3 => ?_⟩
    · rw [Cst.setW_get, putLs_len]; have := htl false; omega
    · rw [Cst.setW_get, Cst.setW_set] at hL3
      rw [Cst.setW_get]
      exact ⟨⟨_, _, fun _ => rfl, rfl⟩, f2.trans f3, hL3⟩
  rintro _ M2 ⟨⟨x3, g, hg, rfl⟩, f2, hL2⟩
  rw [rg1_len] at hg hL2
  have hg := hg (by omega)
  obtain ⟨y0, hy0, hy0b⟩ := putLs_last (c := c) (b := b) (F := F) (wy := c.way false) (s := false) (a := bs * c.per false) (W := S.w false) (bg := bg) w00 w00 hb hF (k := (c.per false).toNat) (by omega)
  have ewc0 : putLs (opsI c b F) (c.way false) false (bs * c.per false) bg (c.per false).toNat (S.w false) = wC0 (opsI c b F) c bs S tick := by unfold wC0; rw [hbgv]
  rw [ewc0] at hg hL2 hy0
  have eg : g = y0 := by rw [hg]; unfold lastR; rw [hy0]; rfl
  have elr : lastR (wC0 (opsI c b F) c bs S tick) tick = y0 := by unfold lastR; rw [hy0]; rfl
  subst eg
  have hLo2 := hL2.o
  refine wss_cons ?_
  refine WS.nxt (fun (Γ' : Sl) (M' : Mem) => Γ' = [some (D.ref (A 0)), some (D.int tick), some (D.int bg), x3, some (D.int (S.done.getLast?.elim g fun x => max g (x + 1))), none, none, none, some (D.int (S.begun.length : Nat)), some (D.int g), none, none, none] ∧ M' = M2) ?_ ?_
  · refine ws_set 4 sc.nd ?_
    refine we_ifexp ?_
    refine wt_cmp od_eq ?_
    refine we_var 8 rfl ?_
    refine we_int ?_
    refine b_eqI ?_
    refine t_bl ?_
    refine ⟨fun hk => ?_, fun hk => ?_⟩
    · have hk : S.begun.length = 0 := by have := of_decide_eq_true hk; omega
      have he : S.done = [] := List.length_eq_zero_iff.mp (by omega)
      refine we_var 9 rfl ?_
      refine ⟨?_, rfl⟩
      rw [he]
      rfl
    · have hk : S.begun.length ≠ 0 := by have := of_decide_eq_false hk; omega
      have hat := getD_at (d := (0 : Int)) (show S.begun.length - 1 < S.done.length by omega)
      have hlast : S.done.getLast? = some (S.done.getD (S.begun.length - 1) 0) := by rw [List.getLast?_eq_getElem?, hnd]; exact hat
      refine we_callB (cd_max rfl) (C.fr 69) ?_
      refine wa_cons ?_
      refine we_var 9 rfl ?_
      refine wa_cons ?_
      refine we_bin od_add ?_
      refine we_sub ?_
      refine we_dget (hu_of hr) ?_
      refine we_var 0 rfl ?_
      refine we_str ?_
      refine ⟨_, _, rfl, .inl ⟨_, .inr "done", hLo2, rfl, rfl⟩, ?_⟩
      refine we_bin od_sub ?_
      refine we_var 8 rfl ?_
      refine we_int ?_
      refine b_sub ?_
      refine i_lst hL2.dn (show atI _ ((S.begun.length : Int) - ((1 : Nat) : Int)) = _ from atI_sub (by omega) (map_at hat)) ?_
      refine we_int ?_
      refine b_addI ?_
      refine wa_nil ?_
      refine c_max ?_
      refine ⟨?_, rfl⟩
      rw [hlast]
      rfl
  rintro _ M1 ⟨rfl, eM⟩
  obtain rfl := eM.symm
  refine wss_cons ?_
  refine ws_set 5 sc.nd ?_
  refine we_call (ok_law_behind C) hr ?_
  refine wa_cons ?_
  refine we_dget (hu_of hr) ?_
  refine we_var 0 rfl ?_
  refine we_str ?_
  refine ⟨_, _, rfl, .inl ⟨_, .inr "round", hLo2, rfl, rfl⟩, ?_⟩
  refine wa_cons ?_
  refine we_dget (hu_of hr) ?_
  refine we_var 0 rfl ?_
  refine we_str ?_
  refine ⟨_, _, rfl, .inl ⟨_, .inr "turn", hLo2, rfl, rfl⟩, ?_⟩
  refine wa_cons ?_
  refine we_var 4 rfl ?_
  refine wa_nil ?_
  refine ⟨_, _, _, rfl, hd.r0, ?_⟩
  have edn : ns (S.done.getLast?.elim g fun x => max g (x + 1)) c.turn d.round = dnOf (opsI c b F) d.round c bs S tick := by
    unfold dnOf dnC
    rw [elr]
    rfl
  rw [edn]
  have hdn0 : 0 ≤ dnOf (opsI c b F) d.round c bs S tick ∧ S.done.getLast?.getD 0 ≤ dnOf (opsI c b F) d.round c bs S tick := by
    rw [← edn]
    have h1 := ns_le (t := S.done.getLast?.elim g fun x => max g (x + 1)) (s := c.turn) hd.r0
    cases q : S.done.getLast? with
    | none =>
      rw [q] at h1
      have h1 : g ≤ ns g c.turn d.round := h1
      show 0 ≤ ns g c.turn d.round ∧ (0 : Int) ≤ ns g c.turn d.round
      omega
    | some x =>
      rw [q] at h1
      have h1 : max g (x + 1) ≤ ns (max g (x + 1)) c.turn d.round := h1
      show 0 ≤ ns (max g (x + 1)) c.turn d.round ∧ x ≤ ns (max g (x + 1)) c.turn d.round
      omega
  generalize hdnv : dnOf (opsI c b F) d.round c bs S tick = dn at *
  refine wss_cons ?_
  refine ws_set 6 sc.nd ?_
  refine we_callB (cd_max rfl) (C.fr 69) ?_
  refine wa_cons ?_
  refine we_var 5 rfl ?_
  refine wa_cons ?_
  refine we_dget (hu_of hr) ?_
  refine we_var 0 rfl ?_
  refine we_str ?_
  refine ⟨_, _, rfl, .inl ⟨_, .inr "answered", hLo2, rfl, rfl⟩, ?_⟩
  refine wa_nil ?_
  refine c_max ?_
  have emax : max dn ((S.setW false (wC0 (opsI c b F) c bs S tick)).done.getLast?.getD 0) = dn := by
    show max dn (S.done.getLast?.getD 0) = dn
    omega
  rw [emax]
  refine wss_cons ?_
  refine ws_for PassesOwn.never rfl ?_
  refine wi_lst ?_
  refine we_dget (hu_of hr) ?_
  refine we_var 0 rfl ?_
  refine we_str ?_
  refine ⟨_, _, rfl, .inl ⟨_, .inr "trees", hLo2, rfl, rfl⟩, ?_⟩
  refine ⟨_, _, rfl, hL2.z, ?_⟩
  refine ⟨fun i (Γ' : Sl) (M' : Mem) => Γ' = [some (D.ref (A 0)), some (D.int tick), some (D.int bg), x3, some (D.int (S.done.getLast?.elim g fun x => max g (x + 1))), some (D.int dn), some (D.int dn), none, some (D.int (S.begun.length : Nat)), some (D.int g), none, none, none] ∧ M' = M2, ⟨rfl, rfl⟩, fun i Γ' M' _ h => by rw [h.2]; exact hL2.z, fun i dd Γ' M' hdd => by simp at hdd, ?_⟩
  rintro _ M1 ⟨rfl, eM⟩
  obtain rfl := eM.symm
  refine wss_cons ?_
  refine ws_for PassesOwn.never rfl ?_
  refine wi_range1 (C.fr 71) ?_
  refine we_sub ?_
  refine we_dget (hu_of hr) ?_
  refine we_var 0 rfl ?_
  refine we_str ?_
  refine ⟨_, _, rfl, .inl ⟨_, .inr "per", hLo2, rfl, rfl⟩, ?_⟩
  refine we_int ?_
  refine i_tup (d := .int (c.per true)) rfl ?_
  refine ⟨_, rfl, by omega, by omega, ?_⟩
  refine ⟨fun i (Γ' : Sl) (M' : Mem) => (∃ x3 g', (0 < i → g' = lastR (putLs (opsI c b F) (c.way true) true (bs * c.per true) dn i (S.w true)) 0) ∧ Γ' = [some (D.ref (A 0)), some (D.int tick), some (D.int bg), x3, some (D.int (S.done.getLast?.elim g fun x => max g (x + 1))), some (D.int dn), some (D.int dn), none, some (D.int (S.begun.length : Nat)), some (D.int g'), none, none, none]) ∧ Lf A M M' ∧ LineAt M' A d c b sp bs F ((S.setW false (wC0 (opsI c b F) c bs S tick)).setW true (putLs (opsI c b F) (c.way true) true (bs * c.per true) dn i (S.w true))),
    ⟨⟨x3, g, fun z => absurd z (Nat.lt_irrefl _), rfl⟩, f2, ?_⟩, fun _ _ _ _ _ => trivial, ?_, ?_⟩
  · have e1 : ((S.setW false (wC0 (opsI c b F) c bs S tick)).setW true (S.w true)) = S.setW false (wC0 (opsI c b F) c bs S tick) := Cst.setW_same (S := S.setW false (wC0 (opsI c b F) c bs S tick)) (s := true)
    show LineAt M2 A d c b sp bs F ((S.setW false (wC0 (opsI c b F) c bs S tick)).setW true (S.w true))
    rw [e1]
    exact hL2
  · rintro i dd _ M3 hdd ⟨⟨x3', g', hg', rfl⟩, f3, hL3⟩
    obtain ⟨hi, rfl⟩ := rg1_at hdd
    refine wg_name 3 sc.nd ?_
    refine wss_one ?_
    refine ws_set 9 sc.nd ?_
    refine we_call (ok_law_letter C) hr ?_
    refine wa_cons ?_
    refine we_var 0 rfl ?_
    refine wa_cons ?_
    refine we_int ?_
    refine wa_cons ?_
    refine we_var 6 rfl ?_
    refine wa_nil ?_
    refine ⟨A, d, c, b, sp, bs, F, _, true, dn, rfl, hL3, hc, hb, hdn0.1, hF, ?_, fun M4 f4 hL4 => ?_⟩
    · rw [Cst.setW_get, putLs_len]; have := htl true; omega
    · rw [Cst.setW_get, Cst.setW_set] at hL4
      rw [Cst.setW_get]
      exact ⟨⟨_, _, fun _ => rfl, rfl⟩, f3.trans f4, hL4⟩
  rintro _ M3 ⟨⟨x3', g1, hg1, rfl⟩, f3, hL3⟩
  rw [rg1_len] at hg1 hL3
  have hg1 := hg1 (by omega)
  obtain ⟨y1, hy1, hy1b⟩ := putLs_last (c := c) (b := b) (F := F) (wy := c.way true) (s := true) (a := bs * c.per true) (W := S.w true) (bg := dn) w10 w10 hb hF (k := (c.per true).toNat) (by omega)
  change g1 = lastR (wC1 (opsI c b F) c bs S dn) 0 at hg1
  change (wC1 (opsI c b F) c bs S dn).reads.getLast? = some y1 at hy1
  change LineAt M3 A d c b sp bs F ((S.setW false (wC0 (opsI c b F) c bs S tick)).setW true (wC1 (opsI c b F) c bs S dn)) at hL3
  have eg1 : g1 = y1 := by rw [hg1]; unfold lastR; rw [hy1]; rfl
  have elr1 : lastR (wC1 (opsI c b F) c bs S dn) tick = y1 := by unfold lastR; rw [hy1]; rfl
  rw [elr1] at kk
  subst eg1
  have hLo3 := hL3.o
  refine wss_cons ?_
  refine ws_asg ?_
  refine we_tup ?_
  refine wa_cons ?_
  refine we_bin od_add ?_
  refine we_var 8 rfl ?_
  refine we_int ?_
  refine b_addI ?_
  refine wa_cons ?_
  refine we_var 6 rfl ?_
  refine wa_nil ?_
  refine ⟨size_ok (by simp), ?_⟩
  refine wg_tup rfl rfl ?_
  refine wgs_cons ?_
  refine wg_dsub (hu_of hr) ?_
  refine we_var 0 rfl ?_
  refine we_str ?_
  refine ⟨_, _, rfl, .inl ⟨_, .inr "calls", hLo3, rfl, Nat.lt_of_lt_of_le (show _ < 100 from Nat.le_of_ble_eq_true rfl) (by rw [sizeLine_eq]; decide), rfl⟩, ?_⟩
  refine wgs_cons ?_
  refine wg_dsub (hu_of hr) ?_
  refine we_var 0 rfl ?_
  refine we_str ?_
  refine ⟨_, _, rfl, .inl ⟨_, .inr "answered", put_same, rfl, Nat.lt_of_lt_of_le (show _ < 100 from Nat.le_of_ble_eq_true rfl) (by rw [sizeLine_eq]; decide), rfl⟩, ?_⟩
  refine wgs_nil ?_
  rw [put_put]
  have ekv : putD (putD (lineKvs A d c b sp bs (((S.setW false (wC0 (opsI c b F) c bs S tick)).setW true (wC1 (opsI c b F) c bs S dn)).begun.length : Nat) (((S.setW false (wC0 (opsI c b F) c bs S tick)).setW true (wC1 (opsI c b F) c bs S dn)).done.getLast?.getD 0)) (.inr "calls") (.int ((S.begun.length : Nat) + 1))) (.inr "answered") (.int dn) = lineKvs A d c b sp bs ((S.begun.length + 1 : Nat) : Int) dn := rfl
  rw [ekv]
  have n0 : ∀ {i : Nat}, i ≠ 0 → i < 16 → A i ≠ A 0 := fun h1 h2 => hI.ne h1 h2 (by decide)
  refine wss_cons ?_
  refine ws_par3 10 11 12 rfl sc.nd ?_
  refine wa_cons ?_
  refine we_dget (hu_of hr) ?_
  refine we_var 0 rfl ?_
  refine we_str ?_
  refine ⟨_, _, rfl, .inl ⟨_, .inr "begun", put_same, rfl, rfl⟩, ?_⟩
  refine wa_cons ?_
  refine we_dget (hu_of hr) ?_
  refine we_var 0 rfl ?_
  refine we_str ?_
  refine ⟨_, _, rfl, .inl ⟨_, .inr "done", put_same, rfl, rfl⟩, ?_⟩
  refine wa_cons ?_
  refine we_dget (hu_of hr) ?_
  refine we_var 0 rfl ?_
  refine we_str ?_
  refine ⟨_, _, rfl, .inl ⟨_, .inr "heard", put_same, rfl, rfl⟩, ?_⟩
  refine wa_nil ?_
  refine ⟨_, _, _, rfl, ?_⟩
  have sz : ∀ {l : List Int}, l.length ≤ 40 → (l.map D.int).length < sizeLine := fun {l} h => by rw [sizeLine_eq, List.length_map]; omega
  refine wss_cons ?_
  refine ws_expr ?_
  refine we_append ?_
  refine we_var 10 rfl ?_
  refine ⟨_, _, rfl, (pn hI).trans hL3.bg, ?_⟩
  refine we_var 2 rfl ?_
  refine ⟨_, (pn hI).trans hL3.bg, sz hn, ?_⟩
  refine wss_cons ?_
  refine ws_expr ?_
  refine we_append ?_
  refine we_var 11 rfl ?_
  refine ⟨_, _, rfl, ((pn hI).trans (pn hI)).trans hL3.dn, ?_⟩
  refine we_var 5 rfl ?_
  refine ⟨_, ((pn hI).trans (pn hI)).trans hL3.dn, sz (by show S.done.length ≤ 40; omega), ?_⟩
  refine wss_cons ?_
  refine ws_expr ?_
  refine we_append ?_
  refine we_var 12 rfl ?_
  refine ⟨_, _, rfl, (((pn hI).trans (pn hI)).trans (pn hI)).trans hL3.h, ?_⟩
  refine we_var 9 rfl ?_
  refine ⟨_, (((pn hI).trans (pn hI)).trans (pn hI)).trans hL3.h, sz (by show S.heard.length ≤ 40; omega), ?_⟩
  refine wss_one (ws_ret ?_)
  refine we_var 9 rfl ?_
  refine ⟨_, Sub.refl _, kk _ ((((f3.trans (Lf.put 0)).trans (Lf.put 11)).trans (Lf.put 12)).trans (Lf.put 13)) ?_⟩
  have eC : putC (opsI c b F) d.round c bs S tick = ⟨fun t => if t then wC1 (opsI c b F) c bs S dn else wC0 (opsI c b F) c bs S tick, S.begun ++ [bg], S.done ++ [dn], S.heard ++ [g1]⟩ := by
    unfold putC
    rw [hdnv, hbgv, elr1]
  rw [eC]
  exact { o := (((pn hI (i := 0) (j := 13)).trans (pn hI (i := 0) (j := 12))).trans ((pn hI (i := 0) (j := 11)).trans put_same)).trans (by simp)
          t := ((((pn hI).trans (pn hI)).trans (pn hI)).trans (pn hI)).trans hL3.t
          t0 := ((((pn hI).trans (pn hI)).trans (pn hI)).trans (pn hI)).trans hL3.t0
          t1 := ((((pn hI).trans (pn hI)).trans (pn hI)).trans (pn hI)).trans hL3.t1
          u := ((((pn hI).trans (pn hI)).trans (pn hI)).trans (pn hI)).trans hL3.u
          u0 := ((((pn hI).trans (pn hI)).trans (pn hI)).trans (pn hI)).trans hL3.u0
          u1 := ((((pn hI).trans (pn hI)).trans (pn hI)).trans (pn hI)).trans hL3.u1
          r := ((((pn hI).trans (pn hI)).trans (pn hI)).trans (pn hI)).trans hL3.r
          e := ((((pn hI).trans (pn hI)).trans (pn hI)).trans (pn hI)).trans hL3.e
          e0 := let ⟨l, h1, h2⟩ := hL3.e0; ⟨l, ((((pn hI).trans (pn hI)).trans (pn hI)).trans (pn hI)).trans h1, h2⟩
          e1 := let ⟨l, h1, h2⟩ := hL3.e1; ⟨l, ((((pn hI).trans (pn hI)).trans (pn hI)).trans (pn hI)).trans h1, h2⟩
          bg := (((pn hI (i := 11) (j := 13)).trans (pn hI (i := 11) (j := 12))).trans put_same).trans (by rw [List.map_append]; rfl)
          dn := ((pn hI (i := 12) (j := 13)).trans put_same).trans (by rw [List.map_append]; rfl)
          h := put_same.trans (by rw [List.map_append]; rfl)
          z := ((((pn hI).trans (pn hI)).trans (pn hI)).trans (pn hI)).trans hL3.z
          fk := let ⟨k, h1, h2⟩ := hL3.fk; ⟨k, ((((pn hI).trans (pn hI)).trans (pn hI)).trans (pn hI)).trans h1, h2⟩
          inj := hI
          lb := fun t => by
            have := hL3.lb t
            cases t <;> exact this }
end
end K81

set_option Elab.async false
set_option linter.all false
set_option maxRecDepth 100000
set_option maxHeartbeats 4000000
namespace K81
open PySem PySem.Spec PyProof.Rows L2 DL
/-- a dict under making at L, other new objects beside it -/
structure Mk1 (M0 M : Mem) (L : Addr) (kvs : List (Key × D)) (cs : List (Addr × MO)) : Prop where
  su : Sub M0 M
  l : M L = some (.dK kvs)
  c : ∀ p ∈ cs, M p.1 = some p.2
  nd : (L :: cs.map (·.1)).Nodup
  fr : ∀ x ∈ L :: cs.map (·.1), M0 x = none
theorem Mk1.new {M0 M : Mem} {L q : Addr} {kvs : List (Key × D)} {cs : List (Addr × MO)} {m : MO} (h : Mk1 M0 M L kvs cs) (hq : M q = none) : Mk1 M0 (put M q m) L kvs (cs ++ [(q, m)]) := by
  have nL : L ≠ q := nn h.l hq
  have nc : ∀ p ∈ cs, p.1 ≠ q := fun p hp => nn (h.c p hp) hq
  have hM0 : M0 q = none := by
    cases e : M0 q with
    | none => rfl
    | some u => rw [h.su q u e] at hq; cases hq
  refine ⟨h.su.trans (Sub.put hq), (put_ne nL).trans h.l, fun p hp => ?_, ?_, fun x hx => ?_⟩
  · rcases List.mem_append.mp hp with z | z
    · exact (put_ne (nc p z)).trans (h.c p z)
    · rw [List.mem_singleton.mp z]; exact put_same
  · have nd := h.nd
    rw [List.map_append, ← List.cons_append]
    refine List.nodup_append.mpr ⟨nd, by simp, fun x hx y hy e => ?_⟩
    have ey : y = q := by simpa using hy
    subst ey
    rcases List.mem_cons.mp hx with rfl | hx
    · exact nL e
    · obtain ⟨p, hp, rfl⟩ := List.mem_map.mp hx
      exact nc p hp e
  · rw [List.map_append, ← List.cons_append] at hx
    rcases List.mem_append.mp hx with z | z
    · exact h.fr x z
    · have ex : x = q := by simpa using z
      rw [ex]; exact hM0
theorem Mk1.set {M0 M : Mem} {L : Addr} {kvs kvs' : List (Key × D)} {cs : List (Addr × MO)} (h : Mk1 M0 M L kvs cs) : Mk1 M0 (put M L (.dK kvs')) L kvs' cs := by
  have hL : M0 L = none := h.fr L List.mem_cons_self
  refine ⟨fun x u e => (put_ne (nn e hL)).trans (h.su x u e), put_same, fun p hp => ?_, h.nd, h.fr⟩
  have := (List.nodup_cons.mp h.nd).1
  exact (put_ne fun e => this (List.mem_map.mpr ⟨p, hp, e⟩)).trans (h.c p hp)
def Aof (l : List Addr) (i : Nat) : Addr := l.getD ([0, 4, 2, 3, 7, 5, 6, 8, 11, 9, 10, 12, 13, 14, 15, 1].getD i 0) 0
theorem Aof_inj {l : List Addr} (h : l.Nodup) (hl : l.length = 16) : Inj (Aof l) := by
  intro i j hi hj e
  unfold Aof at e
  have h1 : ∀ k, k < 16 → ([0, 4, 2, 3, 7, 5, 6, 8, 11, 9, 10, 12, 13, 14, 15, 1] : List Nat).getD k 0 < 16 := by decide
  have h2 : ∀ i, i < 16 → ∀ j, j < 16 → ([0, 4, 2, 3, 7, 5, 6, 8, 11, 9, 10, 12, 13, 14, 15, 1] : List Nat).getD i 0 = ([0, 4, 2, 3, 7, 5, 6, 8, 11, 9, 10, 12, 13, 14, 15, 1] : List Nat).getD j 0 → i = j := by decide
  refine h2 i hi j hj ?_
  have a := h1 i hi
  have b := h1 j hj
  generalize ([0, 4, 2, 3, 7, 5, 6, 8, 11, 9, 10, 12, 13, 14, 15, 1] : List Nat).getD i 0 = x at e a
  generalize ([0, 4, 2, 3, 7, 5, 6, 8, 11, 9, 10, 12, 13, 14, 15, 1] : List Nat).getD j 0 = y at e b
  rw [List.getD, List.getD, List.getElem?_eq_getElem (by omega), List.getElem?_eq_getElem (by omega)] at e
  rcases Nat.lt_trichotomy x y with z | z | z
  · exact absurd e (List.pairwise_iff_getElem.mp h x y (by omega) (by omega) z)
  · exact z
  · exact absurd e.symm (List.pairwise_iff_getElem.mp h y x (by omega) (by omega) z)
section
variable {P : Program} {w : World} {K : PySem.W.Frag} {mg : Str → Option Value} {base : Heap}
/-- the fates as yet: none fails -/
def F0 (sp : Str) (b : Bnd) : Bool → Int → Int := if sp = slow then fun _ _ => b.fails else fun _ _ => 0
def sp_law_line : DSp := fun ds M P R => ∃ (d : Des) (c : Cal) (bs : List Bnd) (b : Bnd) (k : Nat) (sp : Str) (bse : Int), ds = [dDes d, dBnds bs, .int k, .str sp, .int bse] ∧ d.cals[k]? = some c ∧ bs[k]? = some b ∧ (sp = slow ∨ sp = some_) ∧
  ∀ (A : Nat → Addr) M', (∀ i, i < 16 → M (A i) = none) → Sub M M' → LineAt M' A d c b sp bse (F0 sp b) cst0 → P (.ref (A 0)) M'
theorem sc_law_line : FnScope ["design", "bounds", "caller", "speed", "base", "line", "one", "bound"] ["design", "bounds", "caller", "speed", "base"] (defScope (Hd.topS 28)) := ⟨rfl, rfl, rfl, by decide +kernel, rfl, by decide +kernel, by decide +kernel⟩
theorem kvl {l : List (Key × D)} (h : l.length < 100) : l.length < sizeLine := by rw [sizeLine_eq]; omega
theorem ok_law_line (C : Ct K mg base) : DefOk P w K mg base CX0 1 "_law_line" ["design", "bounds", "caller", "speed", "base"] sp_law_line := by
  refine C.df 23 23 (d := Hd.d_law_line) rfl rfl rfl (fun _ _ _ _ _ _ us hl => match us, hl with | [_, _, _, _, _], _ => rfl) fun f fd Fd => fn_ok Fd sc_law_line (by rintro _ _ _ _ ⟨_, _, _, _, _, _, _, rfl, _⟩; rfl) ?_
  intro cdv Ar outer s H E ds M Q R hr ⟨d, c, bs, b, k, sp, bse, eds, h1, h2, hsp, kk⟩
  subst eds
  have sc := sc_law_line
  refine wss_cons ?_
  refine ws_par 6 7 rfl sc.nd ?_
  refine wa_cons ?_
  refine we_sub ?_
  refine we_sub ?_
  refine we_var 0 rfl ?_
  refine we_int ?_
  refine i_tup rfl ?_
  refine we_var 2 rfl ?_
  refine i_tup (atI_nat (map_at h1)) ?_
  refine wa_cons ?_
  refine we_sub ?_
  refine we_var 1 rfl ?_
  refine we_var 2 rfl ?_
  refine i_tup (atI_nat (map_at h2)) ?_
  refine wa_nil ?_
  refine ⟨_, _, rfl, ?_⟩
  refine wss_cons ?_
  refine ws_set 5 sc.nd ?_
  refine we_disp (fun L hL => ?_)
  refine we_str ?_
  refine we_sub ?_
  refine we_var 0 rfl ?_
  refine we_int ?_
  refine i_tup rfl ?_
  refine we_str ?_
  refine we_sub ?_
  refine we_var 6 rfl ?_
  refine we_int ?_
  refine i_tup rfl ?_
  refine we_str ?_
  refine we_sub ?_
  refine we_var 6 rfl ?_
  refine we_int ?_
  refine i_tup rfl ?_
  refine we_str ?_
  refine we_tup ?_
  refine wa_cons ?_
  refine we_sub ?_
  refine we_var 6 rfl ?_
  refine we_int ?_
  refine i_tup rfl ?_
  refine wa_cons ?_
  refine we_sub ?_
  refine we_var 6 rfl ?_
  refine we_int ?_
  refine i_tup rfl ?_
  refine wa_nil ?_
  refine ⟨size_ok (by simp), ?_⟩
  refine we_str ?_
  refine we_tup ?_
  refine wa_cons ?_
  refine we_sub ?_
  refine we_var 6 rfl ?_
  refine we_int ?_
  refine i_tup rfl ?_
  refine wa_cons ?_
  refine we_sub ?_
  refine we_var 6 rfl ?_
  refine we_int ?_
  refine i_tup rfl ?_
  refine wa_nil ?_
  refine ⟨size_ok (by simp), ?_⟩
  refine we_str ?_
  refine we_var 3 rfl ?_
  refine ⟨put_same, [(.inr "round", .int d.round), (.inr "turn", .int c.turn), (.inr "open", .int c.opn), (.inr "per", .tup [.int c.p0, .int c.p1]), (.inr "ways", .tup [dWay c.w0, dWay c.w1]), (.inr "speed", .str sp)], rfl, by simp, ?_⟩
  rw [put_put]
  have m0 : Mk1 M (put M L (.dK [(.inr "round", .int d.round), (.inr "turn", .int c.turn), (.inr "open", .int c.opn), (.inr "per", .tup [.int c.p0, .int c.p1]), (.inr "ways", .tup [dWay c.w0, dWay c.w1]), (.inr "speed", .str sp)])) L [(.inr "round", .int d.round), (.inr "turn", .int c.turn), (.inr "open", .int c.opn), (.inr "per", .tup [.int c.p0, .int c.p1]), (.inr "ways", .tup [dWay c.w0, dWay c.w1]), (.inr "speed", .str sp)] [] :=
    ⟨Sub.put hL, put_same, fun _ h => (nomatch h), by simp, fun x hx => by rw [List.mem_singleton.mp hx]; exact hL⟩
  show WSs _ _ _ (put M L (.dK [(.inr "round", .int d.round), (.inr "turn", .int c.turn), (.inr "open", .int c.opn), (.inr "per", .tup [.int c.p0, .int c.p1]), (.inr "ways", .tup [dWay c.w0, dWay c.w1]), (.inr "speed", .str sp)])) _
  generalize put M L (.dK [(.inr "round", .int d.round), (.inr "turn", .int c.turn), (.inr "open", .int c.opn), (.inr "per", .tup [.int c.p0, .int c.p1]), (.inr "ways", .tup [dWay c.w0, dWay c.w1]), (.inr "speed", .str sp)]) = Ma at m0 ⊢
  refine wss_cons ?_
  refine ws_asg ?_
  refine we_tup ?_
  refine wa_cons ?_
  refine we_tup ?_
  refine wa_cons ?_
  refine we_sub ?_
  refine we_var 7 rfl ?_
  refine we_int ?_
  refine i_tup rfl ?_
  refine wa_cons ?_
  refine we_sub ?_
  refine we_var 7 rfl ?_
  refine we_int ?_
  refine i_tup rfl ?_
  refine wa_nil ?_
  refine ⟨size_ok (by simp), ?_⟩
  refine wa_cons ?_
  refine we_tup ?_
  refine wa_cons ?_
  refine we_sub ?_
  refine we_var 7 rfl ?_
  refine we_int ?_
  refine i_tup rfl ?_
  refine wa_cons ?_
  refine we_sub ?_
  refine we_var 7 rfl ?_
  refine we_int ?_
  refine i_tup rfl ?_
  refine wa_nil ?_
  refine ⟨size_ok (by simp), ?_⟩
  refine wa_nil ?_
  refine ⟨size_ok (by simp), ?_⟩
  refine wg_tup rfl rfl ?_
  refine wgs_cons ?_
  refine wg_dsub (hu_of hr) ?_
  refine we_var 5 rfl ?_
  refine we_str ?_
  refine ⟨_, _, rfl, .inl ⟨_, .inr "least", m0.l, rfl, kvl (Nat.le_of_ble_eq_true rfl), rfl⟩, ?_⟩
  have m1 := m0.set (kvs' := putD [(.inr "round", .int d.round), (.inr "turn", .int c.turn), (.inr "open", .int c.opn), (.inr "per", .tup [.int c.p0, .int c.p1]), (.inr "ways", .tup [dWay c.w0, dWay c.w1]), (.inr "speed", .str sp)] (.inr "least") (.tup [.int b.lo, .int b.low]))
  refine wgs_cons ?_
  refine wg_dsub (hu_of hr) ?_
  refine we_var 5 rfl ?_
  refine we_str ?_
  refine ⟨_, _, rfl, .inl ⟨_, .inr "most", m1.l, rfl, kvl (Nat.le_of_ble_eq_true rfl), rfl⟩, ?_⟩
  have m2 := m1.set (kvs' := [(.inr "round", .int d.round), (.inr "turn", .int c.turn), (.inr "open", .int c.opn), (.inr "per", .tup [.int c.p0, .int c.p1]), (.inr "ways", .tup [dWay c.w0, dWay c.w1]), (.inr "speed", .str sp), (.inr "least", .tup [.int b.lo, .int b.low]), (.inr "most", .tup [.int b.hi, .int b.high])])
  refine wgs_nil ?_
  show WSs _ _ _ (put (put Ma L _) L (.dK [(.inr "round", .int d.round), (.inr "turn", .int c.turn), (.inr "open", .int c.opn), (.inr "per", .tup [.int c.p0, .int c.p1]), (.inr "ways", .tup [dWay c.w0, dWay c.w1]), (.inr "speed", .str sp), (.inr "least", .tup [.int b.lo, .int b.low]), (.inr "most", .tup [.int b.hi, .int b.high])])) _
  generalize put (put Ma L _) L (.dK [(.inr "round", .int d.round), (.inr "turn", .int c.turn), (.inr "open", .int c.opn), (.inr "per", .tup [.int c.p0, .int c.p1]), (.inr "ways", .tup [dWay c.w0, dWay c.w1]), (.inr "speed", .str sp), (.inr "least", .tup [.int b.lo, .int b.low]), (.inr "most", .tup [.int b.hi, .int b.high])]) = Mb at m2 ⊢
  clear m0 m1
  refine wss_cons ?_
  refine ws_asg ?_
  refine we_tup ?_
  refine wa_cons ?_
  refine we_sub ?_
  refine we_var 7 rfl ?_
  refine we_int ?_
  refine i_tup rfl ?_
  refine wa_cons ?_
  refine we_var 4 rfl ?_
  refine wa_cons ?_
  refine we_dnewT fun pF hF => ?_
  have m3 := m2.new hF (m := .dT [])
  refine wa_cons ?_
  refine we_int ?_
  refine wa_nil ?_
  refine ⟨size_ok (by simp), ?_⟩
  refine wg_tup rfl rfl ?_
  refine wgs_cons ?_
  refine wg_dsub (hu_of hr) ?_
  refine we_var 5 rfl ?_
  refine we_str ?_
  refine ⟨_, _, rfl, .inl ⟨_, .inr "fails", m3.l, rfl, kvl (Nat.le_of_ble_eq_true rfl), rfl⟩, ?_⟩
  refine wgs_cons ?_
  refine wg_dsub (hu_of hr) ?_
  refine we_var 5 rfl ?_
  refine we_str ?_
  refine ⟨_, _, rfl, .inl ⟨_, .inr "base", put_same, rfl, kvl (Nat.le_of_ble_eq_true rfl), rfl⟩, ?_⟩
  refine wgs_cons ?_
  refine wg_dsub (hu_of hr) ?_
  refine we_var 5 rfl ?_
  refine we_str ?_
  refine ⟨_, _, rfl, .inl ⟨_, .inr "fates", put_same, rfl, kvl (Nat.le_of_ble_eq_true rfl), rfl⟩, ?_⟩
  refine wgs_cons ?_
  refine wg_dsub (hu_of hr) ?_
  refine we_var 5 rfl ?_
  refine we_str ?_
  refine ⟨_, _, rfl, .inl ⟨_, .inr "calls", put_same, rfl, kvl (Nat.le_of_ble_eq_true rfl), rfl⟩, ?_⟩
  refine wgs_nil ?_
  rw [put_put, put_put, put_put]
  have m4 := m3.set (kvs' := [(.inr "round", .int d.round), (.inr "turn", .int c.turn), (.inr "open", .int c.opn), (.inr "per", .tup [.int c.p0, .int c.p1]), (.inr "ways", .tup [dWay c.w0, dWay c.w1]), (.inr "speed", .str sp), (.inr "least", .tup [.int b.lo, .int b.low]), (.inr "most", .tup [.int b.hi, .int b.high]), (.inr "fails", .int b.fails), (.inr "base", .int bse), (.inr "fates", .ref pF), (.inr "calls", .int 0)])
  show WSs _ _ _ (put (put Mb pF (.dT [])) L (.dK [(.inr "round", .int d.round), (.inr "turn", .int c.turn), (.inr "open", .int c.opn), (.inr "per", .tup [.int c.p0, .int c.p1]), (.inr "ways", .tup [dWay c.w0, dWay c.w1]), (.inr "speed", .str sp), (.inr "least", .tup [.int b.lo, .int b.low]), (.inr "most", .tup [.int b.hi, .int b.high]), (.inr "fails", .int b.fails), (.inr "base", .int bse), (.inr "fates", .ref pF), (.inr "calls", .int 0)])) _
  generalize put (put Mb pF (.dT [])) L (.dK [(.inr "round", .int d.round), (.inr "turn", .int c.turn), (.inr "open", .int c.opn), (.inr "per", .tup [.int c.p0, .int c.p1]), (.inr "ways", .tup [dWay c.w0, dWay c.w1]), (.inr "speed", .str sp), (.inr "least", .tup [.int b.lo, .int b.low]), (.inr "most", .tup [.int b.hi, .int b.high]), (.inr "fails", .int b.fails), (.inr "base", .int bse), (.inr "fates", .ref pF), (.inr "calls", .int 0)]) = Mc at m4 ⊢
  clear m2 m3
  refine wss_cons ?_
  refine ws_asg ?_
  refine we_tup ?_
  refine wa_cons ?_
  refine we_lst ?_
  refine wa_cons ?_
  refine we_lst ?_
  refine wa_nil ?_
  refine ⟨size_ok (by simp), fun pT0 hT0 => ?_⟩
  have m5 := m4.new hT0 (m := .lst [])
  refine wa_cons ?_
  refine we_lst ?_
  refine wa_nil ?_
  refine ⟨size_ok (by simp), fun pT1 hT1 => ?_⟩
  have m6 := m5.new hT1 (m := .lst [])
  refine wa_nil ?_
  refine ⟨size_ok (by simp), fun pT hT => ?_⟩
  have m7 := m6.new hT (m := .lst [.ref pT0, .ref pT1])
  refine wa_cons ?_
  refine we_lst ?_
  refine wa_cons ?_
  refine we_lst ?_
  refine wa_nil ?_
  refine ⟨size_ok (by simp), fun pU0 hU0 => ?_⟩
  have m8 := m7.new hU0 (m := .lst [])
  refine wa_cons ?_
  refine we_lst ?_
  refine wa_nil ?_
  refine ⟨size_ok (by simp), fun pU1 hU1 => ?_⟩
  have m9 := m8.new hU1 (m := .lst [])
  refine wa_nil ?_
  refine ⟨size_ok (by simp), fun pU hU => ?_⟩
  have m10 := m9.new hU (m := .lst [.ref pU0, .ref pU1])
  refine wa_cons ?_
  refine we_lst ?_
  refine wa_cons ?_
  refine we_int ?_
  refine wa_cons ?_
  refine we_int ?_
  refine wa_nil ?_
  refine ⟨size_ok (by simp), fun pR hR => ?_⟩
  have m11 := m10.new hR (m := .lst [.int 0, .int 0])
  refine wa_cons ?_
  refine we_lst ?_
  refine wa_cons ?_
  refine we_lst ?_
  refine wa_nil ?_
  refine ⟨size_ok (by simp), fun pE0 hE0 => ?_⟩
  have m12 := m11.new hE0 (m := .lst [])
  refine wa_cons ?_
  refine we_lst ?_
  refine wa_nil ?_
  refine ⟨size_ok (by simp), fun pE1 hE1 => ?_⟩
  have m13 := m12.new hE1 (m := .lst [])
  refine wa_nil ?_
  refine ⟨size_ok (by simp), fun pE hE => ?_⟩
  have m14 := m13.new hE (m := .lst [.ref pE0, .ref pE1])
  clear m4 m5 m6 m7 m8 m9 m10 m11 m12 m13
  refine wa_nil ?_
  refine ⟨size_ok (by simp), ?_⟩
  show WG _ _ _ _ (put (put (put (put (put (put (put (put (put (put Mc pT0 (.lst [])) pT1 (.lst [])) pT (.lst [.ref pT0, .ref pT1])) pU0 (.lst [])) pU1 (.lst [])) pU (.lst [.ref pU0, .ref pU1])) pR (.lst [.int 0, .int 0])) pE0 (.lst [])) pE1 (.lst [])) pE (.lst [.ref pE0, .ref pE1])) _
  generalize put (put (put (put (put (put (put (put (put (put Mc pT0 (.lst [])) pT1 (.lst [])) pT (.lst [.ref pT0, .ref pT1])) pU0 (.lst [])) pU1 (.lst [])) pU (.lst [.ref pU0, .ref pU1])) pR (.lst [.int 0, .int 0])) pE0 (.lst [])) pE1 (.lst [])) pE (.lst [.ref pE0, .ref pE1]) = Md at m14 ⊢
  refine wg_tup rfl rfl ?_
  refine wgs_cons ?_
  refine wg_dsub (hu_of hr) ?_
  refine we_var 5 rfl ?_
  refine we_str ?_
  refine ⟨_, _, rfl, .inl ⟨_, .inr "told", m14.l, rfl, kvl (Nat.le_of_ble_eq_true rfl), rfl⟩, ?_⟩
  refine wgs_cons ?_
  refine wg_dsub (hu_of hr) ?_
  refine we_var 5 rfl ?_
  refine we_str ?_
  refine ⟨_, _, rfl, .inl ⟨_, .inr "upto", put_same, rfl, kvl (Nat.le_of_ble_eq_true rfl), rfl⟩, ?_⟩
  refine wgs_cons ?_
  refine wg_dsub (hu_of hr) ?_
  refine we_var 5 rfl ?_
  refine we_str ?_
  refine ⟨_, _, rfl, .inl ⟨_, .inr "read", put_same, rfl, kvl (Nat.le_of_ble_eq_true rfl), rfl⟩, ?_⟩
  refine wgs_cons ?_
  refine wg_dsub (hu_of hr) ?_
  refine we_var 5 rfl ?_
  refine we_str ?_
  refine ⟨_, _, rfl, .inl ⟨_, .inr "letters", put_same, rfl, kvl (Nat.le_of_ble_eq_true rfl), rfl⟩, ?_⟩
  refine wgs_nil ?_
  rw [put_put, put_put, put_put]
  have m15 := m14.set (kvs' := [(.inr "round", .int d.round), (.inr "turn", .int c.turn), (.inr "open", .int c.opn), (.inr "per", .tup [.int c.p0, .int c.p1]), (.inr "ways", .tup [dWay c.w0, dWay c.w1]), (.inr "speed", .str sp), (.inr "least", .tup [.int b.lo, .int b.low]), (.inr "most", .tup [.int b.hi, .int b.high]), (.inr "fails", .int b.fails), (.inr "base", .int bse), (.inr "fates", .ref pF), (.inr "calls", .int 0), (.inr "told", .ref pT), (.inr "upto", .ref pU), (.inr "read", .ref pR), (.inr "letters", .ref pE)])
  show WSs _ _ _ (put Md L (.dK [(.inr "round", .int d.round), (.inr "turn", .int c.turn), (.inr "open", .int c.opn), (.inr "per", .tup [.int c.p0, .int c.p1]), (.inr "ways", .tup [dWay c.w0, dWay c.w1]), (.inr "speed", .str sp), (.inr "least", .tup [.int b.lo, .int b.low]), (.inr "most", .tup [.int b.hi, .int b.high]), (.inr "fails", .int b.fails), (.inr "base", .int bse), (.inr "fates", .ref pF), (.inr "calls", .int 0), (.inr "told", .ref pT), (.inr "upto", .ref pU), (.inr "read", .ref pR), (.inr "letters", .ref pE)])) _
  generalize put Md L (.dK [(.inr "round", .int d.round), (.inr "turn", .int c.turn), (.inr "open", .int c.opn), (.inr "per", .tup [.int c.p0, .int c.p1]), (.inr "ways", .tup [dWay c.w0, dWay c.w1]), (.inr "speed", .str sp), (.inr "least", .tup [.int b.lo, .int b.low]), (.inr "most", .tup [.int b.hi, .int b.high]), (.inr "fails", .int b.fails), (.inr "base", .int bse), (.inr "fates", .ref pF), (.inr "calls", .int 0), (.inr "told", .ref pT), (.inr "upto", .ref pU), (.inr "read", .ref pR), (.inr "letters", .ref pE)]) = Me at m15 ⊢
  clear m14
  refine wss_cons ?_
  refine ws_asg ?_
  refine we_tup ?_
  refine wa_cons ?_
  refine we_lst ?_
  refine wa_nil ?_
  refine ⟨size_ok (by simp), fun pB hB => ?_⟩
  have m16 := m15.new hB (m := .lst [])
  refine wa_cons ?_
  refine we_lst ?_
  refine wa_nil ?_
  refine ⟨size_ok (by simp), fun pN hN => ?_⟩
  have m17 := m16.new hN (m := .lst [])
  refine wa_cons ?_
  refine we_lst ?_
  refine wa_nil ?_
  refine ⟨size_ok (by simp), fun pH hH => ?_⟩
  have m18 := m17.new hH (m := .lst [])
  refine wa_cons ?_
  refine we_int ?_
  refine wa_cons ?_
  refine we_lst ?_
  refine wa_nil ?_
  refine ⟨size_ok (by simp), fun pZ hZ => ?_⟩
  have m19 := m18.new hZ (m := .lst [])
  clear m15 m16 m17 m18
  refine wa_nil ?_
  refine ⟨size_ok (by simp), ?_⟩
  refine wg_tup rfl rfl ?_
  refine wgs_cons ?_
  refine wg_dsub (hu_of hr) ?_
  refine we_var 5 rfl ?_
  refine we_str ?_
  refine ⟨_, _, rfl, .inl ⟨_, .inr "begun", m19.l, rfl, kvl (Nat.le_of_ble_eq_true rfl), rfl⟩, ?_⟩
  refine wgs_cons ?_
  refine wg_dsub (hu_of hr) ?_
  refine we_var 5 rfl ?_
  refine we_str ?_
  refine ⟨_, _, rfl, .inl ⟨_, .inr "done", put_same, rfl, kvl (Nat.le_of_ble_eq_true rfl), rfl⟩, ?_⟩
  refine wgs_cons ?_
  refine wg_dsub (hu_of hr) ?_
  refine we_var 5 rfl ?_
  refine we_str ?_
  refine ⟨_, _, rfl, .inl ⟨_, .inr "heard", put_same, rfl, kvl (Nat.le_of_ble_eq_true rfl), rfl⟩, ?_⟩
  refine wgs_cons ?_
  refine wg_dsub (hu_of hr) ?_
  refine we_var 5 rfl ?_
  refine we_str ?_
  refine ⟨_, _, rfl, .inl ⟨_, .inr "answered", put_same, rfl, kvl (Nat.le_of_ble_eq_true rfl), rfl⟩, ?_⟩
  refine wgs_cons ?_
  refine wg_dsub (hu_of hr) ?_
  refine we_var 5 rfl ?_
  refine we_str ?_
  refine ⟨_, _, rfl, .inl ⟨_, .inr "trees", put_same, rfl, kvl (Nat.le_of_ble_eq_true rfl), rfl⟩, ?_⟩
  refine wgs_nil ?_
  rw [put_put, put_put, put_put, put_put]
  have m20 := m19.set (kvs' := lineKvs (Aof [L, pF, pT0, pT1, pT, pU0, pU1, pU, pR, pE0, pE1, pE, pB, pN, pH, pZ]) d c b sp bse 0 0)
  show WSs _ _ _ (put (put (put (put (put Me pB (.lst [])) pN (.lst [])) pH (.lst [])) pZ (.lst [])) L (.dK (lineKvs (Aof [L, pF, pT0, pT1, pT, pU0, pU1, pU, pR, pE0, pE1, pE, pB, pN, pH, pZ]) d c b sp bse 0 0))) _
  generalize put (put (put (put (put Me pB (.lst [])) pN (.lst [])) pH (.lst [])) pZ (.lst [])) L (.dK (lineKvs (Aof [L, pF, pT0, pT1, pT, pU0, pU1, pU, pR, pE0, pE1, pE, pB, pN, pH, pZ]) d c b sp bse 0 0)) = Mf at m20 ⊢
  clear m19
  refine wss_one (ws_ret ?_)
  refine we_var 5 rfl ?_
  have cc := m20.c
  simp only [List.nil_append, List.cons_append, List.mem_cons, List.not_mem_nil, or_false, forall_eq_or_imp, forall_eq] at cc
  obtain ⟨cF, cT0, cT1, cT, cU0, cU1, cU, cR, cE0, cE1, cE, cB, cN, cH, cZ⟩ := cc
  refine ⟨_, Sub.refl _, kk (Aof [L, pF, pT0, pT1, pT, pU0, pU1, pU, pR, pE0, pE1, pE, pB, pN, pH, pZ]) Mf ?_ m20.su ?_⟩
  · intro i hi
    refine m20.fr _ ?_
    show Aof [L, pF, pT0, pT1, pT, pU0, pU1, pU, pR, pE0, pE1, pE, pB, pN, pH, pZ] i ∈ [L, pF, pT0, pT1, pT, pU0, pU1, pU, pR, pE0, pE1, pE, pB, pN, pH, pZ]
    unfold Aof
    have h1 : ∀ k, k < 16 → ([0, 4, 2, 3, 7, 5, 6, 8, 11, 9, 10, 12, 13, 14, 15, 1] : List Nat).getD k 0 < 16 := by decide
    have h3 := h1 i hi
    generalize ([0, 4, 2, 3, 7, 5, 6, 8, 11, 9, 10, 12, 13, 14, 15, 1] : List Nat).getD i 0 = x at h3 ⊢
    rw [List.getD, List.getElem?_eq_getElem (show x < [L, pF, pT0, pT1, pT, pU0, pU1, pU, pR, pE0, pE1, pE, pB, pN, pH, pZ].length from h3)]
    exact List.getElem_mem _
  · exact { o := m20.l, t := cT, t0 := cT0, t1 := cT1, u := cU, u0 := cU0, u1 := cU1, r := cR, e := cE, e0 := ⟨_, cE0, rfl⟩, e1 := ⟨_, cE1, rfl⟩, bg := cB, dn := cN, h := cH, z := cZ
            fk := ⟨[], cF, by
              unfold F0
              rcases hsp with rfl | rfl
              · exact .inl ⟨rfl, by rw [if_pos rfl]⟩
              · refine .inr ⟨rfl, fun s n => ?_⟩
                rw [if_neg (by decide +kernel)]
                rfl⟩
            inj := Aof_inj m20.nd rfl
            lb := fun _ => rfl }
end
end K81

set_option Elab.async false
set_option linter.all false
set_option maxRecDepth 100000
set_option maxHeartbeats 4000000
namespace K81
open PySem PySem.Spec PyProof.Rows L2 DL
section
variable {P : Program} {w : World} {K : PySem.W.Frag} {mg : Str → Option Value} {base : Heap}
def dTree (d : Des) (bs : List Bnd) (k : Nat) : D := .tup [dDes d, dBnds bs, .int k, .tup []]
def sp_law_wheels : DSp := fun ds M P R => ∃ (d : Des) (bs : List Bnd) (k : Nat) (c : Cal), ds = [dTree d bs k] ∧ d.cals[k]? = some c ∧ ∀ q, M q = none → P (.ref q) (put M q (.lst [.int d.round, .int c.w0.wheel, .int c.w1.wheel]))
theorem sc_law_wheels : FnScope ["tree", "one", "found", "under"] ["tree"] (defScope (Hd.topS 32)) := ⟨rfl, rfl, rfl, by decide +kernel, rfl, by decide +kernel, by decide +kernel⟩
theorem ok_law_wheels (C : Ct K mg base) : DefOk P w K mg base CX0 1 "_law_wheels" ["tree"] sp_law_wheels := by
  refine C.df 27 27 (d := Hd.d_law_wheels) rfl rfl rfl (fun _ _ _ _ _ _ us hl => match us, hl with | [_], _ => rfl) fun f fd Fd => fn_ok Fd sc_law_wheels (by rintro _ _ _ _ ⟨_, _, _, _, rfl, _⟩; rfl) ?_
  intro cdv Ar outer s H E ds M Q R hr ⟨d, bs, k, c, eds, h1, kk⟩
  subst eds
  have sc := sc_law_wheels
  refine wss_cons ?_
  refine ws_set 1 sc.nd ?_
  refine we_sub ?_
  refine we_sub ?_
  refine we_sub ?_
  refine we_var 0 rfl ?_
  refine we_int ?_
  refine i_tup rfl ?_
  refine we_int ?_
  refine i_tup rfl ?_
  refine we_sub ?_
  refine we_var 0 rfl ?_
  refine we_int ?_
  refine i_tup rfl ?_
  refine i_tup (atI_nat (map_at h1)) ?_
  refine wss_cons ?_
  refine ws_set 2 sc.nd ?_
  refine we_lst ?_
  refine wa_cons ?_
  refine we_sub ?_
  refine we_sub ?_
  refine we_var 0 rfl ?_
  refine we_int ?_
  refine i_tup rfl ?_
  refine we_int ?_
  refine i_tup rfl ?_
  refine wa_cons ?_
  refine we_sub ?_
  refine we_sub ?_
  refine we_var 1 rfl ?_
  refine we_int ?_
  refine i_tup rfl ?_
  refine we_int ?_
  refine i_tup rfl ?_
  refine wa_cons ?_
  refine we_sub ?_
  refine we_sub ?_
  refine we_var 1 rfl ?_
  refine we_int ?_
  refine i_tup rfl ?_
  refine we_int ?_
  refine i_tup rfl ?_
  refine wa_nil ?_
  refine ⟨size_ok (by simp), fun p hp => ?_⟩
  refine wss_cons ?_
  refine ws_for PassesOwn.never rfl ?_
  refine wi_tup ?_
  refine we_sub ?_
  refine we_var 0 rfl ?_
  refine we_int ?_
  refine i_tup rfl ?_
  refine ⟨_, rfl, ?_⟩
  refine ⟨fun i (Γ' : Sl) (M' : Mem) => Γ' = [some (dTree d bs k), some (dCal c), some (D.ref p), none] ∧ M' = put M p (.lst [.int d.round, .int c.w0.wheel, .int c.w1.wheel]), ⟨rfl, rfl⟩, fun _ _ _ _ _ => trivial, fun i dd Γ' M' hdd => by simp at hdd, ?_⟩
  rintro _ _ ⟨rfl, rfl⟩
  refine wss_one (ws_ret ?_)
  refine we_var 2 rfl ?_
  exact ⟨_, Sub.refl _, kk p hp⟩
def sp_law_lanes : DSp := fun ds M P R => ∃ (d : Des) (bs : List Bnd) (k : Nat) (c : Cal), ds = [dTree d bs k] ∧ d.cals[k]? = some c ∧ ∀ q, M q = none → P (.ref q) (put M q (.lst [.int (c.w0.slots.length : Nat), .int (c.w1.slots.length : Nat)]))
theorem sc_law_lanes : FnScope ["tree", "one", "found", "under"] ["tree"] (defScope (Hd.topS 33)) := ⟨rfl, rfl, rfl, by decide +kernel, rfl, by decide +kernel, by decide +kernel⟩
theorem ok_law_lanes (C : Ct K mg base) : DefOk P w K mg base CX0 1 "_law_lanes" ["tree"] sp_law_lanes := by
  refine C.df 28 28 (d := Hd.d_law_lanes) rfl rfl rfl (fun _ _ _ _ _ _ us hl => match us, hl with | [_], _ => rfl) fun f fd Fd => fn_ok Fd sc_law_lanes (by rintro _ _ _ _ ⟨_, _, _, _, rfl, _⟩; rfl) ?_
  intro cdv Ar outer s H E ds M Q R hr ⟨d, bs, k, c, eds, h1, kk⟩
  subst eds
  have sc := sc_law_lanes
  refine wss_cons ?_
  refine ws_set 1 sc.nd ?_
  refine we_sub ?_
  refine we_sub ?_
  refine we_sub ?_
  refine we_var 0 rfl ?_
  refine we_int ?_
  refine i_tup rfl ?_
  refine we_int ?_
  refine i_tup rfl ?_
  refine we_sub ?_
  refine we_var 0 rfl ?_
  refine we_int ?_
  refine i_tup rfl ?_
  refine i_tup (atI_nat (map_at h1)) ?_
  refine wss_cons ?_
  refine ws_set 2 sc.nd ?_
  refine we_lst ?_
  refine wa_cons ?_
  refine we_callB cd_len (C.fr 67) ?_
  refine wa_cons ?_
  refine we_sub ?_
  refine we_sub ?_
  refine we_var 1 rfl ?_
  refine we_int ?_
  refine i_tup rfl ?_
  refine we_int ?_
  refine i_tup rfl ?_
  refine wa_nil ?_
  refine c_len rfl ?_
  refine wa_cons ?_
  refine we_callB cd_len (C.fr 67) ?_
  refine wa_cons ?_
  refine we_sub ?_
  refine we_sub ?_
  refine we_var 1 rfl ?_
  refine we_int ?_
  refine i_tup rfl ?_
  refine we_int ?_
  refine i_tup rfl ?_
  refine wa_nil ?_
  refine c_len rfl ?_
  refine wa_nil ?_
  rw [List.length_map, List.length_map]
  refine ⟨size_ok (by simp), fun p hp => ?_⟩
  refine wss_cons ?_
  refine ws_for PassesOwn.never rfl ?_
  refine wi_tup ?_
  refine we_sub ?_
  refine we_var 0 rfl ?_
  refine we_int ?_
  refine i_tup rfl ?_
  refine ⟨_, rfl, ?_⟩
  refine ⟨fun i (Γ' : Sl) (M' : Mem) => Γ' = [some (dTree d bs k), some (dCal c), some (D.ref p), none] ∧ M' = put M p (.lst [.int (c.w0.slots.length : Nat), .int (c.w1.slots.length : Nat)]), ⟨rfl, rfl⟩, fun _ _ _ _ _ => trivial, fun i dd Γ' M' hdd => by simp at hdd, ?_⟩
  rintro _ _ ⟨rfl, rfl⟩
  refine wss_one (ws_ret ?_)
  refine we_var 2 rfl ?_
  exact ⟨_, Sub.refl _, kk p hp⟩
/-! ### _law_lcm -/
/-- Euclid's steps end within n steps for numbers below 2 ^ (n/2) : here by the bound b ≤ n -/
def sp_law_lcm : DSp := fun ds M P R => ∃ (a : Addr) (l : List Nat), ds = [.ref a] ∧ M a = some (.lst (l.map fun n => D.int (n : Nat))) ∧ (∀ n ∈ l, 0 < n ∧ n ≤ 30) ∧ l.length ≤ 3 ∧ P (.int (lcmL l : Nat)) M
theorem sc_law_lcm : FnScope ["some", "found", "one", "trip", "a", "b"] ["some"] (defScope (Hd.topS 34)) := ⟨rfl, rfl, rfl, by decide +kernel, rfl, by decide +kernel, by decide +kernel⟩
theorem ok_law_lcm (C : Ct K mg base) : DefOk P w K mg base CX0 1 "_law_lcm" ["some"] sp_law_lcm := by
  refine C.df 29 29 (d := Hd.d_law_lcm) rfl rfl rfl (fun _ _ _ _ _ _ us hl => match us, hl with | [_], _ => rfl) fun f fd F => fn_ok F sc_law_lcm (by rintro _ _ _ _ ⟨_, _, rfl, _⟩; rfl) ?_
  intro cdv Ar outer s H E ds M Q R hr ⟨a, l, eds, ha, hl, hl3, kk⟩
  subst eds
  have sc := sc_law_lcm
  refine wss_cons ?_
  refine ws_set 1 sc.nd ?_
  refine we_int ?_
  refine wss_cons ?_
  refine ws_for PassesOwn.never rfl ?_
  refine wi_lst ?_
  refine we_var 0 rfl ?_
  refine ⟨_, _, rfl, ha, ?_⟩
  refine ⟨fun i (Γ' : Sl) (M' : Mem) => (∃ x2 x3 x4 x5, Γ' = [some (D.ref a), some (D.int ((l.take i).foldl Nat.lcm 1 : Nat)), x2, x3, x4, x5]) ∧ M' = M, ⟨⟨none, none, none, none, rfl⟩, rfl⟩, fun i Γ' M' _ h => by rw [h.2]; exact ha, ?_, ?_⟩
  · rintro i dd _ M' hdd ⟨⟨x2, x3, x4, x5, rfl⟩, eM⟩
    obtain rfl := eM.symm
    rw [List.getElem?_map] at hdd
    cases en : l[i]? with
    | none => rw [en] at hdd; cases hdd
    | some n =>
      rw [en] at hdd
      cases hdd
      have hn := hl n (List.mem_of_getElem? en)
      generalize hA : (l.take i).foldl Nat.lcm 1 = A
      have hA0 : 0 < A := by rw [← hA]; exact lcmL_pos _ _ Nat.one_pos fun m hm => (hl m (List.mem_of_mem_take hm)).1
      have hA1 : A ≤ 1000000 := by
        rw [← hA]
        refine Nat.le_trans (lcmL_le (l.take i) 1 1 30 (Nat.le_refl _) fun m hm => (hl m (List.mem_of_mem_take hm)).2) ?_
        rw [Nat.one_mul]
        exact Nat.le_trans (Nat.pow_le_pow_right (by omega) (show (l.take i).length ≤ 3 by have := List.length_take_le' i l; omega)) (by decide)
      refine wg_name 2 sc.nd ?_
      refine wss_cons ?_
      refine ws_par 4 5 rfl sc.nd ?_
      refine wa_cons ?_
      refine we_var 1 rfl ?_
      refine wa_cons ?_
      refine we_var 2 rfl ?_
      refine wa_nil ?_
      refine ⟨_, _, rfl, ?_⟩
      refine wss_cons ?_
      refine WS.nxt (fun (Γ' : Sl) (M' : Mem) => (∃ x3 x5, Γ' = [some (D.ref a), some (D.int (A : Nat)), some (D.int (n : Nat)), x3, some (D.int (Nat.gcd A n : Nat)), x5]) ∧ M' = M) ?_ ?_
      · refine ws_for PassesOwn.never rfl ?_
        refine wi_range1 (C.fr 71) ?_
        refine we_int ?_
        refine ⟨_, rfl, by omega, by omega, ?_⟩
        refine ⟨fun j (Γ' : Sl) (M' : Mem) => (∃ (x3 : Option D) (u v : Nat), Γ' = [some (D.ref a), some (D.int (A : Nat)), some (D.int (n : Nat)), x3, some (D.int (u : Nat)), some (D.int (v : Nat))] ∧ Nat.gcd u v = Nat.gcd A n ∧ v + j ≤ 30) ∧ M' = M, ⟨⟨x3, A, n, rfl, rfl, hn.2⟩, rfl⟩, fun _ _ _ _ _ => trivial, ?_, ?_⟩
        · rintro j dd _ M' hdd ⟨⟨x3, u, v, rfl, hg, hv⟩, eM⟩
          obtain rfl := eM.symm
          obtain ⟨_, rfl⟩ := rg1_at hdd
          refine wg_name 3 sc.nd ?_
          refine wss_cons ?_
          refine ws_if ?_
          refine wt_cmp od_eq ?_
          refine we_var 5 rfl ?_
          refine we_int ?_
          refine b_eqI ?_
          refine t_bl ?_
          refine ⟨fun hk => ?_, fun hk => ?_⟩
          · have hk : v = 0 := by have := of_decide_eq_true hk; omega
            subst hk
            rw [Nat.gcd_zero_right] at hg
            subst hg
            refine wss_one (ws_break ?_)
            exact ⟨⟨_, _, rfl⟩, rfl⟩
          · have hk : v ≠ 0 := by have := of_decide_eq_false hk; omega
            refine wss_nil ?_
            refine wss_one ?_
            refine ws_par 4 5 rfl sc.nd ?_
            refine wa_cons ?_
            refine we_var 5 rfl ?_
            refine wa_cons ?_
            refine we_bin od_mod ?_
            refine we_callT cd_int (C.fr 65) ?_
            refine wa_cons ?_
            refine we_var 4 rfl ?_
            refine wa_nil ?_
            refine c_int ?_
            refine we_var 5 rfl ?_
            refine b_i (show (0 : Int) < (v : Nat) by omega) ?_
            refine wa_nil ?_
            refine ⟨_, _, rfl, ⟨_, v, u % v, rfl, ?_, ?_⟩, rfl⟩
            · rw [← hg, Nat.gcd_comm u v, Nat.gcd_rec v u, Nat.gcd_comm]
            · have := Nat.mod_lt u (show 0 < v by omega)
              omega
        · rintro _ M' ⟨⟨x3, u, v, rfl, hg, hv⟩, eM⟩
          obtain rfl := eM.symm
          rw [rg1_len] at hv
          exact absurd hv (by omega)
      rintro _ M' ⟨⟨x3, x5, rfl⟩, eM⟩
      obtain rfl := eM.symm
      have hg0 : 0 < Nat.gcd A n := Nat.gcd_pos_of_pos_left _ hA0
      have hg1 : Nat.gcd A n ≤ A := Nat.gcd_le_left _ hA0
      refine wss_one ?_
      refine ws_set 1 sc.nd ?_
      refine we_bin od_div ?_
      refine we_bin od_mul ?_
      refine we_var 1 rfl ?_
      refine we_var 2 rfl ?_
      refine b_mul (.inr ⟨by omega, by omega⟩) ?_
      refine we_var 4 rfl ?_
      refine b_i (show CDiv _ _ from ⟨by omega, by omega⟩) ?_
      refine ⟨⟨some (D.int (n : Nat)), x3, some (D.int (Nat.gcd A n : Nat)), x5, ?_⟩, rfl⟩
      have e : ((A : Nat) : Int) * ((n : Nat) : Int) / ((Nat.gcd A n : Nat) : Int) = ((l.take (i + 1)).foldl Nat.lcm 1 : Nat) := by
        rw [List.take_add_one, en, List.foldl_append, hA]
        show _ = ((Nat.lcm A n : Nat) : Int)
        rw [← Int.natCast_mul, ← Int.natCast_ediv]
        rfl
      rw [e]
      rfl
  · rintro _ M' ⟨⟨x2, x3, x4, x5, rfl⟩, eM⟩
    obtain rfl := eM.symm
    rw [List.length_map, List.take_length]
    refine wss_one (ws_ret ?_)
    refine we_var 1 rfl ?_
    exact ⟨_, Sub.refl _, kk⟩
/-! ### _law_dealt -/
def dRow (row : List Int) : D := .tup (row.map D.int)
def dealS (f B : Int) (row : List Int) : List (List Int) := (List.range (min f (B - row.sum) + 1).toNat).map fun m => row ++ [((m : Nat) : Int)]
def dealt (f B : Int) : Nat → List (List Int)
  | 0 => [[]]
  | k + 1 => (dealt f B k).flatMap (dealS f B)
theorem dealS_len {f B : Int} {row : List Int} (h : f ≤ 2) : (dealS f B row).length ≤ 3 := by
  unfold dealS
  rw [List.length_map, List.length_range]
  omega
theorem flat_len {f B : Int} (h : f ≤ 2) : ∀ l : List (List Int), (l.flatMap (dealS f B)).length ≤ 3 * l.length
  | [] => by simp
  | x :: l => by
    have h1 := flat_len (B := B) h l
    have h2 := dealS_len (f := f) (B := B) (row := x) h
    rw [List.flatMap_cons, List.length_append, List.length_cons]
    omega
theorem dealt_len {f B : Int} (h : f ≤ 2) : ∀ k, (dealt f B k).length ≤ 3 ^ k
  | 0 => Nat.le_refl _
  | k + 1 => by
    have h1 := dealt_len (B := B) h k
    have h2 := flat_len (f := f) (B := B) h (dealt f B k)
    show ((dealt f B k).flatMap (dealS f B)).length ≤ _
    rw [Nat.pow_succ]
    omega
theorem dealt_row {f B : Int} : ∀ k, ∀ row ∈ dealt f B k, row.length = k
  | 0, row, h => by
    simp [dealt] at h
    rw [h]
    rfl
  | k + 1, row, h => by
    obtain ⟨r, hr, h2⟩ := List.mem_flatMap.mp h
    obtain ⟨m, _, rfl⟩ := List.mem_map.mp h2
    rw [List.length_append, dealt_row k r hr]
    rfl
theorem sum_snoc (l : List Int) (x : Int) : (l ++ [x]).sum = l.sum + x := by
  induction l with
  | nil => simp
  | cons y l ih => rw [List.cons_append, List.sum_cons, List.sum_cons, ih]; omega
theorem dealt_mem {f B : Int} (hB : 0 ≤ B) : ∀ k, ∀ row ∈ dealt f B k, (∀ x ∈ row, 0 ≤ x ∧ x ≤ f) ∧ row.sum ≤ B
  | 0, row, h => by
    simp [dealt] at h
    rw [h]
    exact ⟨fun _ h => (nomatch h), hB⟩
  | k + 1, row, h => by
    obtain ⟨r, hr, h2⟩ := List.mem_flatMap.mp h
    obtain ⟨m, hm, rfl⟩ := List.mem_map.mp h2
    have hm := List.mem_range.mp hm
    obtain ⟨h3, h4⟩ := dealt_mem hB k r hr
    refine ⟨fun x hx => ?_, ?_⟩
    · rcases List.mem_append.mp hx with z | z
      · exact h3 x z
      · rw [List.mem_singleton.mp z]; omega
    · rw [sum_snoc]; omega
def sp_law_dealt : DSp := fun ds M P R => ∃ (n : Nat) (f B : Int), ds = [.int n, .int f, .int B] ∧ n ≤ 12 ∧ 0 ≤ f ∧ f ≤ 2 ∧ 0 ≤ B ∧ B ≤ 1000 ∧ ∀ q M', Sub M M' → M' q = some (.lst ((dealt f B n).map dRow)) → P (.ref q) M'
theorem sc_law_dealt : FnScope ["letters", "fails", "budget", "made", "k", "longer", "row", "left", "many"] ["letters", "fails", "budget"] (defScope (Hd.topS 35)) := ⟨rfl, rfl, rfl, by decide +kernel, rfl, by decide +kernel, by decide +kernel⟩
theorem ok_law_dealt (C : Ct K mg base) : DefOk P w K mg base CX0 1 "_law_dealt" ["letters", "fails", "budget"] sp_law_dealt := by
  refine C.df 30 30 (d := Hd.d_law_dealt) rfl rfl rfl (fun _ _ _ _ _ _ us hl => match us, hl with | [_, _, _], _ => rfl) fun f fd F => fn_ok F sc_law_dealt (by rintro _ _ _ _ ⟨_, _, _, rfl, _⟩; rfl) ?_
  intro cdv Ar outer s H E ds M Q R hr ⟨n, f, B, eds, hn, f0, f2, b0, b1, kk⟩
  subst eds
  have sc := sc_law_dealt
  have h3 : ∀ k, k ≤ 12 → 3 ^ k ≤ 1000000 := fun k hk => Nat.le_trans (Nat.pow_le_pow_right (by omega) hk) (by decide)
  refine wss_cons ?_
  refine ws_set 3 sc.nd ?_
  refine we_lst ?_
  refine wa_cons ?_
  refine we_tup ?_
  refine wa_nil ?_
  refine ⟨size_ok (by simp), ?_⟩
  refine wa_nil ?_
  refine ⟨size_ok (by simp), fun p0 hp0 => ?_⟩
  refine wss_cons ?_
  refine ws_for PassesOwn.never rfl ?_
  refine wi_range1 (C.fr 71) ?_
  refine we_var 0 rfl ?_
  refine ⟨_, rfl, by omega, by omega, ?_⟩
  refine ⟨fun i (Γ' : Sl) (M' : Mem) => ∃ pm x4 x5 x6 x7 x8, Γ' = [some (D.int (n : Nat)), some (D.int f), some (D.int B), some (D.ref pm), x4, x5, x6, x7, x8] ∧ Sub M M' ∧ M' pm = some (.lst ((dealt f B i).map dRow)), ⟨p0, none, none, none, none, none, rfl, Sub.put hp0, put_same⟩, fun _ _ _ _ _ => trivial, ?_, ?_⟩
  · rintro i dd _ M1 hdd ⟨pm, x4, x5, x6, x7, x8, rfl, su1, em1⟩
    obtain ⟨hi, rfl⟩ := rg1_at hdd
    refine wg_name 4 sc.nd ?_
    refine wss_cons ?_
    refine ws_set 5 sc.nd ?_
    refine we_lst ?_
    refine wa_nil ?_
    refine ⟨size_ok (by simp), fun pl hpl => ?_⟩
    have nml : pm ≠ pl := nn em1 hpl
    have hplM : M pl = none := by
      cases e : M pl with
      | none => rfl
      | some u => rw [su1 pl u e] at hpl; cases hpl
    refine wss_cons ?_
    refine WS.nxt (fun (Γ' : Sl) (M' : Mem) => (∃ x6 x7 x8, Γ' = [some (D.int (n : Nat)), some (D.int f), some (D.int B), some (D.ref pm), some (D.int (i : Nat)), some (D.ref pl), x6, x7, x8]) ∧ Sub M M' ∧ M' pl = some (.lst ((dealt f B (i + 1)).map dRow))) ?_ ?_
    · refine ws_for PassesOwn.never rfl ?_
      refine wi_lst ?_
      refine we_var 3 rfl ?_
      refine ⟨_, _, rfl, (put_ne nml).trans em1, ?_⟩
      have lend := dealt_len (B := B) f2 i
      have h3i := h3 i (by omega)
      refine ⟨fun j (Γ' : Sl) (M' : Mem) => (∃ x6 x7 x8, Γ' = [some (D.int (n : Nat)), some (D.int f), some (D.int B), some (D.ref pm), some (D.int (i : Nat)), some (D.ref pl), x6, x7, x8]) ∧ Sub M M' ∧ M' pm = some (.lst ((dealt f B i).map dRow)) ∧ M' pl = some (.lst ((((dealt f B i).take j).flatMap (dealS f B)).map dRow)), ⟨⟨_, _, _, rfl⟩, su1.trans (Sub.put hpl), (put_ne nml).trans em1, put_same⟩, fun _ _ _ _ h => h.2.2.1, ?_, ?_⟩
      · rintro j dd _ M2 hdd ⟨⟨x6, x7, x8, rfl⟩, su2, em2, el2⟩
        rw [List.getElem?_map] at hdd
        cases er : (dealt f B i)[j]? with
        | none => rw [er] at hdd; cases hdd
        | some row =>
          rw [er] at hdd
          cases hdd
          have hj := (List.getElem?_eq_some_iff.mp er).1
          have ltk : (((dealt f B i).take j).flatMap (dealS f B)).length ≤ 3 * 1000000 := by
            have h1 := flat_len (f := f) (B := B) f2 ((dealt f B i).take j)
            have h2 := List.length_take_le' j (dealt f B i)
            omega
          refine wg_name 6 sc.nd ?_
          refine wss_cons ?_
          refine ws_set 7 sc.nd ?_
          refine we_bin od_sub ?_
          refine we_var 2 rfl ?_
          refine we_callB (cd_sum rfl) (C.fr 74) ?_
          refine wa_cons ?_
          refine we_var 6 rfl ?_
          refine wa_nil ?_
          refine ⟨_, row, rfl, .inl rfl, ?_⟩
          refine b_sub ?_
          refine wss_one ?_
          refine ws_for PassesOwn.never rfl ?_
          refine wi_range1 (C.fr 71) ?_
          refine we_bin od_add ?_
          refine we_callB (cd_min rfl) (C.fr 70) ?_
          refine wa_cons ?_
          refine we_var 1 rfl ?_
          refine wa_cons ?_
          refine we_var 7 rfl ?_
          refine wa_nil ?_
          refine c_min ?_
          refine we_int ?_
          refine b_addI ?_
          have hsum := (dealt_mem b0 i row (List.mem_of_getElem? er)).2
          have hneg : -(2 ^ 62) ≤ min f (B - row.sum) + 1 := by omega
          refine ⟨_, rfl, hneg, by omega, ?_⟩
          refine ⟨fun m (Γ' : Sl) (M' : Mem) => (∃ x8, Γ' = [some (D.int (n : Nat)), some (D.int f), some (D.int B), some (D.ref pm), some (D.int (i : Nat)), some (D.ref pl), some (dRow row), some (D.int (B - row.sum)), x8]) ∧ Sub M M' ∧ M' pm = some (.lst ((dealt f B i).map dRow)) ∧ M' pl = some (.lst ((((dealt f B i).take j).flatMap (dealS f B)).map dRow ++ ((List.range m).map fun m => dRow (row ++ [((m : Nat) : Int)])))), ⟨⟨_, rfl⟩, su2, em2, by rw [el2]; simp⟩, fun _ _ _ _ _ => trivial, ?_, ?_⟩
          · rintro m dd _ M3 hdd ⟨⟨x8, rfl⟩, su3, em3, el3⟩
            obtain ⟨hm, rfl⟩ := rg1_at hdd
            refine wg_name 8 sc.nd ?_
            refine wss_one ?_
            refine ws_expr ?_
            refine we_append ?_
            refine we_var 5 rfl ?_
            refine ⟨_, _, rfl, el3, ?_⟩
            refine we_bin od_add ?_
            refine we_var 6 rfl ?_
            refine we_tup ?_
            refine wa_cons ?_
            refine we_var 8 rfl ?_
            refine wa_nil ?_
            refine ⟨size_ok (by simp), ?_⟩
            have lrow := dealt_row i row (List.mem_of_getElem? er)
            refine b_addT (size_ok (by rw [List.length_map, lrow, List.length_singleton]; omega)) ?_
            refine ⟨_, el3, by rw [sizeLine_eq, List.length_append, List.length_map, List.length_map, List.length_range]; omega, ?_⟩
            refine ⟨⟨_, rfl⟩, fun x u e => (put_ne (nn e hplM)).trans (su3 x u e), (put_ne nml).trans em3, ?_⟩
            have er2 : D.tup (row.map D.int ++ [D.int (m : Nat)]) = dRow (row ++ [((m : Nat) : Int)]) := by unfold dRow; rw [List.map_append]; rfl
            rw [put_same, er2, List.range_succ, List.map_append, List.append_assoc]
            rfl
          · rintro _ M3 ⟨⟨x8, rfl⟩, su3, em3, el3⟩
            rw [rg1_len] at el3
            refine ⟨⟨_, _, _, rfl⟩, su3, em3, ?_⟩
            rw [el3, List.take_add_one, er, List.flatMap_append]
            congr 2
            rw [List.map_append]
            congr 1
            show _ = List.map dRow ([row].flatMap (dealS f B))
            rw [List.flatMap_cons, List.flatMap_nil, List.append_nil]
            unfold dealS
            rw [List.map_map]
            rfl
      · rintro _ M2 ⟨⟨x6, x7, x8, rfl⟩, su2, em2, el2⟩
        rw [List.length_map, List.take_length] at el2
        exact ⟨⟨_, _, _, rfl⟩, su2, el2⟩
    rintro _ M2 ⟨⟨x6, x7, x8, rfl⟩, su2, el2⟩
    refine wss_one ?_
    refine ws_set 3 sc.nd ?_
    refine we_var 5 rfl ?_
    exact ⟨pl, _, _, _, _, _, rfl, su2, el2⟩
  · rintro _ M1 ⟨pm, x4, x5, x6, x7, x8, rfl, su1, em1⟩
    rw [rg1_len, Int.toNat_natCast] at em1
    refine wss_one (ws_ret ?_)
    refine we_var 3 rfl ?_
    exact ⟨_, Sub.refl _, kk pm M1 su1 em1⟩
end
end K81

set_option Elab.async false
set_option linter.all false
set_option maxRecDepth 100000
set_option maxHeartbeats 4000000
namespace K81
open PySem PySem.Spec PyProof.Rows L2 DL
section
variable {P : Program} {w : World} {K : PySem.W.Frag} {mg : Str → Option Value} {base : Heap}
/-! ### _law_fails -/
def loF (c : Cal) (bs : Int) (s : Bool) : Int := bs * c.per s
def hiF (c : Cal) (bs : Int) (n : Nat) (s : Bool) : Int := (bs + n) * c.per s
def offF (c : Cal) (n : Nat) (s : Bool) : Int := if s then n * c.p0 else 0
/-- the letters dealt so far: side t up to its j-th -/
def limF (c : Cal) (bs : Int) (n : Nat) (t : Bool) (j : Nat) (s : Bool) : Int := if s = t then loF c bs s + j else if t then hiF c bs n s else loF c bs s
def Fp (c : Cal) (bs : Int) (n : Nat) (row : List Int) (t : Bool) (j : Nat) (s : Bool) (x : Int) : Int := if loF c bs s ≤ x ∧ x < limF c bs n t j s then row.getD (offF c n s + (x - loF c bs s)).toNat 0 else 0
/-- the fates of a row -/
def Fr_ (c : Cal) (bs : Int) (n : Nat) (row : List Int) (s : Bool) (x : Int) : Int := if loF c bs s ≤ x ∧ x < hiF c bs n s then row.getD (offF c n s + (x - loF c bs s)).toNat 0 else 0
def TellsF (fk : List (List Key × D)) (F : Bool → Int → Int) : Prop := ∀ s n, (valD fk [.inl (sI s), .inl n]).getD (.int 0) = .int (F s n)
theorem hi_lo {c : Cal} {bs : Int} {n : Nat} {s : Bool} (hp : 0 < c.per s) : hiF c bs n s = loF c bs s + n * c.per s := by unfold hiF loF; rw [Int.add_mul]
def sp_law_fails : DSp := fun ds M P R => ∃ (c : Cal) (bs : Int) (n : Nat) (row : List Int), ds = [.tup [.int c.p0, .int c.p1], .int bs, .int n, dRow row] ∧ c.Ok ∧ n ≤ 40 ∧ (row.length : Int) = n * (c.p0 + c.p1) ∧ row.length ≤ 1000 ∧ -1000000 ≤ bs ∧ bs ≤ 1000000 ∧ ∀ q M' fk, M q = none → Sub M M' → M' q = some (.dT fk) → TellsF fk (Fr_ c bs n row) → P (.ref q) M'
theorem sc_law_fails : FnScope ["per", "base", "calls", "row", "side", "found", "place", "number"] ["per", "base", "calls", "row"] (defScope (Hd.topS 36)) := ⟨rfl, rfl, rfl, by decide +kernel, rfl, by decide +kernel, by decide +kernel⟩
theorem sI_inj {s t : Bool} (h : sI s = sI t) : s = t := by cases s <;> cases t <;> first | rfl | exact absurd h (by decide)
theorem mulB {a p : Int} (h1 : -2000000 ≤ a) (h2 : a ≤ 2000000) (p0 : 0 < p) (p1 : p ≤ 1000) : -(2 ^ 62) ≤ a * p ∧ a * p < 2 ^ 62 := by
  constructor
  · have := Int.mul_le_mul_of_nonneg_right h1 (show 0 ≤ p by omega)
    have h3 : -2000000 * 1000 ≤ -2000000 * p := Int.mul_le_mul_of_nonpos_left (by omega) p1
    omega
  · have := Int.mul_le_mul_of_nonneg_right h2 (show 0 ≤ p by omega)
    omega
theorem ok_law_fails (C : Ct K mg base) : DefOk P w K mg base CX0 1 "_law_fails" ["per", "base", "calls", "row"] sp_law_fails := by
  refine C.df 31 31 (d := Hd.d_law_fails) rfl rfl rfl (fun _ _ _ _ _ _ us hl => match us, hl with | [_, _, _, _], _ => rfl) fun f fd F => fn_ok F sc_law_fails (by rintro _ _ _ _ ⟨_, _, _, _, rfl, _⟩; rfl) ?_
  intro cdv Ar outer s H E ds M Q R hr ⟨c, bs, n, row, eds, hc, hn, hrow, hrl, hb0, hb1, kk⟩
  subst eds
  have sc := sc_law_fails
  have hp0 := hc.p false
  have hp1 := hc.p true
  have e0 : c.per false = c.p0 := rfl
  have e1 : c.per true = c.p1 := rfl
  rw [e0] at hp0
  rw [e1] at hp1
  have hsplit : (row.length : Int) = n * c.p0 + n * c.p1 := by rw [hrow, Int.mul_add]
  have hnn0 : 0 ≤ (n : Int) * c.p0 := Int.mul_nonneg (by omega) (by omega)
  have hnn1 : 0 ≤ (n : Int) * c.p1 := Int.mul_nonneg (by omega) (by omega)
  refine wss_cons ?_
  refine ws_par 5 6 rfl sc.nd ?_
  refine wa_cons ?_
  refine we_dnewT fun pf hpf => ?_
  refine wa_cons ?_
  refine we_int ?_
  refine wa_nil ?_
  refine ⟨_, _, rfl, ?_⟩
  refine wss_cons ?_
  refine ws_for PassesOwn.never rfl ?_
  refine wi_tup ?_
  refine we_tup ?_
  refine wa_cons ?_
  refine we_int ?_
  refine wa_cons ?_
  refine we_int ?_
  refine wa_nil ?_
  refine ⟨size_ok (by simp), _, rfl, ?_⟩
  refine ⟨fun i (Γ' : Sl) (M' : Mem) => ∃ x4 x7 pl fk, Γ' = [some (D.tup [.int c.p0, .int c.p1]), some (D.int bs), some (D.int (n : Nat)), some (dRow row), x4, some (D.ref pf), some (D.int pl), x7] ∧ Sub M M' ∧ M' pf = some (.dT fk) ∧ (fk.length : Int) ≤ pl ∧ (i = 0 → pl = 0 ∧ TellsF fk (Fp c bs n row false 0)) ∧ (i = 1 → pl = offF c n true ∧ TellsF fk (Fp c bs n row true 0)) ∧ (i = 2 → TellsF fk (Fr_ c bs n row)),
    ⟨none, none, 0, [], rfl, Sub.put hpf, put_same, Int.le_refl _, fun _ => ⟨rfl, fun s x => ?_⟩, fun z => absurd z (by decide), fun z => absurd z (by decide)⟩, fun _ _ _ _ _ => trivial, ?_, ?_⟩
  · show D.int 0 = D.int (Fp c bs n row false 0 s x)
    unfold Fp
    rw [if_neg]
    unfold limF
    cases s
    · rw [if_pos rfl]; omega
    · rw [if_neg (by decide), if_neg (by decide)]; omega
  · rintro i dd _ M1 hdd ⟨x4, x7, pl, fk, rfl, su1, ef1, hfl, i0, i1, _⟩
    have hi : i < 2 := by have := (List.getElem?_eq_some_iff.mp hdd).1; simpa using this
    obtain ⟨t, rfl, hpl, hT⟩ : ∃ t : Bool, i = (if t then 1 else 0) ∧ pl = offF c n t ∧ TellsF fk (Fp c bs n row t 0) := by
      match i, hi with
      | 0, _ => exact ⟨false, rfl, (i0 rfl).1, (i0 rfl).2⟩
      | 1, _ => exact ⟨true, rfl, (i1 rfl).1, (i1 rfl).2⟩
    have edd : dd = dS t := by cases t <;> cases hdd <;> rfl
    subst edd
    have hpt := hc.p t
    have htop : offF c n t + n * c.per t ≤ row.length := by cases t <;> simp [offF, e0, e1] <;> omega
    have hnt : 0 ≤ (n : Int) * c.per t := by cases t; exact hnn0; exact hnn1
    have hoff : 0 ≤ offF c n t := by cases t <;> simp [offF] <;> omega
    refine wg_name 4 sc.nd ?_
    refine wss_one ?_
    refine ws_for PassesOwn.never rfl ?_
    refine wi_range2 (C.fr 71) ?_
    refine we_bin od_mul ?_
    refine we_var 1 rfl ?_
    refine we_sub ?_
    refine we_var 0 rfl ?_
    refine we_var 4 rfl ?_
    refine i_tup (d := .int (c.per t)) (by cases t <;> rfl) ?_
    refine b_mul (.inr ⟨by omega, by omega⟩) ?_
    refine we_bin od_mul ?_
    refine we_bin od_add ?_
    refine we_var 1 rfl ?_
    refine we_var 2 rfl ?_
    refine b_addI ?_
    refine we_sub ?_
    refine we_var 0 rfl ?_
    refine we_var 4 rfl ?_
    refine i_tup (d := .int (c.per t)) (by cases t <;> rfl) ?_
    refine b_mul (.inr ⟨by omega, by omega⟩) ?_
    have hm1 := mulB (a := bs) (by omega) (by omega) hpt.1 hpt.2
    have hm2 := mulB (a := bs + n) (by omega) (by omega) hpt.1 hpt.2
    refine ⟨_, _, rfl, rfl, ⟨hm1.1, hm1.2, hm2.1, hm2.2⟩, ?_⟩
    have hlen : (rg2 (bs * c.per t) ((bs + n) * c.per t)).length = ((n : Int) * c.per t).toNat := by
      unfold rg2
      rw [List.length_map, List.length_range, Int.add_mul]
      congr 1
      omega
    refine ⟨fun j (Γ' : Sl) (M' : Mem) => ∃ x7 fk, Γ' = [some (D.tup [.int c.p0, .int c.p1]), some (D.int bs), some (D.int (n : Nat)), some (dRow row), some (dS t), some (D.ref pf), some (D.int (offF c n t + (j : Nat))), x7] ∧ Sub M M' ∧ M' pf = some (.dT fk) ∧ (fk.length : Int) ≤ offF c n t + (j : Nat) ∧ TellsF fk (Fp c bs n row t j), ⟨x7, fk, ?_, su1, ef1, by omega, hT⟩, fun _ _ _ _ _ => trivial, ?_, ?_⟩
    · subst hpl
      show [some (D.tup [.int c.p0, .int c.p1]), some (D.int bs), some (D.int (n : Nat)), some (dRow row), some (dS t), some (D.ref pf), some (D.int (offF c n t)), x7] = _
      rw [show offF c n t + ((0 : Nat) : Int) = offF c n t by omega]
    · rintro j dd _ M2 hdd ⟨x7', fk2, rfl, su2, ef2, hfl2, hT2⟩
      have hj : j < ((n : Int) * c.per t).toNat := by rw [← hlen]; exact (List.getElem?_eq_some_iff.mp hdd).1
      have edd : dd = .int (loF c bs t + (j : Nat)) := by
        have hj' : j < ((bs + n) * c.per t - bs * c.per t).toNat := by
          have := (List.getElem?_eq_some_iff.mp hdd).1
          unfold rg2 at this
          rwa [List.length_map, List.length_range] at this
        unfold rg2 at hdd
        rw [List.getElem?_map, List.getElem?_range hj'] at hdd
        exact (Option.some.inj hdd).symm
      subst edd
      have hidx : (offF c n t + (j : Nat)).toNat < row.length := by omega
      refine wg_name 7 sc.nd ?_
      refine wss_cons ?_
      refine ws_asg ?_
      refine we_sub ?_
      refine we_var 3 rfl ?_
      refine we_var 6 rfl ?_
      refine i_tup (d := .int (row.getD (offF c n t + (j : Nat)).toNat 0)) (by rw [show offF c n t + (j : Int) = ((offF c n t + (j : Nat)).toNat : Int) by omega]; exact atI_nat (map_at (getD_at hidx))) ?_
      refine wg_dsub (hu_of hr) ?_
      refine we_var 5 rfl ?_
      refine we_tup ?_
      refine wa_cons ?_
      refine we_var 4 rfl ?_
      refine wa_cons ?_
      refine we_var 7 rfl ?_
      refine wa_nil ?_
      refine ⟨size_ok (by simp), ?_⟩
      refine ⟨_, _, rfl, .inr ⟨_, [.inl (sI t), .inl (loF c bs t + (j : Nat))], ef2, rfl, by rw [sizeLine_eq]; omega, rfl⟩, ?_⟩
      refine wss_one ?_
      refine ws_set 6 sc.nd ?_
      refine we_bin od_add ?_
      refine we_var 6 rfl ?_
      refine we_int ?_
      refine b_addI ?_
      have npM : M pf = none := hpf
      refine ⟨some (D.int (loF c bs t + (j : Nat))), putD fk2 [.inl (sI t), .inl (loF c bs t + (j : Nat))] (.int (row.getD (offF c n t + (j : Nat)).toNat 0)), ?_, fun x u e => (put_ne (nn e npM)).trans (su2 x u e), put_same, ?_, fun s x => ?_⟩
      · rw [show offF c n t + ((j + 1 : Nat) : Int) = offF c n t + (j : Int) + 1 by omega]
        rfl
      · have := putD_len fk2 [Sum.inl (sI t), Sum.inl (loF c bs t + (j : Nat))] (D.int (row.getD (offF c n t + (j : Nat)).toNat 0))
        omega
      · rw [valD_put]
        by_cases hs : s = t ∧ x = loF c bs t + (j : Nat)
        · obtain ⟨rfl, rfl⟩ := hs
          rw [if_pos rfl]
          show D.int _ = D.int _
          congr 1
          unfold Fp limF
          rw [if_pos rfl, if_pos (by omega)]
          congr 2
          omega
        · rw [if_neg (fun e => hs (by
            have h1 := (List.cons.inj e).1
            have h2 := (List.cons.inj (List.cons.inj e).2).1
            exact ⟨sI_inj (Sum.inl.inj h1), Sum.inl.inj h2⟩))]
          rw [hT2 s x]
          congr 1
          unfold Fp limF
          by_cases hst : s = t
          · subst hst
            rw [if_pos rfl, if_pos rfl]
            have hx : x ≠ loF c bs s + (j : Nat) := fun e => hs ⟨rfl, e⟩
            by_cases h1 : loF c bs s ≤ x ∧ x < loF c bs s + (j : Nat)
            · rw [if_pos h1, if_pos (by omega)]
            · rw [if_neg h1, if_neg (by omega)]
          · rw [if_neg hst, if_neg hst]
    · rintro _ M2 ⟨x7', fk2, rfl, su2, ef2, hfl2, hT2⟩
      rw [hlen] at hT2 hfl2 ⊢
      refine ⟨_, _, _, fk2, rfl, su2, ef2, hfl2, fun z => absurd z (by cases t <;> decide), fun z => ?_, fun z => ?_⟩
      · have ht : t = false := by cases t; rfl; exact absurd z (by decide)
        subst ht
        refine ⟨?_, fun s x => ?_⟩
        · show offF c n false + _ = offF c n true
          simp [offF, e0]
          omega
        · rw [hT2 s x]
          congr 1
          unfold Fp
          have hcnt : ((((n : Int) * c.per false).toNat : Nat) : Int) = n * c.per false := by omega
          cases s
          · rw [show limF c bs n false ((n : Int) * c.per false).toNat false = loF c bs false + (((n : Int) * c.per false).toNat : Nat) from rfl, show limF c bs n true 0 false = hiF c bs n false from rfl, hi_lo (by omega), hcnt]
          · rw [show limF c bs n false ((n : Int) * c.per false).toNat true = loF c bs true from rfl, show limF c bs n true 0 true = loF c bs true + ((0 : Nat) : Int) from rfl]
            rw [if_neg (by omega), if_neg (by omega)]
      · have ht : t = true := by cases t; exact absurd z (by decide); rfl
        subst ht
        intro s x
        rw [hT2 s x]
        congr 1
        unfold Fp Fr_
        have hcnt : ((((n : Int) * c.per true).toNat : Nat) : Int) = n * c.per true := by omega
        cases s
        · rw [show limF c bs n true ((n : Int) * c.per true).toNat false = hiF c bs n false from rfl]
        · rw [show limF c bs n true ((n : Int) * c.per true).toNat true = loF c bs true + (((n : Int) * c.per true).toNat : Nat) from rfl, hi_lo (by omega), hcnt]
  · rintro _ M1 ⟨x4, x7, pl, fk, rfl, su1, ef1, _, _, _, h2⟩
    refine wss_one (ws_ret ?_)
    refine we_var 5 rfl ?_
    exact ⟨_, Sub.refl _, kk pf M1 fk hpf su1 ef1 (h2 rfl)⟩
end
end K81

set_option Elab.async false
set_option linter.all false
set_option maxRecDepth 100000
set_option maxHeartbeats 4000000
namespace K81
open PySem PySem.Spec PyProof.Rows L2 DL
/-- the line with another dict of fates at q -/
def Aq (A : Nat → Addr) (q : Addr) (i : Nat) : Addr := if i = 15 then q else A i
theorem Aq_lt {A : Nat → Addr} {q : Addr} {i : Nat} (h : i < 15) : Aq A q i = A i := if_neg (by omega)
theorem LineAt.fates {M M' : Mem} {A : Nat → Addr} {d : Des} {c : Cal} {b : Bnd} {bs : Int} {F G : Bool → Int → Int} {S : Cst Int} {q : Addr} {fk : List (List Key × D)} (h : LineAt M A d c b some_ bs F S) (hq : M q = none) (su : Sub M M') (e : M' q = some (.dT fk)) (t : TellsF fk G) :
    LineAt (put M' (A 0) (.dK (lineKvs (Aq A q) d c b some_ bs S.begun.length (S.done.getLast?.getD 0)))) (Aq A q) d c b some_ bs G S := by
  have df : ∀ i, i < 15 → M (A i) ≠ none := by
    intro i hi
    match i, hi with
    | 0, _ => rw [h.o]; exact fun z => by cases z
    | 1, _ => rw [h.t]; exact fun z => by cases z
    | 2, _ => rw [h.t0]; exact fun z => by cases z
    | 3, _ => rw [h.t1]; exact fun z => by cases z
    | 4, _ => rw [h.u]; exact fun z => by cases z
    | 5, _ => rw [h.u0]; exact fun z => by cases z
    | 6, _ => rw [h.u1]; exact fun z => by cases z
    | 7, _ => rw [h.r]; exact fun z => by cases z
    | 8, _ => rw [h.e]; exact fun z => by cases z
    | 9, _ => obtain ⟨_, x, _⟩ := h.e0; rw [x]; exact fun z => by cases z
    | 10, _ => obtain ⟨_, x, _⟩ := h.e1; rw [x]; exact fun z => by cases z
    | 11, _ => rw [h.bg]; exact fun z => by cases z
    | 12, _ => rw [h.dn]; exact fun z => by cases z
    | 13, _ => rw [h.h]; exact fun z => by cases z
    | 14, _ => rw [h.z]; exact fun z => by cases z
  have qn : ∀ i, i < 15 → q ≠ A i := fun i hi z => df i hi (z ▸ hq)
  have hI := h.inj
  have p : ∀ {i : Nat} {m : MO}, i < 15 → i ≠ 0 → M (A i) = some m → (put M' (A 0) (.dK (lineKvs (Aq A q) d c b some_ bs S.begun.length (S.done.getLast?.getD 0)))) (A i) = some m := fun {i m} h1 h2 h3 => (put_ne (hI.ne h2 (by omega) (by omega))).trans (su _ _ h3)
  refine { o := put_same, t := p (by decide) (by decide) h.t, t0 := p (by decide) (by decide) h.t0, t1 := p (by decide) (by decide) h.t1, u := p (by decide) (by decide) h.u, u0 := p (by decide) (by decide) h.u0, u1 := p (by decide) (by decide) h.u1, r := p (by decide) (by decide) h.r, e := p (by decide) (by decide) h.e, e0 := (let ⟨l, h1, h2⟩ := h.e0; ⟨l, p (by decide) (by decide) h1, h2⟩), e1 := (let ⟨l, h1, h2⟩ := h.e1; ⟨l, p (by decide) (by decide) h1, h2⟩), bg := p (by decide) (by decide) h.bg, dn := p (by decide) (by decide) h.dn, h := p (by decide) (by decide) h.h, z := p (by decide) (by decide) h.z, fk := ⟨fk, (put_ne (qn 0 (by decide))).trans e, .inr ⟨rfl, t⟩⟩, inj := fun i j hi hj z => ?_, lb := h.lb }
  unfold Aq at z
  by_cases e1 : i = 15
  · by_cases e2 : j = 15
    · rw [e1, e2]
    · rw [if_pos e1, if_neg e2] at z
      exact absurd z (qn j (by omega))
  · by_cases e2 : j = 15
    · rw [if_neg e1, if_pos e2] at z
      exact absurd z.symm (qn i (by omega))
    · rw [if_neg e1, if_neg e2] at z
      exact hI i j hi hj z
theorem dealt_ne {f B : Int} (hf : 0 ≤ f) (hB : 0 ≤ B) : ∀ n, dealt f B n ≠ []
  | 0 => by simp [dealt]
  | n + 1 => by
    have ih := dealt_ne hf hB n
    cases e : dealt f B n with
    | nil => exact absurd e ih
    | cons row l =>
      intro h
      have h1 := dealt_mem hB n row (by rw [e]; exact List.mem_cons_self)
      have h2 : (dealt f B n).flatMap (dealS f B) = [] := h
      rw [e, List.flatMap_cons] at h2
      have h3 := (List.append_eq_nil_iff.mp h2).1
      unfold dealS at h3
      have h4 := congrArg List.length h3
      rw [List.length_map, List.length_range, List.length_nil] at h4
      omega
theorem Bnd.In.nn {b : Bnd} {f : Int} (h : b.In f) : b.Nn := by
  have h1 := h.hi
  have h2 := h.high
  exact ⟨fun s => by cases s <;> simp [Bnd.t0, Bnd.del] <;> omega, fun s => by cases s <;> simp [Bnd.t1, Bnd.del] <;> omega⟩
theorem Fr_nn {c : Cal} {bs : Int} {n : Nat} {row : List Int} (h : ∀ x ∈ row, 0 ≤ x) (s : Bool) (x : Int) : 0 ≤ Fr_ c bs n row s x := by
  unfold Fr_
  split
  · rw [List.getD]
    cases e : row[(offF c n s + (x - loF c bs s)).toNat]? with
    | none => exact Int.le_refl _
    | some y => exact h y (List.mem_of_getElem? e)
  · exact Int.le_refl _
section
variable {P : Program} {w : World} {K : PySem.W.Frag} {mg : Str → Option Value} {base : Heap}
/-- the law's run under a row of fates -/
def runI (d : Des) (c : Cal) (b : Bnd) (bs : Int) (ts : List Int) (row : List Int) : Cst Int := runC (opsI c b (Fr_ c bs ts.length row)) d.round c bs ts
def acc3 (d : Des) (c : Cal) (b : Bnd) (ts : List Int) : List (List Int) → Option (Nat → List Int)
  | rows => rows.foldl (fun g row => some (match g with
    | none => part3 (runI d c b 0 ts row)
    | some g => fun k => List.zipWith max (g k) (part3 (runI d c b 0 ts row) k))) none
theorem acc3_snoc {d : Des} {c : Cal} {b : Bnd} {ts : List Int} {rows : List (List Int)} {row : List Int} : acc3 d c b ts (rows ++ [row]) = some (match acc3 d c b ts rows with
    | none => part3 (runI d c b 0 ts row)
    | some g => fun k => List.zipWith max (g k) (part3 (runI d c b 0 ts row) k)) := by
  unfold acc3
  rw [List.foldl_append]
  rfl
theorem part3_len {d : Des} {c : Cal} {b : Bnd} {bs : Int} {ts row : List Int} (k : Nat) : (part3 (runI d c b bs ts row) k).length = ts.length := by
  have h := runC_len (o := opsI c b (Fr_ c bs ts.length row)) (round := d.round) (c := c) (ahead := bs) ts
  match k with
  | 0 => exact h.1
  | 1 => exact h.2.1
  | _ + 2 => exact h.2.2.1
theorem acc3_len {d : Des} {c : Cal} {b : Bnd} {ts : List Int} : ∀ rows g, acc3 d c b ts rows = some g → ∀ k, (g k).length = ts.length := by
  intro rows
  have key : ∀ (rows : List (List Int)) (g0 : Option (Nat → List Int)), (∀ g, g0 = some g → ∀ k, (g k).length = ts.length) → ∀ g, rows.foldl (fun g row => some (match g with
    | none => part3 (runI d c b 0 ts row)
    | some g => fun k => List.zipWith max (g k) (part3 (runI d c b 0 ts row) k))) g0 = some g → ∀ k, (g k).length = ts.length := by
    intro rows
    induction rows with
    | nil => exact fun g0 h g e => h g e
    | cons row rows ih =>
      intro g0 h g e
      refine ih _ ?_ g e
      intro g1 e1 k
      cases g0 with
      | none => cases e1; exact part3_len k
      | some g2 =>
        cases e1
        show (List.zipWith max (g2 k) _).length = _
        rw [List.length_zipWith, h g2 rfl k, part3_len]
        omega
  exact fun g e => key rows none (fun _ z => by cases z) g e
def dRows (g : Nat → List Int) : D := .tup [.tup ((g 0).map D.int), .tup ((g 1).map D.int), .tup ((g 2).map D.int)]
def mxf (x y : List Int) : D → D
  | .int j => .int (max (x.getD j.toNat 0) (y.getD j.toNat 0))
  | d => d
theorem zip_map_ix {x y : List Int} {n : Nat} (hx : x.length = n) (hy : y.length = n) : (rg1 (n : Nat)).map (mxf x y) = (List.zipWith max x y).map D.int := by
  rw [rg1_map, List.map_map, List.map_map]
  refine List.ext_getElem? fun i => ?_
  rw [List.getElem?_map, List.getElem?_map]
  by_cases hi : i < n
  · rw [List.getElem?_range hi, List.getElem?_zipWith, getD_at (d := (0 : Int)) (show i < x.length by omega), getD_at (d := (0 : Int)) (show i < y.length by omega)]
    rfl
  · rw [List.getElem?_eq_none (by rw [List.length_range]; omega), List.getElem?_eq_none (by rw [List.length_zipWith]; omega)]
    rfl
def sp_law_latest : DSp := fun ds M P R => ∃ (d : Des) (c : Cal) (bs : List Bnd) (b : Bnd) (k : Nat) (ts : List Int) (B : Int), ds = [dDes d, dBnds bs, .int k, .tup (ts.map D.int), .int B] ∧ d.cals[k]? = some c ∧ bs[k]? = some b ∧ c.Ok ∧ d.Ok ∧ b.In 2 ∧ 0 ≤ B ∧ B ≤ 1000 ∧ (∀ t ∈ ts, 0 ≤ t) ∧ ts.length ≤ 12 ∧ (ts.length : Int) * (c.p0 + c.p1) ≤ 12 ∧
  ∀ M' g, Sub M M' → acc3 d c b ts (dealt b.fails B ((ts.length : Int) * (c.p0 + c.p1)).toNat) = some g → P (dRows g) M'
theorem sc_law_latest : FnScope ["design", "bounds", "caller", "ticks", "budget", "row", "one", "many", "found", "line", "tick", "rows", "k", "j"] ["design", "bounds", "caller", "ticks", "budget"] (defScope (Hd.topS 37)) := ⟨rfl, rfl, rfl, by decide +kernel, rfl, by decide +kernel, by decide +kernel⟩
/-- found holds the best so far -/
def FoundAt (M : Mem) (pf : D) (g : Option (Nat → List Int)) : Prop := match g with
  | none => pf = .non
  | some g => ∃ a p0 p1 p2, pf = .ref a ∧ M a = some (.lst [.ref p0, .ref p1, .ref p2]) ∧ M p0 = some (.lst ((g 0).map D.int)) ∧ M p1 = some (.lst ((g 1).map D.int)) ∧ M p2 = some (.lst ((g 2).map D.int))
theorem FoundAt.sub {M M1 : Mem} {pf : D} {g : Option (Nat → List Int)} (h : FoundAt M pf g) (s : Sub M M1) : FoundAt M1 pf g := by
  cases g with
  | none => exact h
  | some g => exact let ⟨a, p0, p1, p2, e, h0, h1, h2, h3⟩ := h; ⟨a, p0, p1, p2, e, s _ _ h0, s _ _ h1, s _ _ h2, s _ _ h3⟩
theorem ok_law_latest (C : Ct K mg base) : DefOk P w K mg base CX0 4 "_law_latest" ["design", "bounds", "caller", "ticks", "budget"] sp_law_latest := by
  refine C.df 32 32 (d := Hd.d_law_latest) rfl rfl rfl (fun _ _ _ _ _ _ us hl => match us, hl with | [_, _, _, _, _], _ => rfl) fun f fd Fd => fn_ok Fd sc_law_latest (by rintro _ _ _ _ ⟨_, _, _, _, _, _, _, rfl, _⟩; rfl) ?_
  intro cdv Ar outer s H E ds M Q R hr ⟨d, c, bs, b, k, ts, B, eds, h1, h2, hc, hd, hb, b0, b1, hts, htl, hpl, kk⟩
  subst eds
  have sc := sc_law_latest
  have hp0 := hc.p false
  have hp1 := hc.p true
  have e0 : c.per false = c.p0 := rfl
  have e1 : c.per true = c.p1 := rfl
  rw [e0] at hp0
  rw [e1] at hp1
  have hbn := hb.nn
  have hbf0 := hb.f0
  have hbf1 := hb.f1
  have hnn : 0 ≤ (ts.length : Int) * (c.p0 + c.p1) := Int.mul_nonneg (by omega) (by omega)
  refine wss_cons ?_
  refine ws_asg ?_
  refine we_tup ?_
  refine wa_cons ?_
  refine we_sub ?_
  refine we_sub ?_
  refine we_var 0 rfl ?_
  refine we_int ?_
  refine i_tup rfl ?_
  refine we_var 2 rfl ?_
  refine i_tup (atI_nat (map_at h1)) ?_
  refine wa_cons ?_
  refine we_callB cd_len (C.fr 67) ?_
  refine wa_cons ?_
  refine we_var 3 rfl ?_
  refine wa_nil ?_
  refine c_len rfl ?_
  rw [List.length_map]
  refine wa_cons ?_
  refine we_non ?_
  refine wa_nil ?_
  refine ⟨size_ok (by simp), ?_⟩
  refine wg_tup rfl rfl ?_
  refine wgs_cons ?_
  refine wg_name 6 sc.nd ?_
  refine wgs_cons ?_
  refine wg_name 7 sc.nd ?_
  refine wgs_cons ?_
  refine wg_name 8 sc.nd ?_
  refine wgs_nil ?_
  refine wss_cons ?_
  refine ws_for PassesOwn.never rfl ?_
  refine wi_lst ?_
  refine we_call (ok_law_dealt C) hr ?_
  refine wa_cons ?_
  refine we_bin od_mul ?_
  refine we_var 7 rfl ?_
  refine we_bin od_add ?_
  refine we_sub ?_
  refine we_var 6 rfl ?_
  refine we_int ?_
  refine i_tup rfl ?_
  refine we_sub ?_
  refine we_var 6 rfl ?_
  refine we_int ?_
  refine i_tup rfl ?_
  refine b_addI ?_
  refine b_mul (.inl ⟨by omega, by omega⟩) ?_
  refine wa_cons ?_
  refine we_sub ?_
  refine we_sub ?_
  refine we_var 1 rfl ?_
  refine we_var 2 rfl ?_
  refine i_tup (atI_nat (map_at h2)) ?_
  refine we_int ?_
  refine i_tup rfl ?_
  refine wa_cons ?_
  refine we_var 4 rfl ?_
  refine wa_nil ?_
  refine ⟨((ts.length : Int) * (c.p0 + c.p1)).toNat, b.fails, B, ?_, by omega, by omega, by omega, b0, b1, fun qd M1 su1 ed1 => ?_⟩
  · show [D.int ((ts.length : Int) * (c.p0 + c.p1)), D.int b.fails, D.int B] = [D.int ((((ts.length : Int) * (c.p0 + c.p1)).toNat : Nat) : Int), D.int b.fails, D.int B]
    rw [Int.toNat_of_nonneg hnn]
  refine ⟨qd, _, rfl, ed1, ?_⟩
  generalize hN : ((ts.length : Int) * (c.p0 + c.p1)).toNat = N at *
  have hNI : (N : Int) = ts.length * (c.p0 + c.p1) := by omega
  refine ⟨fun i (Γ' : Sl) (M' : Mem) => (∃ x5 pf x9 x10 x11, Γ' = [some (dDes d), some (dBnds bs), some (D.int (k : Nat)), some (D.tup (ts.map D.int)), some (D.int B), x5, some (dCal c), some (D.int (ts.length : Nat)), some pf, x9, x10, x11, none, none] ∧ FoundAt M' pf (acc3 d c b ts ((dealt b.fails B N).take i))) ∧ Sub M1 M', ⟨⟨none, .non, none, none, none, rfl, rfl⟩, Sub.refl _⟩, fun i Γ' M' _ h => h.2 _ _ ed1, ?_, ?_⟩
  · rintro i dd _ M2 hdd ⟨⟨x5, pf, x9, x10, x11, rfl, hfo⟩, su2⟩
    rw [List.getElem?_map] at hdd
    cases er : (dealt b.fails B N)[i]? with
    | none => rw [er] at hdd; cases hdd
    | some row =>
      rw [er] at hdd
      cases hdd
      have hmem := List.mem_of_getElem? er
      have hrl := dealt_row N row hmem
      have hrm := dealt_mem b0 N row hmem
      have hr0 : ∀ x ∈ row, 0 ≤ x := fun x hx => (hrm.1 x hx).1
      refine wg_name 5 sc.nd ?_
      refine wss_cons ?_
      refine ws_set 9 sc.nd ?_
      refine we_call (ok_law_line C) hr ?_
      refine wa_cons ?_
      refine we_var 0 rfl ?_
      refine wa_cons ?_
      refine we_var 1 rfl ?_
      refine wa_cons ?_
      refine we_var 2 rfl ?_
      refine wa_cons ?_
      refine we_str ?_
      refine wa_cons ?_
      refine we_int ?_
      refine wa_nil ?_
      refine ⟨d, c, bs, b, k, some_, 0, rfl, h1, h2, .inr rfl, fun A M3 hA su3 hL => ?_⟩
      refine wss_cons ?_
      refine ws_asg ?_
      refine we_call (ok_law_fails C) hr ?_
      refine wa_cons ?_
      refine we_dget (hu_of hr) ?_
      refine we_var 9 rfl ?_
      refine we_str ?_
      refine ⟨_, _, rfl, .inl ⟨_, .inr "per", hL.o, rfl, rfl⟩, ?_⟩
      refine wa_cons ?_
      refine we_int ?_
      refine wa_cons ?_
      refine we_var 7 rfl ?_
      refine wa_cons ?_
      refine we_var 5 rfl ?_
      refine wa_nil ?_
      refine ⟨c, 0, ts.length, row, rfl, hc, by omega, by rw [hrl]; exact hNI, by omega, by omega, by omega, fun q M4 fk hq su4 eq4 hT => ?_⟩
      refine wg_dsub (hu_of hr) ?_
      refine we_var 9 rfl ?_
      refine we_str ?_
      refine ⟨_, _, rfl, .inl ⟨_, .inr "fates", su4 _ _ hL.o, rfl, kvl (Nat.le_of_ble_eq_true rfl), rfl⟩, ?_⟩
      have hL5 := hL.fates hq su4 eq4 hT
      show WSs _ _ _ (put M4 (A 0) (.dK (lineKvs (Aq A q) d c b some_ 0 (cst0 : Cst Int).begun.length ((cst0 : Cst Int).done.getLast?.getD 0)))) _
      have su5 : Sub M2 (put M4 (A 0) (.dK (lineKvs (Aq A q) d c b some_ 0 (cst0 : Cst Int).begun.length ((cst0 : Cst Int).done.getLast?.getD 0)))) := fun x u e => (put_ne (nn e (hA 0 (by decide)))).trans (su4 _ _ (su3 _ _ e))
      generalize put M4 (A 0) (.dK (lineKvs (Aq A q) d c b some_ 0 (cst0 : Cst Int).begun.length ((cst0 : Cst Int).done.getLast?.getD 0))) = M5 at hL5 su5 ⊢
      have hAq : ∀ j, j < 15 → M2 (Aq A q j) = none := fun j hj => by rw [Aq_lt hj]; exact hA j (by omega)
      refine wss_cons ?_
      refine ws_for PassesOwn.never rfl ?_
      refine wi_tup ?_
      refine we_var 3 rfl ?_
      refine ⟨_, rfl, ?_⟩
      refine ⟨fun j (Γ' : Sl) (M' : Mem) => (∃ x10, Γ' = [some (dDes d), some (dBnds bs), some (D.int (k : Nat)), some (D.tup (ts.map D.int)), some (D.int B), some (dRow row), some (dCal c), some (D.int (ts.length : Nat)), some pf, some (D.ref (A 0)), x10, x11, none, none]) ∧ Sub M2 M' ∧ LineAt M' (Aq A q) d c b some_ 0 (Fr_ c 0 ts.length row) (runC (opsI c b (Fr_ c 0 ts.length row)) d.round c 0 (ts.take j)), ⟨⟨_, rfl⟩, su5, hL5⟩, fun _ _ _ _ _ => trivial, ?_, ?_⟩
      · rintro j dd _ M6 hdd ⟨⟨x10', rfl⟩, su6, hL6⟩
        rw [List.getElem?_map] at hdd
        cases et : ts[j]? with
        | none => rw [et] at hdd; cases hdd
        | some t =>
          rw [et] at hdd
          cases hdd
          have hl := runC_len (o := opsI c b (Fr_ c 0 ts.length row)) (round := d.round) (c := c) (ahead := 0) (ts.take j)
          have hlt := List.length_take_le' j ts
          refine wg_name 10 sc.nd ?_
          refine wss_one ?_
          refine ws_expr ?_
          refine we_call (ok_law_call C) hr ?_
          refine wa_cons ?_
          refine we_var 9 rfl ?_
          refine wa_cons ?_
          refine we_var 10 rfl ?_
          refine wa_nil ?_
          refine ⟨Aq A q, d, c, b, some_, 0, _, _, t, rfl, hL6, hc, hd, hbn, hts t (List.mem_of_getElem? et), Fr_nn hr0, by omega, by omega, by omega, fun s => ?_, fun M7 f7 hL7 => ?_⟩
          · rw [hl.2.2.2 s]
            have h9 := hc.p s
            have := Nat.mul_le_mul (show (ts.take j).length ≤ 12 by omega) (show (c.per s).toNat ≤ 1000 by omega)
            omega
          · refine ⟨⟨_, rfl⟩, fun x u e => f7 x u (fun i' hi' z => by rw [z, hAq i' hi'] at e; cases e) (su6 x u e), ?_⟩
            rw [List.take_add_one, et]
            show LineAt M7 (Aq A q) d c b some_ 0 (Fr_ c 0 ts.length row) (runC _ d.round c 0 (ts.take j ++ [t]))
            rw [runC_snoc]
            exact hL7
      rintro _ M6 ⟨⟨x10', rfl⟩, su6, hL6⟩
      rw [List.length_map, List.take_length] at hL6
      have ers : runC (opsI c b (Fr_ c 0 ts.length row)) d.round c 0 ts = runI d c b 0 ts row := rfl
      rw [ers] at hL6
      have hfo6 := hfo.sub su6
      refine wss_cons ?_
      refine ws_set 11 sc.nd ?_
      refine we_lst ?_
      refine wa_cons ?_
      refine we_dget (hu_of hr) ?_
      refine we_var 9 rfl ?_
      refine we_str ?_
      refine ⟨_, _, rfl, .inl ⟨_, .inr "begun", hL6.o, rfl, rfl⟩, ?_⟩
      refine wa_cons ?_
      refine we_dget (hu_of hr) ?_
      refine we_var 9 rfl ?_
      refine we_str ?_
      refine ⟨_, _, rfl, .inl ⟨_, .inr "done", hL6.o, rfl, rfl⟩, ?_⟩
      refine wa_cons ?_
      refine we_dget (hu_of hr) ?_
      refine we_var 9 rfl ?_
      refine we_str ?_
      refine ⟨_, _, rfl, .inl ⟨_, .inr "heard", hL6.o, rfl, rfl⟩, ?_⟩
      refine wa_nil ?_
      refine ⟨size_ok (by simp), fun pr hpr => ?_⟩
      have su7 : Sub M6 (put M6 pr (.lst [.ref (Aq A q 11), .ref (Aq A q 12), .ref (Aq A q 13)])) := Sub.put hpr
      have er7 : (put M6 pr (.lst [.ref (Aq A q 11), .ref (Aq A q 12), .ref (Aq A q 13)])) pr = some (.lst [.ref (Aq A q 11), .ref (Aq A q 12), .ref (Aq A q 13)]) := put_same
      have r0 := su7 _ _ hL6.bg
      have r1 := su7 _ _ hL6.dn
      have r2 := su7 _ _ hL6.h
      have hfo7 := hfo6.sub su7
      have su27 := (su2.trans su6).trans su7
      show WSs _ _ _ (put M6 pr (.lst [.ref (Aq A q 11), .ref (Aq A q 12), .ref (Aq A q 13)])) _
      generalize put M6 pr (.lst [.ref (Aq A q 11), .ref (Aq A q 12), .ref (Aq A q 13)]) = M7 at er7 r0 r1 r2 hfo7 su27 ⊢
      refine wss_one ?_
      refine ws_set 8 sc.nd ?_
      refine we_ifexp ?_
      refine wt_cmp od_is ?_
      refine we_var 8 rfl ?_
      refine we_non ?_
      refine b_is ?_
      refine t_bl ?_
      have etk : (dealt b.fails B N).take (i + 1) = (dealt b.fails B N).take i ++ [row] := by rw [List.take_add_one, er]; rfl
      refine ⟨fun hk => ?_, fun hk => ?_⟩
      · refine we_var 11 rfl ?_
        refine ⟨⟨_, .ref pr, _, _, _, rfl, ?_⟩, su27⟩
        rw [etk, acc3_snoc]
        cases ea : acc3 d c b ts ((dealt b.fails B N).take i) with
        | none => exact ⟨pr, _, _, _, rfl, er7, r0, r1, r2⟩
        | some g =>
          rw [ea] at hfo7
          obtain ⟨a, _, _, _, epf, _⟩ := hfo7
          subst epf
          cases hk
      · cases ea : acc3 d c b ts ((dealt b.fails B N).take i) with
        | none =>
          rw [ea] at hfo7
          have hfo7 : pf = .non := hfo7
          subst hfo7
          cases hk
        | some g =>
          rw [ea] at hfo7
          obtain ⟨a, p0, p1, p2, epf, f0, f1, f2, f3⟩ := hfo7
          subst epf
          have hgl := acc3_len _ g ea
          refine we_lcG (own := [("k", 12)]) rfl sc.nd (blkOk_by (own := [("k", 12)]) (N := ["design", "bounds", "caller", "ticks", "budget", "row", "one", "many", "found", "line", "tick", "rows", "k", "j"]) (sc := defScope (Hd.topS 37)) (by decide +kernel)) rfl gt_name (fun _ _ _ _ _ => pg_name (i := 12) sc.nd rfl (Or.inr rfl) (by first | exact .inl rfl | exact .inr rfl)) ?_
          refine wi_range1 (C.fr 71) ?_
          refine we_int ?_
          refine ⟨_, rfl, by omega, by omega, fun p hp => ?_⟩
          refine ⟨fun _ _ => trivial, fun j M' => Sub M7 M' ∧ ∃ ps : List Addr, ps.length = j ∧ M' p = some (.lst (ps.map D.ref)) ∧ ∀ (x : Nat) (y : Addr), ps[x]? = some y → y ≠ p ∧ M' y = some (.lst ((List.zipWith max (g x) (part3 (runI d c b 0 ts row) x)).map D.int)), ⟨Sub.put hp, [], rfl, put_same, fun x y h => by simp at h⟩, fun _ _ _ _ => trivial, ?_, ?_⟩
          · rintro j dd M8 hdd ⟨su8, ps, lps, eps, hps⟩ s H Ca cl fp
            obtain ⟨hj, rfl⟩ := rg1_at hdd
            have hj3 : j < 3 := by omega
            obtain ⟨pa, pb, a1, a2, a3, a4⟩ : ∃ pa pb, atI [D.ref p0, D.ref p1, D.ref p2] (j : Nat) = some (D.ref pa) ∧ M7 pa = some (.lst ((g j).map D.int)) ∧ atI [D.ref (Aq A q 11), D.ref (Aq A q 12), D.ref (Aq A q 13)] (j : Nat) = some (D.ref pb) ∧ M7 pb = some (.lst ((part3 (runI d c b 0 ts row) j).map D.int)) := by
              match j, hj3 with
              | 0, _ => exact ⟨p0, _, rfl, f1, rfl, r0⟩
              | 1, _ => exact ⟨p1, _, rfl, f2, rfl, r1⟩
              | 2, _ => exact ⟨p2, _, rfl, f3, rfl, r2⟩
            refine we_lcG (own := [("j", 13)]) rfl sc.nd (blkOk_by (own := [("j", 13)]) (sc := { kind := .function, names := [(".0", .local), ("k", .cell), ("range", .globalImplicit), ("found", .cell), ("many", .cell), ("rows", .cell)], isGenerator := false, isCoroutine := false }) (N := ["design", "bounds", "caller", "ticks", "budget", "row", "one", "many", "found", "line", "tick", "rows", "k", "j"]) (by decide +kernel)) rfl gt_name (fun _ _ _ _ _ => pg_name (i := 13) sc.nd rfl (Or.inl rfl)) ?_
            refine wi_range1 (C.fr 71) ?_
            refine we_var 7 rfl ?_
            refine ⟨_, rfl, by omega, by omega, fun q2 hq2 => ?_⟩
            refine lcj_map (mxf (g j) (part3 (runI d c b 0 ts row) j)) (by rw [rg1_len]; omega) (fun _ => trivial) (fun _ _ => trivial) ?_ ?_
            · intro x dd2 hdd2 l s H Ca cl fp
              obtain ⟨hx, rfl⟩ := rg1_at hdd2
              have hg := getD_at (d := (0 : Int)) (show x < (g j).length by rw [hgl]; omega)
              have hr_ := getD_at (d := (0 : Int)) (show x < (part3 (runI d c b 0 ts row) j).length by rw [part3_len]; omega)
              have ka := su8 _ _ a2
              have kb := su8 _ _ a4
              have kf := su8 _ _ f0
              have kr := su8 _ _ er7
              refine we_callB (cd_max rfl) (C.fr 69) ?_
              refine wa_cons ?_
              refine we_sub ?_
              refine we_sub ?_
              refine we_var 8 rfl ?_
              refine we_var 12 rfl ?_
              refine i_lst ((put_ne (nn kf hq2)).trans kf) a1 ?_
              refine we_var 13 rfl ?_
              refine i_lst ((put_ne (nn ka hq2)).trans ka) (atI_nat (map_at hg)) ?_
              refine wa_cons ?_
              refine we_sub ?_
              refine we_sub ?_
              refine we_var 11 rfl ?_
              refine we_var 12 rfl ?_
              refine i_lst ((put_ne (nn kr hq2)).trans kr) a3 ?_
              refine we_var 13 rfl ?_
              refine i_lst ((put_ne (nn kb hq2)).trans kb) (atI_nat (map_at hr_)) ?_
              refine wa_nil ?_
              refine c_max ?_
              refine ⟨?_, rfl⟩
              simp only [mxf, Int.toNat_natCast]
            · rw [zip_map_ix (hgl j) (part3_len j)]
              have nqp : p ≠ q2 := nn eps hq2
              refine ⟨ps.map D.ref, (put_ne nqp).trans eps, by rw [sizeLine_eq, List.length_map]; omega, fun x u e => (put_ne (nn e hp)).trans ((put_ne (nn (su8 x u e) hq2)).trans (su8 x u e)), ps ++ [q2], by simp [lps], by rw [put_same, List.map_append]; rfl, fun x y h => ?_⟩
              by_cases hx : x < ps.length
              · rw [List.getElem?_append_left hx] at h
                obtain ⟨h3, h4⟩ := hps x y h
                exact ⟨h3, (put_ne h3).trans ((put_ne (nn h4 hq2)).trans h4)⟩
              · rw [List.getElem?_append_right (by omega)] at h
                have hx0 : x = j := by
                  have : x - ps.length = 0 := by
                    cases hz : x - ps.length with
                    | zero => rfl
                    | succ z => rw [hz] at h; simp at h
                  omega
                subst hx0
                rw [lps, Nat.sub_self] at h
                cases h
                exact ⟨Ne.symm nqp, (put_ne (Ne.symm nqp)).trans put_same⟩
          · rintro M8 ⟨su8, ps, lps, eps, hps⟩
            rw [rg1_len] at lps
            obtain ⟨y0, y1, y2, rfl⟩ : ∃ y0 y1 y2, ps = [y0, y1, y2] := by
              match ps, lps with
              | [y0, y1, y2], _ => exact ⟨y0, y1, y2, rfl⟩
            refine ⟨⟨_, .ref p, _, _, _, rfl, ?_⟩, su27.trans su8⟩
            rw [etk, acc3_snoc, ea]
            exact ⟨p, y0, y1, y2, rfl, eps, (hps 0 y0 rfl).2, (hps 1 y1 rfl).2, (hps 2 y2 rfl).2⟩
  · rintro _ M2 ⟨⟨x5, pf, x9, x10, x11, rfl, hfo⟩, su2⟩
    rw [List.length_map, List.take_length] at hfo
    cases ea : acc3 d c b ts (dealt b.fails B N) with
    | none =>
      exfalso
      have hne : dealt b.fails B N ≠ [] := dealt_ne (by omega) b0 N
      obtain ⟨l', x, e⟩ : ∃ l' x, dealt b.fails B N = l' ++ [x] := ⟨_, _, (List.dropLast_concat_getLast hne).symm⟩
      rw [e, acc3_snoc] at ea
      cases ea
    | some g =>
      rw [ea] at hfo
      obtain ⟨a, p0, p1, p2, epf, f0, f1, f2, f3⟩ := hfo
      subst epf
      refine wss_one (ws_ret ?_)
      refine we_callT cd_tuple (C.fr 75) ?_
      refine wa_cons ?_
      refine we_lcG (own := [("row", 5)]) rfl sc.nd (blkOk_by (own := [("row", 5)]) (N := ["design", "bounds", "caller", "ticks", "budget", "row", "one", "many", "found", "line", "tick", "rows", "k", "j"]) (sc := defScope (Hd.topS 37)) (by decide +kernel)) rfl gt_name (fun _ _ _ _ _ => pg_name (i := 5) sc.nd rfl (Or.inl rfl)) ?_
      refine wi_lst ?_
      refine we_var 8 rfl ?_
      refine ⟨a, _, rfl, f0, fun q hq => ?_⟩
      refine lcj_ix (fun k => .tup ((g k).map D.int)) hq (by simp) (fun M' su => su _ _ f0) (fun _ _ => trivial) ?_ ?_
      · intro j dd hdd l M3 su3 hq3 s H Ca cl fp
        have hj3 : j < 3 := by have := (List.getElem?_eq_some_iff.mp hdd).1; simpa using this
        obtain ⟨pa, rfl, a2⟩ : ∃ pa, dd = D.ref pa ∧ M2 pa = some (.lst ((g j).map D.int)) := by
          match j, hj3 with
          | 0, _ => cases hdd; exact ⟨_, rfl, f1⟩
          | 1, _ => cases hdd; exact ⟨_, rfl, f2⟩
          | 2, _ => cases hdd; exact ⟨_, rfl, f3⟩
        refine we_callT cd_tuple (C.fr 75) ?_
        refine wa_cons ?_
        refine we_var 5 rfl ?_
        refine wa_nil ?_
        refine c_tupL (su3 _ _ a2) ?_
        exact ⟨rfl, Sub.refl _⟩
      · intro M3 su3 hq3
        refine wa_nil ?_
        refine c_tupL hq3 ?_
        exact ⟨_, Sub.refl _, kk M3 g (su1.trans (su2.trans su3)) ea⟩
end
end K81

set_option Elab.async false
set_option linter.all false
set_option maxRecDepth 100000
set_option maxHeartbeats 4000000
namespace K81
open PySem PySem.Spec PyProof.Rows L2 DL
section
variable {P : Program} {w : World} {K : PySem.W.Frag} {mg : Str → Option Value} {base : Heap}
def stI (d : Des) (c : Cal) (b : Bnd) (n : Nat) (first start : Int) (row : List Int) (k : Nat) : Int := (runC (opsI c b (Fr_ c first n row)) d.round c first (List.replicate (k + 1) start)).heard.getLast?.getD 0 - start
def stIs (d : Des) (c : Cal) (b : Bnd) (n : Nat) (first start : Int) (row : List Int) : List Int := (List.range n).map (stI d c b n first start row)
def lsR (d : Des) (c : Cal) (b : Bnd) (n : Nat) (first start : Int) (acc : List Int) (rows : List (List Int)) : List Int := rows.foldl (fun acc row => mxs acc (stIs d c b n first start row)) acc
def lsF (d : Des) (c : Cal) (b : Bnd) (n : Nat) (rows : List (List Int)) (start : Int) (acc : List Int) (fs : List Nat) : List Int := fs.foldl (fun acc (f : Nat) => lsR d c b n (f : Int) start acc rows) acc
def lsS (d : Des) (c : Cal) (b : Bnd) (n : Nat) (rows : List (List Int)) (fs : List Nat) (ss : List Nat) : List Int := ss.foldl (fun acc (s : Nat) => lsF d c b n rows (s : Int) acc fs) (List.replicate n 0)
theorem lsR_len {d : Des} {c : Cal} {b : Bnd} {n : Nat} {first start : Int} : ∀ (rows : List (List Int)) (acc : List Int), acc.length = n → (lsR d c b n first start acc rows).length = n
  | [], acc, h => h
  | r :: rows, acc, h => lsR_len rows _ (by unfold mxs stIs; rw [List.length_zipWith, List.length_map, List.length_range]; omega)
theorem lsF_len {d : Des} {c : Cal} {b : Bnd} {n : Nat} {rows : List (List Int)} {start : Int} : ∀ (fs : List Nat) (acc : List Int), acc.length = n → (lsF d c b n rows start acc fs).length = n
  | [], acc, h => h
  | f :: fs, acc, h => lsF_len fs _ (lsR_len rows acc h)
theorem lsS_len {d : Des} {c : Cal} {b : Bnd} {n : Nat} {rows : List (List Int)} {fs : List Nat} : ∀ (ss : List Nat) (acc : List Int), acc.length = n → (ss.foldl (fun acc (s : Nat) => lsF d c b n rows (s : Int) acc fs) acc).length = n
  | [], acc, h => h
  | s :: ss, acc, h => lsS_len ss _ (lsF_len fs acc h)
def lawStair (d : Des) (c : Cal) (b : Bnd) (n : Nat) (B : Int) : List Int := lsS d c b n (dealt b.fails B ((n : Int) * (c.p0 + c.p1)).toNat) (List.range (lcmL (lanesOf c))) (List.range (spanOf d c))
def sp_law_stair : DSp := fun ds M P R => ∃ (d : Des) (c : Cal) (bs : List Bnd) (b : Bnd) (k n : Nat) (B : Int), ds = [dDes d, dBnds bs, .int k, .int n, .int B] ∧ d.cals[k]? = some c ∧ bs[k]? = some b ∧ c.Ok ∧ d.Ok ∧ b.In 2 ∧ 0 ≤ B ∧ B ≤ 1000 ∧ n ≤ 12 ∧ (n : Int) * (c.p0 + c.p1) ≤ 12 ∧ d.round ≤ 30 ∧ (∀ s, (c.way s).wheel ≤ 30 ∧ (c.way s).slots.length ≤ 30) ∧
  ∀ M', Sub M M' → P (.tup ((lawStair d c b n B).map D.int)) M'
theorem sc_law_stair : FnScope ["design", "bounds", "caller", "many", "budget", "one", "start", "tree", "found", "first", "row", "k", "line", "heard"] ["design", "bounds", "caller", "many", "budget"] (defScope (Hd.topS 38)) := ⟨rfl, rfl, rfl, by decide +kernel, rfl, by decide +kernel, by decide +kernel⟩
theorem zeros_map (n : Nat) : (rg1 (n : Nat)).map (fun _ => D.int 0) = (List.replicate n (0 : Int)).map D.int := by
  rw [rg1_map, List.map_map, List.map_map]
  refine List.ext_getElem? fun i => ?_
  rw [List.getElem?_map, List.getElem?_map]
  by_cases hi : i < n
  · rw [List.getElem?_range hi, List.getElem?_replicate, if_pos hi]
    rfl
  · rw [List.getElem?_eq_none (by rw [List.length_range]; omega), List.getElem?_replicate, if_neg hi]
    rfl
theorem ok_law_stair (C : Ct K mg base) : DefOk P w K mg base CX0 4 "_law_stair_within" ["design", "bounds", "caller", "many", "budget"] sp_law_stair := by
  refine C.df 33 33 (d := Hd.d_law_stair_within) rfl rfl rfl (fun _ _ _ _ _ _ us hl => match us, hl with | [_, _, _, _, _], _ => rfl) fun f fd Fd => fn_ok Fd sc_law_stair (by rintro _ _ _ _ ⟨_, _, _, _, _, _, _, rfl, _⟩; rfl) ?_
  intro cdv Ar outer s H E ds M Q R hr ⟨d, c, bs, b, k, n, B, eds, h1, h2, hc, hd, hb, b0, b1, hn, hpl, hrd, hwl, kk⟩
  subst eds
  have sc := sc_law_stair
  have hp0 := hc.p false
  have hp1 := hc.p true
  have e0 : c.per false = c.p0 := rfl
  have e1 : c.per true = c.p1 := rfl
  rw [e0] at hp0
  rw [e1] at hp1
  have hbn := hb.nn
  have hbf0 := hb.f0
  have hbf1 := hb.f1
  have hnn : 0 ≤ (n : Int) * (c.p0 + c.p1) := Int.mul_nonneg (by omega) (by omega)
  refine wss_cons ?_
  refine ws_asg ?_
  refine we_tup ?_
  refine wa_cons ?_
  refine we_tup ?_
  refine wa_cons ?_
  refine we_var 0 rfl ?_
  refine wa_cons ?_
  refine we_var 1 rfl ?_
  refine wa_cons ?_
  refine we_var 2 rfl ?_
  refine wa_cons ?_
  refine we_tup ?_
  refine wa_nil ?_
  refine ⟨size_ok (by simp), ?_⟩
  refine wa_nil ?_
  refine ⟨size_ok (by simp), ?_⟩
  refine wa_cons ?_
  refine we_lcG (own := [("k", 11)]) rfl sc.nd (blkOk_by (own := [("k", 11)]) (N := ["design", "bounds", "caller", "many", "budget", "one", "start", "tree", "found", "first", "row", "k", "line", "heard"]) (sc := defScope (Hd.topS 38)) (by decide +kernel)) rfl gt_name (fun _ _ _ _ _ => pg_name (i := 11) sc.nd rfl (Or.inl rfl)) ?_
  refine wi_range1 (C.fr 71) ?_
  refine we_var 3 rfl ?_
  refine ⟨_, rfl, by omega, by omega, fun pz hpz => ?_⟩
  refine lcj_map (fun _ => D.int 0) (by rw [rg1_len]; omega) (fun _ => trivial) (fun _ _ => trivial) ?_ ?_
  · intro x dd hdd l s H Ca cl fp
    refine we_int ?_
    exact ⟨rfl, rfl⟩
  rw [zeros_map]
  refine wa_nil ?_
  refine ⟨size_ok (by simp), ?_⟩
  refine wg_tup rfl rfl ?_
  refine wgs_cons ?_
  refine wg_name 7 sc.nd ?_
  refine wgs_cons ?_
  refine wg_name 8 sc.nd ?_
  refine wgs_nil ?_
  refine wss_cons ?_
  refine ws_set 5 sc.nd ?_
  refine we_sub ?_
  refine we_sub ?_
  refine we_var 0 rfl ?_
  refine we_int ?_
  refine i_tup rfl ?_
  refine we_var 2 rfl ?_
  refine i_tup (atI_nat (map_at h1)) ?_
  generalize hN : ((n : Int) * (c.p0 + c.p1)).toNat = N at *
  have hNI : (N : Int) = n * (c.p0 + c.p1) := by omega
  have hwf := hwl false
  have hwt := hwl true
  have ew0 : c.way false = c.w0 := rfl
  have ew1 : c.way true = c.w1 := rfl
  have o0 := hc.w false
  have o1 := hc.w true
  rw [ew0] at hwf o0
  rw [ew1] at hwt o1
  have hr0 := hd.r0
  have oa := o0.w0
  have ob := o1.w0
  have oc := o0.s0
  have od := o1.s0
  have hlW : ∀ m ∈ [d.round.toNat, c.w0.wheel.toNat, c.w1.wheel.toNat], 0 < m ∧ m ≤ 30 := by
    intro m hm
    simp only [List.mem_cons, List.not_mem_nil, or_false] at hm
    rcases hm with rfl | rfl | rfl <;> omega
  have hlL : ∀ m ∈ lanesOf c, 0 < m ∧ m ≤ 30 := by
    intro m hm
    simp only [lanesOf, List.mem_cons, List.not_mem_nil, or_false] at hm
    rcases hm with rfl | rfl <;> omega
  have hspan : spanOf d c ≤ 1000000 := by
    unfold spanOf lcmL
    exact Nat.le_trans (lcmL_le _ 1 1 30 (Nat.le_refl _) fun m hm => (hlW m hm).2) (show 1 * 30 ^ 3 ≤ 1000000 by decide)
  have hlane : lcmL (lanesOf c) ≤ 1000000 := by
    unfold lcmL
    exact Nat.le_trans (lcmL_le _ 1 1 30 (Nat.le_refl _) fun m hm => (hlL m hm).2) (show 1 * 30 ^ 2 ≤ 1000000 by decide)
  have eW : [D.int d.round, D.int c.w0.wheel, D.int c.w1.wheel] = [d.round.toNat, c.w0.wheel.toNat, c.w1.wheel.toNat].map fun m => D.int (m : Nat) := by
    have x1 : d.round = (d.round.toNat : Int) := by omega
    have x2 : c.w0.wheel = (c.w0.wheel.toNat : Int) := by omega
    have x3 : c.w1.wheel = (c.w1.wheel.toNat : Int) := by omega
    show _ = [D.int (d.round.toNat : Int), D.int (c.w0.wheel.toNat : Int), D.int (c.w1.wheel.toNat : Int)]
    rw [← x1, ← x2, ← x3]
  refine wss_cons ?_
  refine ws_for PassesOwn.never rfl ?_
  refine wi_range1 (C.fr 71) ?_
  refine we_call (ok_law_lcm C) hr ?_
  refine wa_cons ?_
  refine we_call (ok_law_wheels C) hr ?_
  refine wa_cons ?_
  refine we_var 7 rfl ?_
  refine wa_nil ?_
  refine ⟨d, bs, k, c, rfl, h1, fun pw hpw => ?_⟩
  refine wa_nil ?_
  refine ⟨pw, [d.round.toNat, c.w0.wheel.toNat, c.w1.wheel.toNat], rfl, by rw [put_same, eW], hlW, by simp, ?_⟩
  refine ⟨_, rfl, by omega, by have : lcmL [d.round.toNat, c.w0.wheel.toNat, c.w1.wheel.toNat] ≤ 1000000 := hspan; omega, ?_⟩
  have suA : Sub M (put (put M pz (.lst ((List.replicate n (0 : Int)).map D.int))) pw (.lst [D.int d.round, D.int c.w0.wheel, D.int c.w1.wheel])) := (Sub.put hpz).trans (Sub.put hpw)
  have ezA : (put (put M pz (.lst ((List.replicate n (0 : Int)).map D.int))) pw (.lst [D.int d.round, D.int c.w0.wheel, D.int c.w1.wheel])) pz = some (.lst ((List.replicate n (0 : Int)).map D.int)) := (put_ne (nn put_same hpw)).trans put_same
  generalize put (put M pz (.lst ((List.replicate n (0 : Int)).map D.int))) pw (.lst [D.int d.round, D.int c.w0.wheel, D.int c.w1.wheel]) = MA at suA ezA ⊢
  refine ⟨fun i (Γ' : Sl) (M' : Mem) => (∃ x6 pf x9 x10 x12 x13, Γ' = [some (dDes d), some (dBnds bs), some (D.int (k : Nat)), some (D.int (n : Nat)), some (D.int B), some (dCal c), x6, some (dTree d bs k), some (D.ref pf), x9, x10, none, x12, x13] ∧ M' pf = some (.lst ((lsS d c b n (dealt b.fails B N) (List.range (lcmL (lanesOf c))) (List.range i)).map D.int))) ∧ Sub M M', ⟨⟨none, pz, none, none, none, none, rfl, ezA⟩, suA⟩, fun _ _ _ _ _ => trivial, ?_, ?_⟩
  · rintro st dd _ M1 hdd ⟨⟨x6, pf, x9, x10, x12, x13, rfl, ef1⟩, su1⟩
    obtain ⟨hst, rfl⟩ := rg1_at hdd
    have lacc1 : (lsS d c b n (dealt b.fails B N) (List.range (lcmL (lanesOf c))) (List.range st)).length = n := lsS_len _ _ (List.length_replicate)
    generalize hacc1 : lsS d c b n (dealt b.fails B N) (List.range (lcmL (lanesOf c))) (List.range st) = acc1 at ef1 lacc1
    refine wg_name 6 sc.nd ?_
    refine wss_one ?_
    refine ws_for PassesOwn.never rfl ?_
    refine wi_range1 (C.fr 71) ?_
    refine we_call (ok_law_lcm C) hr ?_
    refine wa_cons ?_
    refine we_call (ok_law_lanes C) hr ?_
    refine wa_cons ?_
    refine we_var 7 rfl ?_
    refine wa_nil ?_
    refine ⟨d, bs, k, c, rfl, h1, fun pl hpl => ?_⟩
    refine wa_nil ?_
    refine ⟨pl, lanesOf c, rfl, put_same, hlL, by simp [lanesOf], ?_⟩
    refine ⟨_, rfl, by omega, by omega, ?_⟩
    have suB : Sub M1 (put M1 pl (.lst [.int (c.w0.slots.length : Nat), .int (c.w1.slots.length : Nat)])) := Sub.put hpl
    generalize put M1 pl (.lst [.int (c.w0.slots.length : Nat), .int (c.w1.slots.length : Nat)]) = MB at suB ⊢
    refine ⟨fun i (Γ' : Sl) (M' : Mem) => (∃ pf x9 x10 x12 x13, Γ' = [some (dDes d), some (dBnds bs), some (D.int (k : Nat)), some (D.int (n : Nat)), some (D.int B), some (dCal c), some (D.int (st : Nat)), some (dTree d bs k), some (D.ref pf), x9, x10, none, x12, x13] ∧ M' pf = some (.lst ((lsF d c b n (dealt b.fails B N) (st : Nat) acc1 (List.range i)).map D.int))) ∧ Sub M M', ⟨⟨pf, _, _, _, _, rfl, suB _ _ ef1⟩, su1.trans suB⟩, fun _ _ _ _ _ => trivial, ?_, ?_⟩
    · rintro fi dd _ M2 hdd ⟨⟨pf, x9, x10, x12, x13, rfl, ef2⟩, su2⟩
      obtain ⟨hfi, rfl⟩ := rg1_at hdd
      have lacc2 : (lsF d c b n (dealt b.fails B N) (st : Nat) acc1 (List.range fi)).length = n := lsF_len _ _ lacc1
      generalize hacc2 : lsF d c b n (dealt b.fails B N) (st : Nat) acc1 (List.range fi) = acc2 at ef2 lacc2
      refine wg_name 9 sc.nd ?_
      refine wss_one ?_
      refine ws_for PassesOwn.never rfl ?_
      refine wi_lst ?_
      refine we_call (ok_law_dealt C) hr ?_
      refine wa_cons ?_
      refine we_bin od_mul ?_
      refine we_var 3 rfl ?_
      refine we_bin od_add ?_
      refine we_sub ?_
      refine we_var 5 rfl ?_
      refine we_int ?_
      refine i_tup rfl ?_
      refine we_sub ?_
      refine we_var 5 rfl ?_
      refine we_int ?_
      refine i_tup rfl ?_
      refine b_addI ?_
      refine b_mul (.inl ⟨by omega, by omega⟩) ?_
      refine wa_cons ?_
      refine we_sub ?_
      refine we_sub ?_
      refine we_var 1 rfl ?_
      refine we_var 2 rfl ?_
      refine i_tup (atI_nat (map_at h2)) ?_
      refine we_int ?_
      refine i_tup rfl ?_
      refine wa_cons ?_
      refine we_var 4 rfl ?_
      refine wa_nil ?_
      refine ⟨N, b.fails, B, ?_, by omega, by omega, by omega, b0, b1, fun qd M3 su3 ed3 => ?_⟩
      · show [D.int ((n : Int) * (c.p0 + c.p1)), D.int b.fails, D.int B] = [D.int (N : Int), D.int b.fails, D.int B]
        rw [hNI]
      refine ⟨qd, _, rfl, ed3, ?_⟩
      refine ⟨fun i (Γ' : Sl) (M' : Mem) => (∃ pf x10 x12 x13, Γ' = [some (dDes d), some (dBnds bs), some (D.int (k : Nat)), some (D.int (n : Nat)), some (D.int B), some (dCal c), some (D.int (st : Nat)), some (dTree d bs k), some (D.ref pf), some (D.int (fi : Nat)), x10, none, x12, x13] ∧ M' pf = some (.lst ((lsR d c b n (fi : Nat) (st : Nat) acc2 ((dealt b.fails B N).take i)).map D.int))) ∧ Sub M M' ∧ Sub M3 M', ⟨⟨pf, _, _, _, rfl, su3 _ _ ef2⟩, su2.trans su3, Sub.refl _⟩, fun i Γ' M' _ h => h.2.2 _ _ ed3, ?_, ?_⟩
      · rintro i dd _ M4 hdd ⟨⟨pf, x10, x12, x13, rfl, ef4⟩, su4, su34⟩
        rw [List.getElem?_map] at hdd
        cases er : (dealt b.fails B N)[i]? with
        | none => rw [er] at hdd; cases hdd
        | some row =>
          rw [er] at hdd
          cases hdd
          have etk : (dealt b.fails B N).take (i + 1) = (dealt b.fails B N).take i ++ [row] := by rw [List.take_add_one, er]; rfl
          have lacc3 : (lsR d c b n (fi : Nat) (st : Nat) acc2 ((dealt b.fails B N).take i)).length = n := lsR_len _ _ lacc2
          have enext : lsR d c b n (fi : Nat) (st : Nat) acc2 ((dealt b.fails B N).take (i + 1)) = mxs (lsR d c b n (fi : Nat) (st : Nat) acc2 ((dealt b.fails B N).take i)) (stIs d c b n (fi : Nat) (st : Nat) row) := by
            rw [etk]
            unfold lsR
            rw [List.foldl_append]
            rfl
          generalize hacc3 : lsR d c b n (fi : Nat) (st : Nat) acc2 ((dealt b.fails B N).take i) = acc3 at ef4 lacc3 enext
          have hmem := List.mem_of_getElem? er
          have hrl := dealt_row N row hmem
          have hrm := dealt_mem b0 N row hmem
          have hr0 : ∀ x ∈ row, 0 ≤ x := fun x hx => (hrm.1 x hx).1
          refine wg_name 10 sc.nd ?_
          refine wss_cons ?_
          refine ws_set 12 sc.nd ?_
          refine we_call (ok_law_line C) hr ?_
          refine wa_cons ?_
          refine we_var 0 rfl ?_
          refine wa_cons ?_
          refine we_var 1 rfl ?_
          refine wa_cons ?_
          refine we_var 2 rfl ?_
          refine wa_cons ?_
          refine we_str ?_
          refine wa_cons ?_
          refine we_var 9 rfl ?_
          refine wa_nil ?_
          refine ⟨d, c, bs, b, k, some_, _, rfl, h1, h2, .inr rfl, fun A M5 hA su5 hL => ?_⟩
          refine wss_cons ?_
          refine ws_asg ?_
          refine we_call (ok_law_fails C) hr ?_
          refine wa_cons ?_
          refine we_dget (hu_of hr) ?_
          refine we_var 12 rfl ?_
          refine we_str ?_
          refine ⟨_, _, rfl, .inl ⟨_, .inr "per", hL.o, rfl, rfl⟩, ?_⟩
          refine wa_cons ?_
          refine we_var 9 rfl ?_
          refine wa_cons ?_
          refine we_var 3 rfl ?_
          refine wa_cons ?_
          refine we_var 10 rfl ?_
          refine wa_nil ?_
          refine ⟨c, _, n, row, rfl, hc, by omega, by rw [hrl]; exact hNI, by omega, by omega, by omega, fun q M6 fk hq su6 eq6 hT => ?_⟩
          refine wg_dsub (hu_of hr) ?_
          refine we_var 12 rfl ?_
          refine we_str ?_
          refine ⟨_, _, rfl, .inl ⟨_, .inr "fates", su6 _ _ hL.o, rfl, kvl (Nat.le_of_ble_eq_true rfl), rfl⟩, ?_⟩
          have hL7 := hL.fates hq su6 eq6 hT
          show WSs _ _ _ (put M6 (A 0) (.dK (lineKvs (Aq A q) d c b some_ (fi : Nat) (cst0 : Cst Int).begun.length ((cst0 : Cst Int).done.getLast?.getD 0)))) _
          have su7 : Sub M4 (put M6 (A 0) (.dK (lineKvs (Aq A q) d c b some_ (fi : Nat) (cst0 : Cst Int).begun.length ((cst0 : Cst Int).done.getLast?.getD 0)))) := fun x u e => (put_ne (nn e (hA 0 (by decide)))).trans (su6 _ _ (su5 _ _ e))
          generalize put M6 (A 0) (.dK (lineKvs (Aq A q) d c b some_ (fi : Nat) (cst0 : Cst Int).begun.length ((cst0 : Cst Int).done.getLast?.getD 0))) = M7 at hL7 su7 ⊢
          have hAq : ∀ j, j < 15 → M4 (Aq A q j) = none := fun j hj => by rw [Aq_lt hj]; exact hA j (by omega)
          refine wss_cons ?_
          refine ws_set 13 sc.nd ?_
          refine we_lcG (own := [("k", 11)]) rfl sc.nd (blkOk_by (own := [("k", 11)]) (N := ["design", "bounds", "caller", "many", "budget", "one", "start", "tree", "found", "first", "row", "k", "line", "heard"]) (sc := defScope (Hd.topS 38)) (by decide +kernel)) rfl gt_name (fun _ _ _ _ _ => pg_name (i := 11) sc.nd rfl (Or.inl rfl)) ?_
          refine wi_range1 (C.fr 71) ?_
          refine we_var 3 rfl ?_
          refine ⟨_, rfl, by omega, by omega, fun ph hph => ?_⟩
          have hdA : ∀ j, j < 15 → M7 (Aq A q j) ≠ none := by
            intro j hj
            have h := hL7
            match j, hj with
            | 0, _ => rw [h.o]; exact fun z => by cases z
            | 1, _ => rw [h.t]; exact fun z => by cases z
            | 2, _ => rw [h.t0]; exact fun z => by cases z
            | 3, _ => rw [h.t1]; exact fun z => by cases z
            | 4, _ => rw [h.u]; exact fun z => by cases z
            | 5, _ => rw [h.u0]; exact fun z => by cases z
            | 6, _ => rw [h.u1]; exact fun z => by cases z
            | 7, _ => rw [h.r]; exact fun z => by cases z
            | 8, _ => rw [h.e]; exact fun z => by cases z
            | 9, _ => obtain ⟨_, x, _⟩ := h.e0; rw [x]; exact fun z => by cases z
            | 10, _ => obtain ⟨_, x, _⟩ := h.e1; rw [x]; exact fun z => by cases z
            | 11, _ => rw [h.bg]; exact fun z => by cases z
            | 12, _ => rw [h.dn]; exact fun z => by cases z
            | 13, _ => rw [h.h]; exact fun z => by cases z
            | 14, _ => rw [h.z]; exact fun z => by cases z
          have hphA : ∀ j, j < 15 → ph ≠ Aq A q j := fun j hj z => hdA j hj (z ▸ hph)
          have hph15 : ph ≠ Aq A q 15 := fun z => by
            obtain ⟨fk', x, _⟩ := hL7.fk
            rw [← z, hph] at x
            cases x
          have hph4 : M4 ph = none := by
            cases e : M4 ph with
            | none => rfl
            | some u => rw [su7 ph u e] at hph; cases hph
          have linePut : ∀ {M0 : Mem} {S : Cst Int} {m : MO}, LineAt M0 (Aq A q) d c b some_ (fi : Nat) (Fr_ c (fi : Nat) n row) S → LineAt (put M0 ph m) (Aq A q) d c b some_ (fi : Nat) (Fr_ c (fi : Nat) n row) S := fun {M0 S m} h => by
            have p : ∀ {i : Nat} {u : MO}, i < 15 → M0 (Aq A q i) = some u → put M0 ph m (Aq A q i) = some u := fun {i u} h1 h2 => (put_ne (Ne.symm (hphA i h1))).trans h2
            exact { o := p (by decide) h.o, t := p (by decide) h.t, t0 := p (by decide) h.t0, t1 := p (by decide) h.t1, u := p (by decide) h.u, u0 := p (by decide) h.u0, u1 := p (by decide) h.u1, r := p (by decide) h.r, e := p (by decide) h.e, e0 := (let ⟨l, h1, h2⟩ := h.e0; ⟨l, p (by decide) h1, h2⟩), e1 := (let ⟨l, h1, h2⟩ := h.e1; ⟨l, p (by decide) h1, h2⟩), bg := p (by decide) h.bg, dn := p (by decide) h.dn, h := p (by decide) h.h, z := p (by decide) h.z, fk := (let ⟨k, h1, h2⟩ := h.fk; ⟨k, (put_ne (Ne.symm hph15)).trans h1, h2⟩), inj := h.inj, lb := h.lb }
          refine ⟨fun _ _ => trivial, fun j M' => Sub M4 M' ∧ M' ph = some (.lst (((List.range j).map (stI d c b n (fi : Nat) (st : Nat) row)).map D.int)) ∧ LineAt M' (Aq A q) d c b some_ (fi : Nat) (Fr_ c (fi : Nat) n row) (runC (opsI c b (Fr_ c (fi : Nat) n row)) d.round c (fi : Nat) (List.replicate j (st : Int))), ⟨su7.trans (Sub.put hph), put_same, linePut hL7⟩, fun _ _ _ _ => trivial, ?_, ?_⟩
          · rintro j dd M8 hdd ⟨su8, eh8, hL8⟩ s H Ca cl fp
            obtain ⟨hj, rfl⟩ := rg1_at hdd
            have hl := runC_len (o := opsI c b (Fr_ c (fi : Nat) n row)) (round := d.round) (c := c) (ahead := (fi : Nat)) (List.replicate j (st : Int))
            rw [List.length_replicate] at hl
            refine we_bin od_sub ?_
            refine we_call (ok_law_call C) hr ?_
            refine wa_cons ?_
            refine we_var 12 rfl ?_
            refine wa_cons ?_
            refine we_var 6 rfl ?_
            refine wa_nil ?_
            refine ⟨Aq A q, d, c, b, some_, _, _, _, (st : Int), rfl, hL8, hc, hd, hbn, by omega, Fr_nn hr0, by omega, by omega, by omega, fun s => ?_, fun M9 f9 hL9 => ?_⟩
            · rw [hl.2.2.2 s]
              have h9 := hc.p s
              have := Nat.mul_le_mul (show j ≤ 12 by omega) (show (c.per s).toNat ≤ 1000 by omega)
              omega
            refine we_var 6 rfl ?_
            refine b_sub ?_
            have erp : List.replicate j (st : Int) ++ [(st : Int)] = List.replicate (j + 1) (st : Int) := by rw [List.replicate_succ']
            rw [← runC_snoc, erp] at hL9
            have ev : lastR (wC1 (opsI c b (Fr_ c (fi : Nat) n row)) c (fi : Nat) (runC (opsI c b (Fr_ c (fi : Nat) n row)) d.round c (fi : Nat) (List.replicate j (st : Int))) (dnOf (opsI c b (Fr_ c (fi : Nat) n row)) d.round c (fi : Nat) (runC (opsI c b (Fr_ c (fi : Nat) n row)) d.round c (fi : Nat) (List.replicate j (st : Int))) (st : Int))) (st : Int) - (st : Int) = stI d c b n (fi : Nat) (st : Nat) row j := by
              unfold stI
              rw [← erp, runC_snoc]
              simp [putC]
            rw [ev]
            have eh9 := f9 ph _ hphA eh8
            refine ⟨_, eh9, by rw [sizeLine_eq, List.length_map, List.length_map, List.length_range]; omega, fun x u e => (put_ne (nn e hph4)).trans (f9 x u (fun i' hi' z => by rw [z, hAq i' hi'] at e; cases e) (su8 x u e)), ?_, linePut hL9⟩
            rw [put_same, List.range_succ, List.map_append, List.map_append]
            rfl
          rintro M8 ⟨su8, eh8, hL8⟩
          rw [rg1_len, Int.toNat_natCast] at eh8
          have ef8 := su8 _ _ ef4
          have lst : (stIs d c b n (fi : Nat) (st : Nat) row).length = n := by unfold stIs; rw [List.length_map, List.length_range]
          change M8 ph = some (.lst ((stIs d c b n (fi : Nat) (st : Nat) row).map D.int)) at eh8
          refine wss_one ?_
          refine ws_set 8 sc.nd ?_
          refine we_lcG (own := [("k", 11)]) rfl sc.nd (blkOk_by (own := [("k", 11)]) (N := ["design", "bounds", "caller", "many", "budget", "one", "start", "tree", "found", "first", "row", "k", "line", "heard"]) (sc := defScope (Hd.topS 38)) (by decide +kernel)) rfl gt_name (fun _ _ _ _ _ => pg_name (i := 11) sc.nd rfl (Or.inl rfl)) ?_
          refine wi_range1 (C.fr 71) ?_
          refine we_var 3 rfl ?_
          refine ⟨_, rfl, by omega, by omega, fun pg hpg => ?_⟩
          refine lcj_map (mxf acc3 (stIs d c b n (fi : Nat) (st : Nat) row)) (by rw [rg1_len]; omega) (fun _ => trivial) (fun _ _ => trivial) ?_ ?_
          · intro x dd hdd l s H Ca cl fp
            obtain ⟨hx, rfl⟩ := rg1_at hdd
            refine we_callB (cd_max rfl) (C.fr 69) ?_
            refine wa_cons ?_
            refine we_sub ?_
            refine we_var 8 rfl ?_
            refine we_var 11 rfl ?_
            refine i_lst ((put_ne (nn ef8 hpg)).trans ef8) (atI_nat (map_at (getD_at (d := (0 : Int)) (show x < acc3.length by omega)))) ?_
            refine wa_cons ?_
            refine we_sub ?_
            refine we_var 13 rfl ?_
            refine we_var 11 rfl ?_
            refine i_lst ((put_ne (nn eh8 hpg)).trans eh8) (atI_nat (map_at (getD_at (d := (0 : Int)) (show x < (stIs d c b n (fi : Nat) (st : Nat) row).length by omega)))) ?_
            refine wa_nil ?_
            refine c_max ?_
            refine ⟨?_, rfl⟩
            simp only [mxf, Int.toNat_natCast]
          rw [zip_map_ix lacc3 lst]
          refine ⟨⟨pg, _, _, _, rfl, ?_⟩, (su4.trans su8).trans (Sub.put hpg), (su34.trans su8).trans (Sub.put hpg)⟩
          rw [put_same, enext]
          rfl
      · rintro _ M4 ⟨⟨pf, x10, x12, x13, rfl, ef4⟩, su4, su34⟩
        rw [List.length_map, List.take_length] at ef4
        refine ⟨⟨pf, _, _, _, _, rfl, ?_⟩, su4⟩
        rw [ef4, ← hacc2]
        congr 3
        unfold lsF
        rw [List.range_succ, List.foldl_append]
        rfl
    · rintro _ M2 ⟨⟨pf, x9, x10, x12, x13, rfl, ef2⟩, su2⟩
      rw [rg1_len, Int.toNat_natCast] at ef2
      refine ⟨⟨_, pf, _, _, _, _, rfl, ?_⟩, su2⟩
      rw [ef2, ← hacc1]
      congr 3
      unfold lsS
      rw [List.range_succ, List.foldl_append]
      rfl
  · rintro _ M1 ⟨⟨x6, pf, x9, x10, x12, x13, rfl, ef1⟩, su1⟩
    rw [rg1_len, Int.toNat_natCast] at ef1
    refine wss_one (ws_ret ?_)
    refine we_callT cd_tuple (C.fr 75) ?_
    refine wa_cons ?_
    refine we_var 8 rfl ?_
    refine wa_nil ?_
    refine c_tupL ef1 ?_
    refine ⟨_, Sub.refl _, ?_⟩
    have h := kk M1 su1
    unfold lawStair at h
    rw [hN] at h
    exact h
end
end K81

set_option Elab.async false
set_option linter.all false
set_option maxRecDepth 100000
set_option maxHeartbeats 4000000
/-! Ma: the plain law, first part: a list by budget is the best over the deals. -/
namespace K81
open PySem PySem.Spec PyProof.Rows L2 DL
/-! ### a deal: r i of the letter i's tries fail -/
def sumN (r : Nat → Int) : Nat → Int
  | 0 => 0
  | n + 1 => sumN r n + r n
def upd1 (r : Nat → Int) (i : Nat) (v : Int) : Nat → Int := fun j => if j = i then v else r j
theorem sumN_congr {r r' : Nat → Int} : ∀ n, (∀ i, i < n → r i = r' i) → sumN r n = sumN r' n
  | 0, _ => rfl
  | n + 1, h => by rw [sumN, sumN, sumN_congr n fun i hi => h i (by omega), h n (by omega)]
theorem sumN_upd (r : Nat → Int) (i : Nat) (v : Int) : ∀ n, sumN (upd1 r i v) n = if i < n then sumN r n - r i + v else sumN r n
  | 0 => by rw [if_neg (by omega)]; rfl
  | n + 1 => by
    rw [sumN, sumN, sumN_upd r i v n]
    by_cases h : i < n
    · rw [if_pos h, if_pos (by omega)]
      have : upd1 r i v n = r n := if_neg (by omega)
      rw [this]; omega
    · by_cases h2 : n = i
      · subst h2
        rw [if_neg (by omega), if_pos (by omega)]
        have : upd1 r n v n = v := if_pos rfl
        rw [this]; omega
      · rw [if_neg h, if_neg (by omega)]
        have : upd1 r i v n = r n := if_neg h2
        rw [this]
structure Val (f : Int) (r : Nat → Int) : Prop where
  b : ∀ i, 0 ≤ r i ∧ r i ≤ f
/-- X is the best by budget of x, which hangs on the letters in S alone -/
structure Best (f : Int) (N B : Nat) (S : Nat → Prop) (x : (Nat → Int) → Int) (X : List Int) : Prop where
  len : X.length = B + 1
  mono : ∀ r r', Val f r → Val f r' → (∀ i, S i → r i ≤ r' i) → x r ≤ x r'
  up : ∀ b, b ≤ B → ∀ r, Val f r → sumN r N ≤ b → x r ≤ X.getD b 0
  ex : ∀ b, b ≤ B → ∃ r, Val f r ∧ sumN r N ≤ b ∧ (∀ i, ¬ S i → r i = 0) ∧ x r = X.getD b 0
theorem sumN_nn {f : Int} {r : Nat → Int} (h : Val f r) : ∀ n, 0 ≤ sumN r n
  | 0 => Int.le_refl _
  | n + 1 => by
    have := sumN_nn h n
    have h2 := (h.b n).1
    rw [sumN]; omega
section
variable {f : Int} {N B : Nat} {S S' : Nat → Prop} {x y : (Nat → Int) → Int} {X Y : List Int}
theorem Best.sup (h : Best f N B S x X) (k : ∀ i, S i → S' i) : Best f N B S' x X :=
  ⟨h.len, fun r r' v v' q => h.mono r r' v v' fun i hi => q i (k i hi), h.up, fun b hb => let ⟨r, v, s, z, e⟩ := h.ex b hb; ⟨r, v, s, fun i hi => z i fun q => hi (k i q), e⟩⟩
theorem gr_at {X Y : List Int} {b : Nat} (h1 : b < X.length) (h2 : b < Y.length) : (gr X Y).getD b 0 = max (X.getD b 0) (Y.getD b 0) := by
  have e : (gr X Y)[b]? = some (max (X.getD b 0) (Y.getD b 0)) := by
    unfold gr
    rw [List.getElem?_zipWith, getD_at (d := 0) h1, getD_at (d := 0) h2]
  simp [List.getD, e]
theorem map_atD {X : List Int} {g : Int → Int} {b : Nat} (h1 : b < X.length) : (X.map g).getD b 0 = g (X.getD b 0) := by
  have e : (X.map g)[b]? = some (g (X.getD b 0)) := by rw [List.getElem?_map, getD_at (d := 0) h1]; rfl
  simp [List.getD, e]
theorem Best.mx (h : Best f N B S x X) (k : Best f N B S y Y) : Best f N B S (fun r => max (x r) (y r)) (gr X Y) := by
  have hl := h.len
  have kl := k.len
  refine ⟨by unfold gr; rw [List.length_zipWith]; omega, fun r r' v v' q => ?_, fun b hb r v s => ?_, fun b hb => ?_⟩
  · have := h.mono r r' v v' q
    have := k.mono r r' v v' q
    show max (x r) (y r) ≤ max (x r') (y r')
    omega
  · rw [gr_at (by omega) (by omega)]
    have := h.up b hb r v s
    have := k.up b hb r v s
    show max (x r) (y r) ≤ _
    omega
  · rw [gr_at (by omega) (by omega)]
    obtain ⟨r, v, s, z, e⟩ := h.ex b hb
    obtain ⟨r', v', s', z', e'⟩ := k.ex b hb
    have u1 := k.up b hb r v s
    have u2 := h.up b hb r' v' s'
    by_cases q : Y.getD b 0 ≤ X.getD b 0
    · refine ⟨r, v, s, z, ?_⟩
      show max (x r) (y r) = _
      omega
    · refine ⟨r', v', s', z', ?_⟩
      show max (x r') (y r') = _
      omega
theorem Best.map (h : Best f N B S x X) (g : Int → Int) (hg : ∀ a b, a ≤ b → g a ≤ g b) : Best f N B S (fun r => g (x r)) (X.map g) := by
  have hl := h.len
  refine ⟨by rw [List.length_map]; exact hl, fun r r' v v' q => hg _ _ (h.mono r r' v v' q), fun b hb r v s => ?_, fun b hb => ?_⟩
  · rw [map_atD (by omega)]
    exact hg _ _ (h.up b hb r v s)
  · rw [map_atD (by omega)]
    obtain ⟨r, v, s, z, e⟩ := h.ex b hb
    exact ⟨r, v, s, z, by show g (x r) = _; rw [e]⟩
theorem ns_mono {s wh : Int} (h : 0 < wh) (a b : Int) (hab : a ≤ b) : ns a s wh ≤ ns b s wh := by
  unfold ns
  have h1 := Int.emod_nonneg (s - a) (show wh ≠ 0 by omega)
  have h2 := Int.emod_lt_of_pos (s - a) h
  have h3 := Int.emod_nonneg (s - b) (show wh ≠ 0 by omega)
  have h4 := Int.emod_lt_of_pos (s - b) h
  have e1 := Int.emod_add_mul_ediv (s - a) wh
  have e2 := Int.emod_add_mul_ediv (s - b) wh
  have q : (s - b) / wh ≤ (s - a) / wh := Int.ediv_le_ediv h (by omega)
  have q2 : wh * ((s - b) / wh) ≤ wh * ((s - a) / wh) := Int.mul_le_mul_of_nonneg_left q (by omega)
  omega
theorem lfv_ge {X : List Int} {wh t : Int} : ∀ (k b m : Nat), m ≤ k → m ≤ b → X.getD (b - m) 0 + m * wh + t ≤ lfv X wh t k b
  | 0, b, m, h1, h2 => by
    have : m = 0 := by omega
    subst this
    rw [lfv, Nat.sub_zero]
    have : ((0 : Nat) : Int) * wh = 0 := Int.zero_mul wh
    omega
  | k + 1, b, m, h1, h2 => by
    rw [lfv]
    by_cases h : m = k + 1
    · subst h
      rw [if_pos h2]
      exact Int.le_max_right _ _
    · have ih := lfv_ge (X := X) (wh := wh) (t := t) k b m (by omega) h2
      split
      · exact Int.le_trans ih (Int.le_max_left _ _)
      · exact ih
theorem lfv_ex {X : List Int} {wh t : Int} : ∀ (k b : Nat), ∃ m, m ≤ k ∧ m ≤ b ∧ lfv X wh t k b = X.getD (b - m) 0 + m * wh + t
  | 0, b => ⟨0, Nat.le_refl _, Nat.zero_le _, by rw [lfv, Nat.sub_zero]; have : ((0 : Nat) : Int) * wh = 0 := Int.zero_mul wh; omega⟩
  | k + 1, b => by
    obtain ⟨m, h1, h2, e⟩ := lfv_ex (X := X) (wh := wh) (t := t) k b
    rw [lfv]
    split
    · rename_i h
      by_cases q : X.getD (b - (k + 1)) 0 + ((k + 1 : Nat) : Int) * wh + t ≤ lfv X wh t k b
      · exact ⟨m, by omega, h2, by rw [Int.max_eq_left q]; exact e⟩
      · exact ⟨k + 1, Nat.le_refl _, h, by rw [Int.max_eq_right (by omega)]⟩
    · exact ⟨m, by omega, h2, e⟩
theorem lf_at {X : List Int} {fl : Nat} {wh t : Int} {b : Nat} (h : b < X.length) : (lf X fl wh t).getD b 0 = lfv X wh t fl b := by
  have e : (lf X fl wh t)[b]? = some (lfv X wh t fl b) := by
    unfold lf
    rw [List.getElem?_map, List.getElem?_range h]
    rfl
  simp [List.getD, e]
/-- a letter is sent: it has no part in x as yet -/
theorem Best.come (h : Best f N B S x X) (hf : 0 ≤ f) {l : Nat} (hl : l < N) (hS : ¬ S l) (wh t : Int) (hw : 0 ≤ wh) : Best f N B (fun i => S i ∨ i = l) (fun r => x r + r l * wh + t) (lf X f.toNat wh t) := by
  have hlen := h.len
  refine ⟨by rw [lf_len]; exact hlen, fun r r' v v' q => ?_, fun b hb r v s => ?_, fun b hb => ?_⟩
  · have h1 := h.mono r r' v v' fun i hi => q i (.inl hi)
    have h2 := Int.mul_le_mul_of_nonneg_right (q l (.inr rfl)) hw
    show x r + r l * wh + t ≤ x r' + r' l * wh + t
    omega
  · rw [lf_at (by omega)]
    have vl := v.b l
    have v0 : Val f (upd1 r l 0) := ⟨fun i => by unfold upd1; split; exact ⟨Int.le_refl _, hf⟩; exact v.b i⟩
    have s0 := sumN_upd r l 0 N
    rw [if_pos hl] at s0
    have snn := sumN_nn v0 N
    have e : x r = x (upd1 r l 0) := by
      have eq : ∀ i, S i → r i = upd1 r l 0 i := fun i hi => by
        unfold upd1
        rw [if_neg (fun z : i = l => hS (by rw [← z]; exact hi))]
      exact Int.le_antisymm (h.mono _ _ v v0 fun i hi => by rw [eq i hi]; exact Int.le_refl _) (h.mono _ _ v0 v fun i hi => by rw [eq i hi]; exact Int.le_refl _)
    have hm : ((r l).toNat : Int) = r l := by omega
    have h1 := h.up (b - (r l).toNat) (by omega) (upd1 r l 0) v0 (by omega)
    have h2 := lfv_ge (X := X) (wh := wh) (t := t) f.toNat b (r l).toNat (by omega) (by omega)
    rw [hm] at h2
    show x r + r l * wh + t ≤ _
    omega
  · rw [lf_at (by omega)]
    obtain ⟨m, m1, m2, e⟩ := lfv_ex (X := X) (wh := wh) (t := t) f.toNat b
    obtain ⟨r, v, s, z, ex⟩ := h.ex (b - m) (by omega)
    have rl : r l = 0 := z l hS
    have v1 : Val f (upd1 r l m) := ⟨fun i => by unfold upd1; split; omega; exact v.b i⟩
    have s1 := sumN_upd r l m N
    rw [if_pos hl] at s1
    have ul : upd1 r l m l = m := if_pos rfl
    have e2 : x (upd1 r l m) = x r := by
      have eq : ∀ i, S i → r i = upd1 r l m i := fun i hi => by
        unfold upd1
        rw [if_neg (fun z : i = l => hS (by rw [← z]; exact hi))]
      exact Int.le_antisymm (h.mono _ _ v1 v fun i hi => by rw [eq i hi]; exact Int.le_refl _) (h.mono _ _ v v1 fun i hi => by rw [eq i hi]; exact Int.le_refl _)
    refine ⟨upd1 r l m, v1, by omega, fun i hi => ?_, ?_⟩
    · have : i ≠ l := fun q => hi (.inr q)
      unfold upd1
      rw [if_neg this]
      exact z i fun q => hi (.inl q)
    · show x (upd1 r l m) + upd1 r l m l * wh + t = _
      rw [e2, ul, ex, e]
theorem best_const {v : Int} (hf : 0 ≤ f) : Best f N B S (fun _ => v) (List.replicate (B + 1) v) := by
  have hz : ∀ n, sumN (fun _ => 0) n = 0 := fun n => by
    induction n with
    | zero => rfl
    | succ n ih => rw [sumN, ih]; rfl
  have e : ∀ b, b ≤ B → (List.replicate (B + 1) v).getD b 0 = v := fun b hb => by
    have : (List.replicate (B + 1) v)[b]? = some v := by rw [List.getElem?_replicate, if_pos (by omega)]
    simp [List.getD, this]
  refine ⟨List.length_replicate, fun _ _ _ _ _ => Int.le_refl _, fun b hb _ _ _ => by rw [e b hb]; exact Int.le_refl _, fun b hb => ⟨fun _ => 0, ⟨fun _ => ⟨Int.le_refl _, hf⟩⟩, by rw [hz]; omega, fun _ _ => rfl, (e b hb).symm⟩⟩
end
end K81

set_option Elab.async false
set_option linter.all false
set_option maxRecDepth 100000
set_option maxHeartbeats 4000000
namespace K81
open PySem PySem.Spec PyProof.Rows L2 DL
def Fn (c : Cal) (bs : Int) (n : Nat) (r : Nat → Int) (s : Bool) (x : Int) : Int := if loF c bs s ≤ x ∧ x < hiF c bs n s then r (offF c n s + (x - loF c bs s)).toNat else 0
def opsR (c : Cal) (b : Bnd) (bs : Int) (n : Nat) : Ops ((Nat → Int) → Int) :=
  ⟨fun x y r => max (x r) (y r), fun s wh x r => ns (x r) s wh, fun s m x r => x r + Fn c bs n r s m * (c.way s).wheel + b.t0 s, fun s m x r => x r + Fn c bs n r s m * (c.way s).wheel + b.t1 s, fun x r => x r + 1⟩
theorem par_eval {c : Cal} {b : Bnd} {bs : Int} {n : Nat} {a : Bool → Int} (r : Nat → Int) : Par (opsR c b bs n) (opsI c b (Fn c bs n r)) a (fun _ _ x y => x r = y) where
  up := fun _ _ h => h
  mx := fun h1 h2 => by subst h1 h2; rfl
  sl := fun s wh _ h => by subst h; rfl
  inc := fun h => by subst h; rfl
  c0 := fun h => by subst h; rfl
  t0 := fun h => by subst h; rfl
  c1 := fun h => by subst h; rfl
  t1 := fun h => by subst h; rfl
def SS (c : Cal) (n n0 n1 : Nat) (i : Nat) : Prop := i < n0 ∨ (offF c n true ≤ (i : Int) ∧ (i : Int) < offF c n true + n1)
theorem off_t {c : Cal} {n : Nat} : offF c n true = n * c.p0 := rfl
theorem Fn0 {c : Cal} {bs : Int} {n m : Nat} {r : Nat → Int} (hp : 0 < c.p0) (h : (m : Int) < n * c.p0) : Fn c bs n r false (bs * c.per false + m) = r m := by
  unfold Fn
  have e : hiF c bs n false = loF c bs false + n * c.p0 := hi_lo (s := false) hp
  rw [e]
  unfold loF
  rw [if_pos ⟨by omega, by omega⟩]
  congr 1
  show (0 + (bs * c.per false + m - bs * c.per false)).toNat = m
  omega
theorem Fn1 {c : Cal} {bs : Int} {n m : Nat} {r : Nat → Int} (hp : 0 < c.p1) (h : (m : Int) < n * c.p1) : Fn c bs n r true (bs * c.per true + m) = r (offF c n true + m).toNat := by
  unfold Fn
  have e : hiF c bs n true = loF c bs true + n * c.p1 := hi_lo (s := true) hp
  rw [e]
  unfold loF
  rw [if_pos ⟨by omega, by omega⟩]
  congr 2
  omega
section
variable {c : Cal} {b : Bnd} {bs : Int} {n N B : Nat}
def QB (c : Cal) (f : Int) (n N B n0 n1 : Nat) (x : (Nat → Int) → Int) (X : List Int) : Prop := (n0 : Int) ≤ n * c.p0 → (n1 : Int) ≤ n * c.p1 → Best f N B (SS c n n0 n1) x X
theorem comeB0 {n0 n1 : Nat} {x : (Nat → Int) → Int} {X : List Int} {t : Int} (hc : c.Ok) (hf : 0 ≤ b.fails) (hN : (N : Int) = n * (c.p0 + c.p1)) (h : QB c b.fails n N B n0 n1 x X) :
    QB c b.fails n N B (n0 + 1) n1 (fun r => x r + Fn c bs n r false (bs * c.per false + (n0 : Nat)) * (c.way false).wheel + t) (lf X b.fails.toNat (c.way false).wheel t) := by
  intro h0 h1
  have hp0 := (hc.p false).1
  have hp1 := (hc.p true).1
  have e0 : c.per false = c.p0 := rfl
  have e1 : c.per true = c.p1 := rfl
  rw [e0] at hp0
  rw [e1] at hp1
  have hNs : (N : Int) = n * c.p0 + n * c.p1 := by rw [hN, Int.mul_add]
  have hnn1 : 0 ≤ (n : Int) * c.p1 := Int.mul_nonneg (by omega) (by omega)
  have hB := h (by omega) h1
  have e : (fun r => x r + Fn c bs n r false (bs * c.per false + (n0 : Nat)) * (c.way false).wheel + t) = fun r => x r + r n0 * (c.way false).wheel + t := by
    funext r
    rw [Fn0 hp0 (by omega)]
  rw [e]
  refine (hB.come hf (l := n0) (by omega) (fun z => ?_) _ t (by have := (hc.w false).w0; omega)).sup fun i hi => ?_
  · rcases z with z | ⟨z, _⟩
    · exact Nat.lt_irrefl _ z
    · rw [off_t] at z; omega
  · rcases hi with (hi | hi) | hi
    · exact .inl (by omega)
    · exact .inr hi
    · exact .inl (by omega)
theorem comeB1 {n0 n1 : Nat} {x : (Nat → Int) → Int} {X : List Int} {t : Int} (hc : c.Ok) (hf : 0 ≤ b.fails) (hN : (N : Int) = n * (c.p0 + c.p1)) (h : QB c b.fails n N B n0 n1 x X) :
    QB c b.fails n N B n0 (n1 + 1) (fun r => x r + Fn c bs n r true (bs * c.per true + (n1 : Nat)) * (c.way true).wheel + t) (lf X b.fails.toNat (c.way true).wheel t) := by
  intro h0 h1
  have hp0 := (hc.p false).1
  have hp1 := (hc.p true).1
  have e0 : c.per false = c.p0 := rfl
  have e1 : c.per true = c.p1 := rfl
  rw [e0] at hp0
  rw [e1] at hp1
  have hNs : (N : Int) = n * c.p0 + n * c.p1 := by rw [hN, Int.mul_add]
  have hnn0 : 0 ≤ (n : Int) * c.p0 := Int.mul_nonneg (by omega) (by omega)
  have hB := h h0 (by omega)
  have e : (fun r => x r + Fn c bs n r true (bs * c.per true + (n1 : Nat)) * (c.way true).wheel + t) = fun r => x r + r (offF c n true + (n1 : Nat)).toNat * (c.way true).wheel + t := by
    funext r
    rw [Fn1 hp1 (by omega)]
  rw [e]
  have ho := off_t (c := c) (n := n)
  refine (hB.come hf (l := (offF c n true + (n1 : Nat)).toNat) (by omega) (fun z => ?_) _ t (by have := (hc.w true).w0; omega)).sup fun i hi => ?_
  · rcases z with z | ⟨_, z⟩
    · omega
    · omega
  · rcases hi with (hi | hi) | hi
    · exact .inl hi
    · exact .inr ⟨hi.1, by omega⟩
    · exact .inr ⟨by omega, by omega⟩
theorem par_best (hc : c.Ok) (hf : 0 ≤ b.fails) (hN : (N : Int) = n * (c.p0 + c.p1)) : Par (opsR c b bs n) (opsL c b) (fun s => bs * c.per s) (QB c b.fails n N B) where
  up := fun {n0 n1 m0 m1 x y} h1 h2 h g1 g2 => (h (by omega) (by omega)).sup fun i hi => by
    rcases hi with hi | hi
    · exact .inl (by omega)
    · exact .inr ⟨hi.1, by omega⟩
  mx := fun h k g1 g2 => (h g1 g2).mx (k g1 g2)
  sl := fun s wh hw h g1 g2 => (h g1 g2).map (fun t => ns t s wh) (ns_mono hw)
  inc := fun h g1 g2 => (h g1 g2).map (fun t => t + 1) (fun a b h => by omega)
  c0 := fun h => comeB0 hc hf hN h
  t0 := fun h => comeB0 hc hf hN h
  c1 := fun h => comeB1 hc hf hN h
  t1 := fun h => comeB1 hc hf hN h
end
theorem PL.part3 {α β : Type} {Q : Nat → Nat → α → β → Prop} {S : Cst α} {T : Cst β} (h : RC Q S T) (k : Nat) : PL (Q (S.w false).tolds.length (S.w true).tolds.length) (K81.part3 S k) (K81.part3 T k) := by
  match k with
  | 0 => exact h.b
  | 1 => exact h.d
  | _ + 2 => exact h.h
theorem PL.at_ {α β : Type} {R : α → β → Prop} {l : List α} {m : List β} (h : PL R l m) {j : Nat} (dx : α) (dy : β) (hj : j < l.length) : R (l.getD j dx) (m.getD j dy) := by
  induction h generalizing j with
  | nil => exact absurd hj (Nat.not_lt_zero _)
  | cons r t ih =>
    cases j with
    | zero => exact r
    | succ j =>
      have := ih (j := j) (by simpa using hj)
      simpa [List.getD] using this
theorem part3_length {α : Type} {o : Ops α} {round : Int} {c : Cal} {ahead : Int} {l : List α} (k : Nat) : (part3 (runC o round c ahead l) k).length = l.length := by
  have h := runC_len (o := o) (round := round) (c := c) (ahead := ahead) l
  match k with
  | 0 => exact h.1
  | 1 => exact h.2.1
  | _ + 2 => exact h.2.2.1
/-- each time of a run: its best by budget -/
theorem run_best {d : Des} {c : Cal} {b : Bnd} {bs : Int} {ts : List Int} {N : Nat} {B : Int} (hd : d.Ok) (hc : c.Ok) (hf : 0 ≤ b.fails) (hB : 0 ≤ B) (hN : (N : Int) = ts.length * (c.p0 + c.p1)) (k j : Nat) (hj : j < ts.length) :
    ∃ x : (Nat → Int) → Int, (∀ r, (part3 (runC (opsI c b (Fn c bs ts.length r)) d.round c bs ts) k).getD j 0 = x r) ∧
      Best b.fails N B.toNat (fun i => i < N) x ((part3 (runC (opsL c b) d.round c bs (ts.map (rep B))) k).getD j []) := by
  have hp0 := (hc.p false).1
  have hp1 := (hc.p true).1
  have e0 : c.per false = c.p0 := rfl
  have e1 : c.per true = c.p1 := rfl
  rw [e0] at hp0
  rw [e1] at hp1
  have hNs : (N : Int) = ts.length * c.p0 + ts.length * c.p1 := by rw [hN, Int.mul_add]
  have hnn0 : 0 ≤ (ts.length : Int) * c.p0 := Int.mul_nonneg (by omega) (by omega)
  have hnn1 : 0 ≤ (ts.length : Int) * c.p1 := Int.mul_nonneg (by omega) (by omega)
  have h1 := (par_best (c := c) (b := b) (bs := bs) (n := ts.length) (N := N) (B := B.toNat) hc hf hN).run hd.r0 hc (l := ts.map fun t => fun _ => t) (m := ts.map (rep B)) (PL.maps (fun t g1 g2 => by
    have e : rep B t = List.replicate (B.toNat + 1) t := by unfold rep; congr 1; omega
    rw [e]
    exact best_const hf) ts)
  have hT := runC_len (o := opsR c b bs ts.length) (round := d.round) (c := c) (ahead := bs) (ts.map fun t => fun _ => t)
  rw [List.length_map] at hT
  have p1 := (PL.part3 h1 k).at_ (j := j) (fun _ => 0) [] (by rw [part3_length, List.length_map]; exact hj)
  have l0 : ((runC (opsR c b bs ts.length) d.round c bs (ts.map fun t => fun _ => t)).w false).tolds.length = ts.length * c.p0.toNat := hT.2.2.2 false
  have l1 : ((runC (opsR c b bs ts.length) d.round c bs (ts.map fun t => fun _ => t)).w true).tolds.length = ts.length * c.p1.toNat := hT.2.2.2 true
  have c0 : ((ts.length * c.p0.toNat : Nat) : Int) = ts.length * c.p0 := by rw [Int.natCast_mul]; congr 1; omega
  have c1 : ((ts.length * c.p1.toNat : Nat) : Int) = ts.length * c.p1 := by rw [Int.natCast_mul]; congr 1; omega
  rw [l0, l1] at p1
  refine ⟨_, fun r => ?_, (p1 (by omega) (by omega)).sup fun i hi => ?_⟩
  · have h2 := (par_eval (c := c) (b := b) (bs := bs) (n := ts.length) (a := fun s => bs * c.per s) r).run hd.r0 hc (l := ts.map fun t => fun _ => t) (m := ts) (by
      have := PL.maps (R := fun (x : (Nat → Int) → Int) (y : Int) => x r = y) (f := fun t : Int => fun _ : Nat → Int => t) (g := id) (fun t => rfl) ts
      rw [List.map_id] at this
      exact this)
    have p2 := (PL.part3 h2 k).at_ (j := j) (fun _ => 0) 0 (by rw [part3_length, List.length_map]; exact hj)
    exact p2.symm
  · rcases hi with hi | ⟨h3, h4⟩
    · have hi' : ((i : Nat) : Int) < ((ts.length * c.p0.toNat : Nat) : Int) := by omega
      rw [c0] at hi'
      omega
    · rw [off_t, c1] at h4
      omega
end K81

set_option Elab.async false
set_option linter.all false
set_option maxRecDepth 100000
set_option maxHeartbeats 4000000
namespace K81
open PySem PySem.Spec PyProof.Rows L2 DL
theorem sum_map_range (r : Nat → Int) : ∀ n, ((List.range n).map r).sum = sumN r n
  | 0 => rfl
  | n + 1 => by rw [List.range_succ, List.map_append, sumN, ← sum_map_range r n]; exact sum_snoc _ _
theorem row_map {row : List Int} {N : Nat} (h : row.length = N) : (List.range N).map (fun i => row.getD i 0) = row := by
  refine List.ext_getElem? fun i => ?_
  rw [List.getElem?_map]
  by_cases hi : i < N
  · rw [List.getElem?_range hi]
    exact (getD_at (by omega)).symm
  · rw [List.getElem?_eq_none (by rw [List.length_range]; omega), List.getElem?_eq_none (by omega)]
    rfl
theorem row_val {f B : Int} {N : Nat} {row : List Int} (hf : 0 ≤ f) (hB : 0 ≤ B) (h : row ∈ dealt f B N) : Val f (fun i => row.getD i 0) ∧ sumN (fun i => row.getD i 0) N ≤ B := by
  have h1 := dealt_mem hB N row h
  have h2 := dealt_row N row h
  refine ⟨⟨fun i => ?_⟩, ?_⟩
  · show 0 ≤ row.getD i 0 ∧ row.getD i 0 ≤ f
    rw [List.getD]
    cases e : row[i]? with
    | none => exact ⟨Int.le_refl _, hf⟩
    | some x => exact h1.1 x (List.mem_of_getElem? e)
  · rw [← sum_map_range, row_map h2]
    exact h1.2
theorem val_row {f B : Int} {r : Nat → Int} (v : Val f r) : ∀ N, sumN r N ≤ B → (List.range N).map r ∈ dealt f B N
  | 0, _ => by simp [dealt]
  | N + 1, h => by
    rw [sumN] at h
    have hr := v.b N
    have ih := val_row (B := B) v N (by omega)
    rw [List.range_succ, List.map_append]
    refine List.mem_flatMap.mpr ⟨_, ih, List.mem_map.mpr ⟨(r N).toNat, List.mem_range.mpr ?_, ?_⟩⟩
    · rw [sum_map_range]
      omega
    · show _ = (List.range N).map r ++ [r N]
      rw [show (((r N).toNat : Nat) : Int) = r N by omega]
theorem getD_range {r : Nat → Int} {N i : Nat} (hi : i < N) : ((List.range N).map r).getD i 0 = r i := by
  have e : ((List.range N).map r)[i]? = some (r i) := by rw [List.getElem?_map, List.getElem?_range hi]; rfl
  simp [List.getD, e]
/-- the best is found among the rows -/
theorem best_rows {f : Int} {N : Nat} {B : Int} {x : (Nat → Int) → Int} {X : List Int} (hf : 0 ≤ f) (hB : 0 ≤ B) (h : Best f N B.toNat (fun i => i < N) x X) :
    (∀ row ∈ dealt f B N, x (fun i => row.getD i 0) ≤ X.getD B.toNat 0) ∧ ∃ row ∈ dealt f B N, x (fun i => row.getD i 0) = X.getD B.toNat 0 := by
  refine ⟨fun row hrow => ?_, ?_⟩
  · obtain ⟨v, s⟩ := row_val hf hB hrow
    exact h.up _ (Nat.le_refl _) _ v (by omega)
  · obtain ⟨r, v, s, _, e⟩ := h.ex _ (Nat.le_refl _)
    have hm := val_row (B := B) v N (by omega)
    obtain ⟨v2, _⟩ := row_val hf hB hm
    refine ⟨_, hm, ?_⟩
    rw [← e]
    exact Int.le_antisymm (h.mono _ _ v2 v fun i hi => by rw [getD_range hi]; exact Int.le_refl _) (h.mono _ _ v v2 fun i hi => by rw [getD_range hi]; exact Int.le_refl _)
theorem zipmax_at {x y : List Int} {j : Nat} (h1 : j < x.length) (h2 : j < y.length) : (List.zipWith max x y).getD j 0 = max (x.getD j 0) (y.getD j 0) := gr_at h1 h2
theorem acc3_max {d : Des} {c : Cal} {b : Bnd} {ts : List Int} (k j : Nat) (hj : j < ts.length) : ∀ (rows : List (List Int)) (g : Nat → List Int), acc3 d c b ts rows = some g →
    (∀ row ∈ rows, (part3 (runI d c b 0 ts row) k).getD j 0 ≤ (g k).getD j 0) ∧ ∃ row ∈ rows, (g k).getD j 0 = (part3 (runI d c b 0 ts row) k).getD j 0 := by
  intro rows
  induction hn : rows.length generalizing rows with
  | zero =>
    intro g e
    have : rows = [] := List.length_eq_zero_iff.mp hn
    subst this
    cases e
  | succ n ih =>
    intro g e
    have hne : rows ≠ [] := fun z => by rw [z] at hn; cases hn
    obtain ⟨l, row, er⟩ : ∃ l row, rows = l ++ [row] := ⟨_, _, (List.dropLast_concat_getLast hne).symm⟩
    subst er
    rw [acc3_snoc] at e
    have hl : l.length = n := by rw [List.length_append, List.length_singleton] at hn; omega
    cases ea : acc3 d c b ts l with
    | none =>
      rw [ea] at e
      cases e
      have hl0 : l = [] := by
        cases hz : l with
        | nil => rfl
        | cons a l2 =>
          exfalso
          have hne2 : l ≠ [] := by rw [hz]; exact fun q => by cases q
          obtain ⟨l', x, e2⟩ : ∃ l' x, l = l' ++ [x] := ⟨_, _, (List.dropLast_concat_getLast hne2).symm⟩
          rw [e2, acc3_snoc] at ea
          cases ea
      subst hl0
      refine ⟨fun r hr => ?_, row, by simp, rfl⟩
      have : r = row := by simpa using hr
      subst this
      exact Int.le_refl _
    | some g2 =>
      rw [ea] at e
      cases e
      obtain ⟨h1, r2, hr2, h2⟩ := ih l hl g2 ea
      have lg := acc3_len l g2 ea k
      have lp := part3_len (d := d) (c := c) (b := b) (bs := 0) (ts := ts) (row := row) k
      have ez : (List.zipWith max (g2 k) (part3 (runI d c b 0 ts row) k)).getD j 0 = max ((g2 k).getD j 0) ((part3 (runI d c b 0 ts row) k).getD j 0) := zipmax_at (by omega) (by omega)
      show (∀ r ∈ l ++ [row], _ ≤ (List.zipWith max (g2 k) (part3 (runI d c b 0 ts row) k)).getD j 0) ∧ ∃ r ∈ l ++ [row], (List.zipWith max (g2 k) (part3 (runI d c b 0 ts row) k)).getD j 0 = _
      rw [ez]
      refine ⟨fun r hr => ?_, ?_⟩
      · rcases List.mem_append.mp hr with z | z
        · have := h1 r z
          omega
        · rw [List.mem_singleton.mp z]; omega
      · by_cases q : (part3 (runI d c b 0 ts row) k).getD j 0 ≤ (g2 k).getD j 0
        · exact ⟨r2, List.mem_append_left _ hr2, by omega⟩
        · exact ⟨row, by simp, by omega⟩
theorem fr_fn (c : Cal) (bs : Int) (n : Nat) (row : List Int) : Fr_ c bs n row = Fn c bs n (fun i => row.getD i 0) := by
  funext s x
  unfold Fr_ Fn
  rfl
theorem runI_fn (d : Des) (c : Cal) (b : Bnd) (bs : Int) (ts row : List Int) : runI d c b bs ts row = runC (opsI c b (Fn c bs ts.length (fun i => row.getD i 0))) d.round c bs ts := by
  unfold runI
  rw [fr_fn]
/-- the latest by budget is what the law finds over the deals -/
theorem lat_col {d : Des} {c : Cal} {b : Bnd} {ts : List Int} {B : Int} {N : Nat} {g : Nat → List Int} (hd : d.Ok) (hc : c.Ok) (hf : 0 ≤ b.fails) (hB : 0 ≤ B) (hN : (N : Int) = ts.length * (c.p0 + c.p1)) (e : acc3 d c b ts (dealt b.fails B N) = some g) (k : Nat) :
    (part3 (runC (opsL c b) d.round c 0 (ts.map (rep B))) k).map (fun xs => xs.getD B.toNat 0) = g k := by
  have lS : (part3 (runC (opsL c b) d.round c 0 (ts.map (rep B))) k).length = ts.length := by rw [part3_length, List.length_map]
  have lg := acc3_len _ g e k
  refine List.ext_getElem? fun j => ?_
  rw [List.getElem?_map]
  by_cases hj : j < ts.length
  · obtain ⟨x, hx, hbst⟩ := run_best (bs := 0) hd hc hf hB hN k j hj
    rw [getD_at (d := []) (show j < (part3 (runC (opsL c b) d.round c 0 (ts.map (rep B))) k).length by omega), getD_at (d := 0) (show j < (g k).length by omega)]
    show some _ = some _
    congr 1
    obtain ⟨h1, row, hrow, h2⟩ := best_rows hf hB hbst
    obtain ⟨h3, row', hrow', h4⟩ := acc3_max k j hj _ g e
    have ex : ∀ row, (part3 (runI d c b 0 ts row) k).getD j 0 = x (fun i => row.getD i 0) := fun row => by rw [runI_fn]; exact hx _
    have a1 := h3 row hrow
    rw [ex, h2] at a1
    have a2 := h1 row' hrow'
    rw [← ex, ← h4] at a2
    exact Int.le_antisymm a1 a2
  · rw [List.getElem?_eq_none (by omega), List.getElem?_eq_none (by omega)]
    rfl
theorem lat_eq {d : Des} {c : Cal} {bs : List Bnd} {b : Bnd} {mss : List (List Int)} {ts : List Int} {B : Int} {k : Nat} {g : Nat → List Int} (hd : d.Ok) (hc : c.Ok) (hf : 0 ≤ b.fails) (hB : 0 ≤ B) (h1 : d.cals[k]? = some c) (h2 : bs[k]? = some b) (h3 : mss[k]? = some ts)
    (e : acc3 d c b ts (dealt b.fails B ((ts.length : Int) * (c.p0 + c.p1)).toNat) = some g) : latD d bs B mss k = dRows g := by
  have hp0 := (hc.p false).1
  have hp1 := (hc.p true).1
  have e0 : c.per false = c.p0 := rfl
  have e1 : c.per true = c.p1 := rfl
  rw [e0] at hp0
  rw [e1] at hp1
  have hnn : 0 ≤ (ts.length : Int) * (c.p0 + c.p1) := Int.mul_nonneg (by omega) (by omega)
  have hl := fun k => lat_col hd hc hf hB (Int.toNat_of_nonneg hnn) e k
  unfold latD dRows
  rw [h1, h2, h3]
  have q : ∀ xss : List (List Int), col B xss = .tup ((xss.map fun xs => xs.getD B.toNat 0).map D.int) := fun xss => by
    unfold col
    rw [List.map_map]
    rfl
  show D.tup [col B _, col B _, col B _] = _
  rw [q, q, q]
  rw [← hl 0, ← hl 1, ← hl 2]
  rfl
end K81

set_option Elab.async false
set_option linter.all false
set_option maxRecDepth 100000
set_option maxHeartbeats 4000000
namespace K81
open PySem PySem.Spec PyProof.Rows L2 DL
/-- the same where the fates are dealt for more calls than the run has -/
theorem run_bestN {d : Des} {c : Cal} {b : Bnd} {bs : Int} {ts : List Int} {n N : Nat} {B : Int} (hd : d.Ok) (hc : c.Ok) (hf : 0 ≤ b.fails) (hB : 0 ≤ B) (hn : ts.length ≤ n) (hN : (N : Int) = n * (c.p0 + c.p1)) (k j : Nat) (hj : j < ts.length) :
    ∃ x : (Nat → Int) → Int, (∀ r, (part3 (runC (opsI c b (Fn c bs n r)) d.round c bs ts) k).getD j 0 = x r) ∧
      Best b.fails N B.toNat (fun i => i < N) x ((part3 (runC (opsL c b) d.round c bs (ts.map (rep B))) k).getD j []) := by
  have hp0 := (hc.p false).1
  have hp1 := (hc.p true).1
  have e0 : c.per false = c.p0 := rfl
  have e1 : c.per true = c.p1 := rfl
  rw [e0] at hp0
  rw [e1] at hp1
  have hNs : (N : Int) = n * c.p0 + n * c.p1 := by rw [hN, Int.mul_add]
  have hnn0 : 0 ≤ (n : Int) * c.p0 := Int.mul_nonneg (by omega) (by omega)
  have hnn1 : 0 ≤ (n : Int) * c.p1 := Int.mul_nonneg (by omega) (by omega)
  have h1 := (par_best (c := c) (b := b) (bs := bs) (n := n) (N := N) (B := B.toNat) hc hf hN).run hd.r0 hc (l := ts.map fun t => fun _ => t) (m := ts.map (rep B)) (PL.maps (fun t g1 g2 => by
    have e : rep B t = List.replicate (B.toNat + 1) t := by unfold rep; congr 1; omega
    rw [e]
    exact best_const hf) ts)
  have hT := runC_len (o := opsR c b bs n) (round := d.round) (c := c) (ahead := bs) (ts.map fun t => fun _ => t)
  rw [List.length_map] at hT
  have p1 := (PL.part3 h1 k).at_ (j := j) (fun _ => 0) [] (by rw [part3_length, List.length_map]; exact hj)
  have l0 : ((runC (opsR c b bs n) d.round c bs (ts.map fun t => fun _ => t)).w false).tolds.length = ts.length * c.p0.toNat := hT.2.2.2 false
  have l1 : ((runC (opsR c b bs n) d.round c bs (ts.map fun t => fun _ => t)).w true).tolds.length = ts.length * c.p1.toNat := hT.2.2.2 true
  have c0 : ((ts.length * c.p0.toNat : Nat) : Int) ≤ n * c.p0 := by
    rw [Int.natCast_mul, Int.toNat_of_nonneg (by omega)]
    exact Int.mul_le_mul_of_nonneg_right (by omega) (by omega)
  have c1 : ((ts.length * c.p1.toNat : Nat) : Int) ≤ n * c.p1 := by
    rw [Int.natCast_mul, Int.toNat_of_nonneg (by omega)]
    exact Int.mul_le_mul_of_nonneg_right (by omega) (by omega)
  rw [l0, l1] at p1
  refine ⟨_, fun r => ?_, (p1 (by omega) (by omega)).sup fun i hi => ?_⟩
  · have h2 := (par_eval (c := c) (b := b) (bs := bs) (n := n) (a := fun s => bs * c.per s) r).run hd.r0 hc (l := ts.map fun t => fun _ => t) (m := ts) (by
      have := PL.maps (R := fun (x : (Nat → Int) → Int) (y : Int) => x r = y) (f := fun t : Int => fun _ : Nat → Int => t) (g := id) (fun t => rfl) ts
      rw [List.map_id] at this
      exact this)
    have p2 := (PL.part3 h2 k).at_ (j := j) (fun _ => 0) 0 (by rw [part3_length, List.length_map]; exact hj)
    exact p2.symm
  · rcases hi with hi | ⟨h3, h4⟩
    · have hi' : ((i : Nat) : Int) < ((ts.length * c.p0.toNat : Nat) : Int) := by omega
      omega
    · rw [off_t] at h4
      omega
/-- where every letter fails as often as it may -/
def QS (c : Cal) (n : Nat) (n0 n1 : Nat) (x y : Int) : Prop := (n0 : Int) ≤ n * c.p0 → (n1 : Int) ≤ n * c.p1 → x = y
theorem par_slow {c : Cal} {b : Bnd} {bs : Int} {n : Nat} (hc : c.Ok) : Par (opsI c b (Fn c bs n fun _ => b.fails)) (opsI c b fun _ _ => b.fails) (fun s => bs * c.per s) (QS c n) where
  up := fun h1 h2 h g1 g2 => h (by omega) (by omega)
  mx := fun h1 h2 g1 g2 => by rw [h1 g1 g2, h2 g1 g2]; rfl
  sl := fun s wh _ h g1 g2 => by rw [h g1 g2]; rfl
  inc := fun h g1 g2 => by rw [h g1 g2]; rfl
  c0 := fun {n0 n1 x y} h g1 g2 => by
    have q := Fn0 (bs := bs) (m := n0) (r := fun _ => b.fails) (hc.p false).1 (show (n0 : Int) < n * c.p0 by omega)
    show x + Fn c bs n (fun _ => b.fails) false (bs * c.per false + (n0 : Nat)) * (c.way false).wheel + b.t0 false = y + b.fails * (c.way false).wheel + b.t0 false
    rw [q, h (by omega) g2]
  t0 := fun {n0 n1 x y} h g1 g2 => by
    have q := Fn0 (bs := bs) (m := n0) (r := fun _ => b.fails) (hc.p false).1 (show (n0 : Int) < n * c.p0 by omega)
    show x + Fn c bs n (fun _ => b.fails) false (bs * c.per false + (n0 : Nat)) * (c.way false).wheel + b.t1 false = y + b.fails * (c.way false).wheel + b.t1 false
    rw [q, h (by omega) g2]
  c1 := fun {n0 n1 x y} h g1 g2 => by
    have q := Fn1 (bs := bs) (m := n1) (r := fun _ => b.fails) (hc.p true).1 (show (n1 : Int) < n * c.p1 by omega)
    show x + Fn c bs n (fun _ => b.fails) true (bs * c.per true + (n1 : Nat)) * (c.way true).wheel + b.t0 true = y + b.fails * (c.way true).wheel + b.t0 true
    rw [q, h g1 (by omega)]
  t1 := fun {n0 n1 x y} h g1 g2 => by
    have q := Fn1 (bs := bs) (m := n1) (r := fun _ => b.fails) (hc.p true).1 (show (n1 : Int) < n * c.p1 by omega)
    show x + Fn c bs n (fun _ => b.fails) true (bs * c.per true + (n1 : Nat)) * (c.way true).wheel + b.t1 true = y + b.fails * (c.way true).wheel + b.t1 true
    rw [q, h g1 (by omega)]
theorem sumN_const {f : Int} : ∀ n : Nat, sumN (fun _ => f) n = n * f
  | 0 => by rw [sumN]; simp
  | n + 1 => by rw [sumN, sumN_const n, Int.natCast_add, Int.add_mul]; simp
/-- a budget for everything: the slow line -/
theorem lat_slow {d : Des} {c : Cal} {b : Bnd} {ts : List Int} {B : Int} {N : Nat} (hd : d.Ok) (hc : c.Ok) (hf : 0 ≤ b.fails) (hB : 0 ≤ B) (hN : (N : Int) = ts.length * (c.p0 + c.p1)) (hs : N * b.fails ≤ B) (k : Nat) :
    (part3 (runC (opsL c b) d.round c 0 (ts.map (rep B))) k).map (fun xs => xs.getD B.toNat 0) = part3 (runC (opsI c b fun _ _ => b.fails) d.round c 0 ts) k := by
  have lS : (part3 (runC (opsL c b) d.round c 0 (ts.map (rep B))) k).length = ts.length := by rw [part3_length, List.length_map]
  have lg : (part3 (runC (opsI c b fun _ _ => b.fails) d.round c 0 ts) k).length = ts.length := part3_length k
  refine List.ext_getElem? fun j => ?_
  rw [List.getElem?_map]
  by_cases hj : j < ts.length
  · obtain ⟨x, hx, hbst⟩ := run_best (bs := 0) hd hc hf hB hN k j hj
    rw [getD_at (d := []) (show j < (part3 (runC (opsL c b) d.round c 0 (ts.map (rep B))) k).length by omega), getD_at (d := 0) (show j < (part3 (runC (opsI c b fun _ _ => b.fails) d.round c 0 ts) k).length by omega)]
    show some _ = some _
    congr 1
    have vf : Val b.fails (fun _ => b.fails) := ⟨fun i => ⟨hf, Int.le_refl _⟩⟩
    have h1 := hbst.up _ (Nat.le_refl _) _ vf (by rw [sumN_const]; omega)
    obtain ⟨r, v, _, _, e⟩ := hbst.ex _ (Nat.le_refl _)
    have h2 := hbst.mono _ _ v vf fun i _ => (v.b i).2
    rw [e] at h2
    have hR := (par_slow (c := c) (b := b) (bs := 0) (n := ts.length) hc).run hd.r0 hc (l := ts) (m := ts) (by
      have := PL.maps (R := QS c ts.length 0 0) (f := id) (g := id) (fun t _ _ => rfl) ts
      rw [List.map_id] at this
      exact this)
    have hT := runC_len (o := opsI c b (Fn c 0 ts.length fun _ => b.fails)) (round := d.round) (c := c) (ahead := 0) ts
    have p1 := (PL.part3 hR k).at_ (j := j) 0 0 (by rw [part3_length]; exact hj)
    have hp0 := (hc.p false).1
    have hp1 := (hc.p true).1
    have e0 : c.per false = c.p0 := rfl
    have e1 : c.per true = c.p1 := rfl
    rw [hT.2.2.2 false, hT.2.2.2 true, e0, e1] at p1
    rw [e0] at hp0
    rw [e1] at hp1
    have c0 : ((ts.length * c.p0.toNat : Nat) : Int) ≤ ts.length * c.p0 := by
      rw [Int.natCast_mul, Int.toNat_of_nonneg (by omega)]
      exact Int.le_refl _
    have c1 : ((ts.length * c.p1.toNat : Nat) : Int) ≤ ts.length * c.p1 := by
      rw [Int.natCast_mul, Int.toNat_of_nonneg (by omega)]
      exact Int.le_refl _
    have p2 := p1 c0 c1
    rw [hx] at p2
    rw [← p2]
    exact Int.le_antisymm h2 h1
  · rw [List.getElem?_eq_none (by omega), List.getElem?_eq_none (by omega)]
    rfl
end K81

set_option Elab.async false
set_option linter.all false
set_option maxRecDepth 100000
set_option maxHeartbeats 4000000
namespace K81
open PySem PySem.Spec PyProof.Rows L2 DL
theorem ns_shift {t s wh L : Int} (h : wh ∣ L) : ns (t + L) s wh = ns t s wh + L := by
  obtain ⟨q, rfl⟩ := h
  unfold ns
  rw [show s - (t + wh * q) = (s - t) - wh * q by omega, Int.sub_mul_emod_self_left]
  omega
theorem ns_max {x y s wh : Int} (h : 0 < wh) : ns (max x y) s wh = max (ns x s wh) (ns y s wh) := by
  by_cases q : x ≤ y
  · have := ns_mono (s := s) h x y q
    rw [show max x y = y by omega]; omega
  · have := ns_mono (s := s) h y x (by omega)
    rw [show max x y = x by omega]; omega
/-- to the letters of a way, y is as x, L later -/
def Lk (wy : Way) (L x y : Int) : Prop := ∀ a ∈ wy.slots, ns y a wy.wheel = ns x a wy.wheel + L
theorem Lk.eq {wy : Way} {L x : Int} (h : wy.wheel ∣ L) : Lk wy L x (x + L) := fun _ _ => ns_shift h
theorem Lk.mx {wy : Way} {L x y x' y' : Int} (hw : wy.Ok) (h : Lk wy L x y) (k : Lk wy L x' y') : Lk wy L (max x x') (max y y') := fun a ha => by
  rw [ns_max hw.w0, ns_max hw.w0, h a ha, k a ha]; omega
def Sft (L : Int) (W : Wst Int) : Wst Int := ⟨W.tolds.map (· + L), W.reads.map (· + L), W.tbs.map (· + L)⟩
theorem Lk.get {wy : Way} {L x y : Int} (hL : wy.wheel ∣ L) (h : Lk wy L x y) (l : List Int) (i : Nat) : Lk wy L (l.getD i x) ((l.map (· + L)).getD i y) := by
  simp only [List.getD, List.getElem?_map]
  cases l[i]? with
  | none => exact h
  | some z => exact Lk.eq hL
theorem snoc_sh {L x : Int} {l : List Int} : snoc max (l.map (· + L)) (x + L) = (snoc max l x).map (· + L) := by
  unfold snoc
  rw [List.map_append, List.getLast?_map]
  cases l.getLast? with
  | none => rfl
  | some z =>
    show _ ++ [max (x + L) (z + L)] = _ ++ [max x z + L]
    rw [show max (x + L) (z + L) = max x z + L by omega]
section
variable {c : Cal} {b : Bnd} {F : Bool → Int → Int} {wy : Way} {L : Int}
theorem st2_sh (hw : wy.Ok) (hL : wy.wheel ∣ L) {W : Wst Int} {x y : Int} (h : Lk wy L x y) : Lk wy L (st2 (opsI c b F) wy W x) (st2 (opsI c b F) wy (Sft L W) y) := by
  have h1 : Lk wy L (st1 (opsI c b F) wy W x) (st1 (opsI c b F) wy (Sft L W) y) := by
    unfold st1 Sft
    rw [List.length_map]
    split
    · exact Lk.mx hw h (h.get hL _ _)
    · exact h
  unfold st2
  rw [show (Sft L W).tolds.length = W.tolds.length from List.length_map ..]
  split
  · exact Lk.mx hw h1 (h1.get hL _ _)
  · exact h1
theorem slot_mem (hw : wy.Ok) (n : Int) : wy.slot n ∈ wy.slots := by
  have h0 := hw.s0
  have h1 := Int.emod_nonneg n (show (wy.slots.length : Int) ≠ 0 by omega)
  have h2 := Int.emod_lt_of_pos n (show (0 : Int) < (wy.slots.length : Int) by omega)
  unfold Way.slot
  have hi : (n % (wy.slots.length : Int)).toNat < wy.slots.length := by omega
  rw [List.getD, List.getElem?_eq_getElem hi]
  exact List.getElem_mem hi
theorem putL_sh (hw : wy.Ok) (hL : wy.wheel ∣ L) {s : Bool} {ah : Int} {W : Wst Int} {x y : Int} (h : Lk wy L x y) : putL (opsI c b F) wy s ah (Sft L W) y = Sft L (putL (opsI c b F) wy s ah W x) := by
  have ef : fst_ (opsI c b F) wy ah (Sft L W) y = fst_ (opsI c b F) wy ah W x + L := by
    unfold fst_
    rw [show (Sft L W).tolds.length = W.tolds.length from List.length_map ..]
    exact st2_sh hw hL h _ (slot_mem hw _)
  have eS : (Sft L W).tolds.length = W.tolds.length := List.length_map ..
  unfold putL
  rw [ef, eS]
  generalize fst_ (opsI c b F) wy ah W x = z
  have e1 : (opsI c b F).told s (ah + W.tolds.length) (z + L) = (opsI c b F).told s (ah + W.tolds.length) z + L := by
    show z + L + F s (ah + W.tolds.length) * (c.way s).wheel + b.t1 s = z + F s (ah + W.tolds.length) * (c.way s).wheel + b.t1 s + L
    omega
  have e2 : (opsI c b F).come s (ah + W.tolds.length) (z + L) = (opsI c b F).come s (ah + W.tolds.length) z + L := by
    show z + L + F s (ah + W.tolds.length) * (c.way s).wheel + b.t0 s = z + F s (ah + W.tolds.length) * (c.way s).wheel + b.t0 s + L
    omega
  rw [e1, e2]
  generalize (opsI c b F).told s (ah + W.tolds.length) z = u
  generalize (opsI c b F).come s (ah + W.tolds.length) z = v
  show (⟨W.tolds.map (· + L) ++ [u + L], snoc max (W.reads.map (· + L)) (v + L), snoc max (W.tbs.map (· + L)) (u + L)⟩ : Wst Int) = ⟨(W.tolds ++ [u]).map (· + L), (snoc max W.reads v).map (· + L), (snoc max W.tbs u).map (· + L)⟩
  rw [snoc_sh, snoc_sh, List.map_append]
  rfl
theorem putLs_sh (hw : wy.Ok) (hL : wy.wheel ∣ L) {s : Bool} {ah : Int} {W : Wst Int} {x y : Int} (h : Lk wy L x y) : ∀ k, putLs (opsI c b F) wy s ah y k (Sft L W) = Sft L (putLs (opsI c b F) wy s ah x k W)
  | 0 => rfl
  | k + 1 => by rw [putLs, putLs_sh hw hL h k, putL_sh hw hL h]; rfl
theorem putLs_reads {o : Ops Int} {s : Bool} {ah x : Int} {W : Wst Int} : ∀ k, 0 < k → (putLs o wy s ah x k W).reads ≠ []
  | k + 1, _ => by rw [putLs]; unfold putL snoc; simp
theorem lastR_sh {W : Wst Int} {x y : Int} (h : W.reads ≠ []) : lastR (Sft L W) y = lastR W x + L := by
  unfold lastR Sft
  rw [List.getLast?_map, List.getLast?_eq_some_getLast h]
  rfl
structure Shf (c : Cal) (L : Int) (S T : Cst Int) : Prop where
  w : ∀ s, T.w s = Sft L (S.w s)
  dn : T.done = S.done.map (· + L)
  hd : T.heard = S.heard.map (· + L)
  bl : T.begun.length = S.begun.length
theorem putC_sh {d : Des} {ah : Int} {S T : Cst Int} {x y : Int} (hc : c.Ok) (h0 : c.w0.wheel ∣ L) (h1 : c.w1.wheel ∣ L) (hr : d.round ∣ L) (h : Shf c L S T) (hx : Lk c.w0 L x y) : Shf c L (putC (opsI c b F) d.round c ah S x) (putC (opsI c b F) d.round c ah T y) := by
  have hp0 := (hc.p false).1
  have hp1 := (hc.p true).1
  have eb : Lk c.w0 L (bgC (opsI c b F) c S x) (bgC (opsI c b F) c T y) := by
    unfold bgC
    rw [h.bl, h.hd]
    split
    · exact Lk.mx (hc.w false) hx (hx.get h0 _ _)
    · exact hx
  have e0 : wC0 (opsI c b F) c ah T y = Sft L (wC0 (opsI c b F) c ah S x) := by
    unfold wC0
    rw [h.w false]
    exact putLs_sh (hc.w false) h0 eb _
  have ed : dnOf (opsI c b F) d.round c ah T y = dnOf (opsI c b F) d.round c ah S x + L := by
    unfold dnOf
    have r0 : lastR (Sft L (wC0 (opsI c b F) c ah S x)) y = lastR (wC0 (opsI c b F) c ah S x) x + L := lastR_sh (putLs_reads _ (by omega))
    rw [e0, r0]
    generalize lastR (wC0 (opsI c b F) c ah S x) x = rd
    unfold dnC
    rw [h.dn, List.getLast?_map]
    cases S.done.getLast? with
    | none => exact ns_shift hr
    | some z =>
      show ns (max (rd + L) (z + L + 1)) c.turn d.round = ns (max rd (z + 1)) c.turn d.round + L
      rw [show max (rd + L) (z + L + 1) = max rd (z + 1) + L by omega]
      exact ns_shift hr
  have e1 : wC1 (opsI c b F) c ah T (dnOf (opsI c b F) d.round c ah T y) = Sft L (wC1 (opsI c b F) c ah S (dnOf (opsI c b F) d.round c ah S x)) := by
    unfold wC1
    rw [h.w true, ed]
    exact putLs_sh (hc.w true) h1 (Lk.eq h1) _
  refine ⟨fun s => ?_, ?_, ?_, ?_⟩
  · cases s
    · exact e0
    · exact e1
  · show T.done ++ [_] = (S.done ++ [_]).map (· + L)
    rw [h.dn, ed, List.map_append]
    rfl
  · show T.heard ++ [_] = (S.heard ++ [_]).map (· + L)
    have r1 : lastR (Sft L (wC1 (opsI c b F) c ah S (dnOf (opsI c b F) d.round c ah S x))) y = lastR (wC1 (opsI c b F) c ah S (dnOf (opsI c b F) d.round c ah S x)) x + L := lastR_sh (putLs_reads _ (by omega))
    rw [h.hd, e1, r1, List.map_append]
    rfl
  · show (T.begun ++ [_]).length = (S.begun ++ [_]).length
    rw [List.length_append, List.length_append, h.bl]
    rfl
theorem runC_sh {d : Des} {ah : Int} {x y : Int} (hc : c.Ok) (h0 : c.w0.wheel ∣ L) (h1 : c.w1.wheel ∣ L) (hr : d.round ∣ L) (hx : Lk c.w0 L x y) : ∀ k : Nat, Shf c L (runC (opsI c b F) d.round c ah (List.replicate k x)) (runC (opsI c b F) d.round c ah (List.replicate k y))
  | 0 => ⟨fun _ => rfl, rfl, rfl, rfl⟩
  | k + 1 => by
    rw [List.replicate_succ', List.replicate_succ', runC_snoc, runC_snoc]
    exact putC_sh hc h0 h1 hr (runC_sh hc h0 h1 hr hx k) hx
end
/-- how much later the last answer is heard: L later where the start is as if L later -/
theorem stI_sh {d : Des} {c : Cal} {b : Bnd} {n : Nat} {first x y L : Int} {row : List Int} (hc : c.Ok) (h0 : c.w0.wheel ∣ L) (h1 : c.w1.wheel ∣ L) (hr : d.round ∣ L) (hx : Lk c.w0 L x y) (k : Nat) : stI d c b n first y row k + y = stI d c b n first x row k + x + L := by
  have h := (runC_sh (b := b) (F := Fr_ c first n row) (ah := first) hc h0 h1 hr hx (k + 1)).hd
  have hl := (runC_len (o := opsI c b (Fr_ c first n row)) (round := d.round) (c := c) (ahead := first) (List.replicate (k + 1) x)).2.2.1
  unfold stI
  rw [h, List.getLast?_map]
  have hne : (runC (opsI c b (Fr_ c first n row)) d.round c first (List.replicate (k + 1) x)).heard ≠ [] := fun z => by rw [z, List.length_replicate] at hl; cases hl
  rw [List.getLast?_eq_some_getLast hne]
  generalize List.getLast _ hne = z
  show z + L - y + y = z - x + x + L
  omega
end K81

set_option Elab.async false
set_option linter.all false
set_option maxRecDepth 100000
set_option maxHeartbeats 4000000
namespace K81
open PySem PySem.Spec PyProof.Rows L2 DL
theorem fold_le {α : Type} {n j : Nat} {z : Int} {G : α → List Int → List Int} {Q : α → Prop} (hG : ∀ a acc, acc.length = n → (G a acc).length = n ∧ ((G a acc).getD j 0 ≤ z ↔ acc.getD j 0 ≤ z ∧ Q a)) :
    ∀ (l : List α) (acc : List Int), acc.length = n → (l.foldl (fun acc a => G a acc) acc).length = n ∧ ((l.foldl (fun acc a => G a acc) acc).getD j 0 ≤ z ↔ acc.getD j 0 ≤ z ∧ ∀ a ∈ l, Q a)
  | [], acc, h => ⟨h, by simp⟩
  | a :: l, acc, h => by
    obtain ⟨h1, h2⟩ := hG a acc h
    obtain ⟨h3, h4⟩ := fold_le hG l _ h1
    refine ⟨h3, ?_⟩
    rw [List.foldl_cons, h4, h2]
    constructor
    · rintro ⟨⟨p, q⟩, r⟩
      exact ⟨p, fun x hx => (List.mem_cons.mp hx).elim (fun e => e ▸ q) (r x)⟩
    · rintro ⟨p, q⟩
      exact ⟨⟨p, q a List.mem_cons_self⟩, fun x hx => q x (List.mem_cons_of_mem _ hx)⟩
theorem mxs_le {n j : Nat} {z : Int} {x y : List Int} (hj : j < n) (hx : x.length = n) (hy : y.length = n) : (mxs x y).length = n ∧ ((mxs x y).getD j 0 ≤ z ↔ x.getD j 0 ≤ z ∧ y.getD j 0 ≤ z) := by
  refine ⟨by unfold mxs; rw [List.length_zipWith]; omega, ?_⟩
  have e : (mxs x y).getD j 0 = max (x.getD j 0) (y.getD j 0) := zipmax_at (by omega) (by omega)
  rw [e]
  omega
theorem getD_map_range {f : Nat → Int} {n j : Nat} (hj : j < n) : ((List.range n).map f).getD j 0 = f j := by
  rw [List.getD, List.getElem?_map, List.getElem?_range hj]
  rfl
theorem zeros_at {n j : Nat} : (List.replicate n (0 : Int)).getD j 0 = 0 := by
  rw [List.getD, List.getElem?_replicate]
  split <;> rfl
theorem stair_le {d : Des} {c : Cal} {b : Bnd} {B : Int} {n j : Nat} {z : Int} (hj : j < n) : (stair d c b B n).length = n ∧ ((stair d c b B n).getD j 0 ≤ z ↔ 0 ≤ z ∧ ∀ f ∈ List.range (lcmL (lanesOf c)), ∀ s ∈ startsOf d c, stV d c b B ((f : Nat) : Int) s j ≤ z) := by
  have h := fold_le (n := n) (j := j) (z := z) (G := fun (f : Nat) acc => stL1 d c b B n (f : Int) acc (startsOf d c)) (Q := fun f => ∀ s ∈ startsOf d c, stV d c b B ((f : Nat) : Int) s j ≤ z) (fun f acc ha =>
    fold_le (n := n) (j := j) (z := z) (G := fun (s : Int) acc => mxs acc (stVs d c b B ((f : Nat) : Int) s n)) (Q := fun s => stV d c b B ((f : Nat) : Int) s j ≤ z) (fun s acc hb => by
      have q := mxs_le (z := z) hj hb (show (stVs d c b B ((f : Nat) : Int) s n).length = n by unfold stVs; rw [List.length_map, List.length_range])
      rw [show (stVs d c b B ((f : Nat) : Int) s n).getD j 0 = stV d c b B ((f : Nat) : Int) s j from getD_map_range hj] at q
      exact q) (startsOf d c) acc ha) (List.range (lcmL (lanesOf c))) (List.replicate n 0) List.length_replicate
  rw [zeros_at] at h
  exact h
theorem lawStair_le {d : Des} {c : Cal} {b : Bnd} {B : Int} {n j : Nat} {z : Int} (hj : j < n) : (lawStair d c b n B).length = n ∧ ((lawStair d c b n B).getD j 0 ≤ z ↔ 0 ≤ z ∧ ∀ s ∈ List.range (spanOf d c), ∀ f ∈ List.range (lcmL (lanesOf c)), ∀ row ∈ dealt b.fails B ((n : Int) * (c.p0 + c.p1)).toNat, stI d c b n ((f : Nat) : Int) ((s : Nat) : Int) row j ≤ z) := by
  have h := fold_le (n := n) (j := j) (z := z) (G := fun (s : Nat) acc => lsF d c b n (dealt b.fails B ((n : Int) * (c.p0 + c.p1)).toNat) (s : Int) acc (List.range (lcmL (lanesOf c)))) (Q := fun s => ∀ f ∈ List.range (lcmL (lanesOf c)), ∀ row ∈ dealt b.fails B ((n : Int) * (c.p0 + c.p1)).toNat, stI d c b n ((f : Nat) : Int) ((s : Nat) : Int) row j ≤ z) (fun s acc ha =>
    fold_le (n := n) (j := j) (z := z) (G := fun (f : Nat) acc => lsR d c b n (f : Int) (s : Int) acc (dealt b.fails B ((n : Int) * (c.p0 + c.p1)).toNat)) (Q := fun f => ∀ row ∈ dealt b.fails B ((n : Int) * (c.p0 + c.p1)).toNat, stI d c b n ((f : Nat) : Int) ((s : Nat) : Int) row j ≤ z) (fun f acc hb =>
      fold_le (n := n) (j := j) (z := z) (G := fun (row : List Int) acc => mxs acc (stIs d c b n (f : Int) (s : Int) row)) (Q := fun row => stI d c b n ((f : Nat) : Int) ((s : Nat) : Int) row j ≤ z) (fun row acc hb => by
        have q := mxs_le (z := z) hj hb (show (stIs d c b n ((f : Nat) : Int) ((s : Nat) : Int) row).length = n by unfold stIs; rw [List.length_map, List.length_range])
        rw [show (stIs d c b n ((f : Nat) : Int) ((s : Nat) : Int) row).getD j 0 = stI d c b n ((f : Nat) : Int) ((s : Nat) : Int) row j from getD_map_range hj] at q
        exact q) _ acc hb) (List.range (lcmL (lanesOf c))) acc ha) (List.range (spanOf d c)) (List.replicate n 0) List.length_replicate
  rw [zeros_at] at h
  exact h
theorem last_at {α : Type} {l : List α} {j : Nat} {x : α} (h : l.length = j + 1) : l.getLast?.getD x = l.getD j x := by
  rw [List.getLast?_eq_getElem?, List.getD, h]
  rfl
/-- the program's stair at a start: the worst deal there -/
theorem stV_le {d : Des} {c : Cal} {b : Bnd} {B first start z : Int} {n j : Nat} (hd : d.Ok) (hc : c.Ok) (hf : 0 ≤ b.fails) (hB : 0 ≤ B) (hj : j < n) :
    stV d c b B first start j ≤ z ↔ ∀ row ∈ dealt b.fails B ((n : Int) * (c.p0 + c.p1)).toNat, stI d c b n first start row j ≤ z := by
  have hp0 := (hc.p false).1
  have hp1 := (hc.p true).1
  have e0 : c.per false = c.p0 := rfl
  have e1 : c.per true = c.p1 := rfl
  rw [e0] at hp0
  rw [e1] at hp1
  have hnn : 0 ≤ (n : Int) * (c.p0 + c.p1) := Int.mul_nonneg (by omega) (by omega)
  obtain ⟨x, hx, hbst⟩ := run_bestN (bs := first) (ts := List.replicate (j + 1) start) (n := n) hd hc hf hB (by rw [List.length_replicate]; omega) (Int.toNat_of_nonneg hnn) 2 j (by rw [List.length_replicate]; omega)
  obtain ⟨h1, row, hrow, h2⟩ := best_rows hf hB hbst
  have eV : stV d c b B first start j = ((part3 (runC (opsL c b) d.round c first ((List.replicate (j + 1) start).map (rep B))) 2).getD j []).getD B.toNat 0 - start := by
    unfold stV
    rw [last_at (j := j) (by rw [(runC_len (o := opsL c b) (round := d.round) (c := c) (ahead := first) _).2.2.1, List.length_map, List.length_replicate])]
    rfl
  have eI : ∀ row, stI d c b n first start row j = x (fun i => row.getD i 0) - start := fun row => by
    unfold stI
    rw [fr_fn, last_at (j := j) (by rw [(runC_len (o := opsI c b (Fn c first n fun i => row.getD i 0)) (round := d.round) (c := c) (ahead := first) _).2.2.1, List.length_replicate]), ← hx]
    rfl
  rw [eV]
  constructor
  · intro h r hr
    rw [eI]
    have := h1 r hr
    exact Int.le_trans (Int.sub_le_sub_right this _) h
  · intro h
    have := h row hrow
    rw [eI, h2] at this
    exact this
theorem min_of (f : Int → Int) : ∀ l : List Int, l ≠ [] → ∃ a ∈ l, ∀ b ∈ l, f a ≤ f b
  | [], h => absurd rfl h
  | [a], _ => ⟨a, List.mem_cons_self, fun b hb => by rw [List.mem_singleton.mp hb]; exact Int.le_refl _⟩
  | a :: b :: l, _ => by
    obtain ⟨m, hm, h⟩ := min_of f (b :: l) (fun z => by cases z)
    by_cases q : f a ≤ f m
    · exact ⟨a, List.mem_cons_self, fun y hy => by
        rcases List.mem_cons.mp hy with rfl | hy
        · exact Int.le_refl _
        · exact Int.le_trans q (h y hy)⟩
    · exact ⟨m, List.mem_cons_of_mem _ hm, fun y hy => by
        rcases List.mem_cons.mp hy with rfl | hy
        · omega
        · exact h y hy⟩
theorem mod_is {w k r x : Int} (h0 : 0 ≤ r) (h1 : r < w) (h : x = r + w * k) : x % w = r := by
  rw [h, Int.add_mul_emod_self_left, Int.emod_eq_of_lt h0 h1]
/-- a tick just behind a forth slot, from which a call is heard as from s -/
theorem behind_of {wy : Way} (hw : wy.Ok) (s : Int) : ∃ t, t ≤ s ∧ s < t + wy.wheel ∧ t % wy.wheel ∈ wy.slots.map (fun a => (a + 1) % wy.wheel) ∧ Lk wy 0 s t := by
  have w0 := hw.w0
  have hs := hw.s0
  obtain ⟨a, ha, hm⟩ := min_of (fun a => (s - 1 - a) % wy.wheel) wy.slots (fun z => by rw [z] at hs; exact Nat.lt_irrefl _ hs)
  have d0 := Int.emod_nonneg (s - 1 - a) (show wy.wheel ≠ 0 by omega)
  have d1 := Int.emod_lt_of_pos (s - 1 - a) w0
  have d2 := Int.mul_ediv_add_emod (s - 1 - a) wy.wheel
  have hm2 : ∀ x ∈ wy.slots, (s - 1 - a) % wy.wheel ≤ (s - 1 - x) % wy.wheel := hm
  clear hm
  generalize hD : (s - 1 - a) % wy.wheel = D at *
  refine ⟨s - D, by omega, by omega, List.mem_map.mpr ⟨a, ha, ?_⟩, fun x hx => ?_⟩
  · show (a + 1) % wy.wheel = (s - D) % wy.wheel
    rw [show s - D = a + 1 + wy.wheel * ((s - 1 - a) / wy.wheel) by omega, Int.add_mul_emod_self_left]
  · have m := hm2 x hx
    have e0 := Int.emod_nonneg (s - 1 - x) (show wy.wheel ≠ 0 by omega)
    have e1 := Int.emod_lt_of_pos (s - 1 - x) w0
    have e2 := Int.mul_ediv_add_emod (s - 1 - x) wy.wheel
    generalize (s - 1 - x) % wy.wheel = e at *
    generalize (s - 1 - x) / wy.wheel = q at *
    have en : wy.wheel * (-q - 1) = -(wy.wheel * q) - wy.wheel := by rw [Int.mul_sub, Int.mul_neg, Int.mul_one]
    unfold ns
    rw [mod_is (r := wy.wheel - 1 - e) (k := -q - 1) (x := x - s) (by omega) (by omega) (by omega), mod_is (r := wy.wheel - 1 - e + D) (k := -q - 1) (x := x - (s - D)) (by omega) (by omega) (by omega)]
    omega
theorem span_dvd {d : Des} {c : Cal} (hd : d.Ok) (hc : c.Ok) : d.round ∣ (spanOf d c : Int) ∧ c.w0.wheel ∣ (spanOf d c : Int) ∧ c.w1.wheel ∣ (spanOf d c : Int) ∧ c.w0.wheel ≤ (spanOf d c : Int) := by
  have r0 := hd.r0
  have w0 : 0 < c.w0.wheel := (hc.w false).w0
  have w1 : 0 < c.w1.wheel := (hc.w true).w0
  have e : spanOf d c = Nat.lcm (Nat.lcm (Nat.lcm 1 d.round.toNat) c.w0.wheel.toNat) c.w1.wheel.toNat := rfl
  have g : ∀ x : Int, 0 < x → x.toNat ∣ spanOf d c → x ∣ (spanOf d c : Int) := fun x hx h => by
    have := Int.natCast_dvd_natCast.mpr h
    rwa [Int.toNat_of_nonneg (by omega)] at this
  have d1 : d.round.toNat ∣ spanOf d c := by rw [e]; exact Nat.dvd_trans (Nat.dvd_trans (Nat.dvd_lcm_right 1 d.round.toNat) (Nat.dvd_lcm_left _ _)) (Nat.dvd_lcm_left _ _)
  have d2 : c.w0.wheel.toNat ∣ spanOf d c := by rw [e]; exact Nat.dvd_trans (Nat.dvd_lcm_right _ _) (Nat.dvd_lcm_left _ _)
  have d3 : c.w1.wheel.toNat ∣ spanOf d c := by rw [e]; exact Nat.dvd_lcm_right _ _
  have pos : 0 < spanOf d c := lcmL_pos _ 1 (by decide) (fun m hm => by
    simp only [List.mem_cons, List.not_mem_nil, or_false] at hm
    rcases hm with rfl | rfl | rfl <;> omega)
  have le := Nat.le_of_dvd pos d2
  exact ⟨g _ r0 d1, g _ w0 d2, g _ w1 d3, by omega⟩
/-- every start of the span is no worse than one that the program tries -/
theorem start_of {d : Des} {c : Cal} {b : Bnd} (hd : d.Ok) (hc : c.Ok) {s : Nat} (hs : s < spanOf d c) : ∃ t ∈ startsOf d c, ∀ (n : Nat) (first : Int) (row : List Int) (j : Nat), stI d c b n first (s : Int) row j ≤ stI d c b n first t row j := by
  obtain ⟨r, w0, w1, wl⟩ := span_dvd hd hc
  obtain ⟨t, t1, t2, t3, t4⟩ := behind_of (hc.w false) (s : Int)
  have ew : (c.way false) = c.w0 := rfl
  rw [ew] at t2 t3 t4
  have k0 : ∀ L : Int, c.w0.wheel ∣ L → c.w1.wheel ∣ L → d.round ∣ L → 0 ≤ t + L → t + L < spanOf d c → ∃ t ∈ startsOf d c, ∀ (n : Nat) (first : Int) (row : List Int) (j : Nat), stI d c b n first (s : Int) row j ≤ stI d c b n first t row j := by
    intro L l0 l1 lr g0 g1
    refine ⟨t + L, List.mem_filter.mpr ⟨List.mem_map.mpr ⟨(t + L).toNat, List.mem_range.mpr (by omega), by omega⟩, ?_⟩, fun n first row j => ?_⟩
    · obtain ⟨q, rfl⟩ := l0
      rw [Int.add_mul_emod_self_left]
      exact decide_eq_true t3
    · have := stI_sh (b := b) (n := n) (first := first) (row := row) (x := (s : Int)) (y := t + L) hc l0 l1 lr (fun a ha => by
        rw [ns_shift l0, t4 a ha]; omega) j
      omega
  by_cases q : 0 ≤ t
  · exact k0 0 (Int.dvd_zero _) (Int.dvd_zero _) (Int.dvd_zero _) (by omega) (by omega)
  · exact k0 (spanOf d c) w0 w1 r (by omega) (by omega)
theorem stair_eq {d : Des} {c : Cal} {b : Bnd} {B : Int} {n : Nat} (hd : d.Ok) (hc : c.Ok) (hf : 0 ≤ b.fails) (hB : 0 ≤ B) (hn : 0 < n) : stair d c b B n = lawStair d c b n B := by
  have l1 := (stair_le (d := d) (c := c) (b := b) (B := B) (z := 0) hn).1
  have l2 := (lawStair_le (d := d) (c := c) (b := b) (B := B) (z := 0) hn).1
  refine List.ext_getElem? fun j => ?_
  by_cases hj : j < n
  · rw [getD_at (d := 0) (show j < (stair d c b B n).length by omega), getD_at (d := 0) (show j < (lawStair d c b n B).length by omega)]
    congr 1
    have key : ∀ z, (stair d c b B n).getD j 0 ≤ z ↔ (lawStair d c b n B).getD j 0 ≤ z := by
      intro z
      rw [(stair_le (z := z) hj).2, (lawStair_le (z := z) hj).2]
      constructor
      · rintro ⟨z0, h⟩
        refine ⟨z0, fun s hs f hf' row hr => ?_⟩
        obtain ⟨t, ht, hk⟩ := start_of (b := b) hd hc (List.mem_range.mp hs)
        exact Int.le_trans (hk n _ row j) ((stV_le hd hc hf hB hj).mp (h f hf' t ht) row hr)
      · rintro ⟨z0, h⟩
        refine ⟨z0, fun f hf' s hs => (stV_le hd hc hf hB hj).mpr fun row hr => ?_⟩
        obtain ⟨i, hi, rfl⟩ := List.mem_map.mp (List.mem_filter.mp hs).1
        exact h i hi f hf' row hr
    exact Int.le_antisymm ((key _).mpr (Int.le_refl _)) ((key _).mp (Int.le_refl _))
  · rw [List.getElem?_eq_none (by omega), List.getElem?_eq_none (by omega)]
end K81

set_option Elab.async false
set_option linter.all false
set_option maxRecDepth 100000
set_option maxHeartbeats 4000000
/-! Mg: the text of repr([design, bounds]) is short. -/
namespace K81
open PySem PySem.Spec PyProof.Rows L2 DL
structure Pg (p : PyData) (k w : Nat) : Prop where
  s : p.showable = true
  h : p.hasDict = false
  d : p.depth ≤ k
  l : p.leavesShort 13 = true
  w : p.weight ≤ w
structure PgL (ps : List PyData) (k w : Nat) : Prop where
  s : PyData.showableAll ps = true
  h : PyData.hasDictAll ps = false
  d : PyData.depthAll ps ≤ k
  l : PyData.leavesShortAll 13 ps = true
  w : PyData.weightAll ps ≤ w
theorem log_small {n : Nat} (h : n ≤ 2000) : n.log2 < 11 := by
  by_cases e : n = 0
  · subst e; decide
  · exact (Nat.log2_lt e).mpr (by omega)
theorem pg_int {i : Int} (h0 : 0 ≤ i) (h1 : i ≤ 2000) : Pg (.int i) 0 12 := by
  have hn : i.natAbs ≤ 2000 := by omega
  have hl := log_small hn
  refine ⟨?_, ?_, ?_, ?_, ?_⟩
  · simp only [PyData.showable, decide_eq_true_eq]; omega
  · simp only [PyData.hasDict]
  · simp only [PyData.depth]; omega
  · simp only [PyData.leavesShort, decide_eq_true_eq]
    exact PyData.shown_int_le (by omega)
  · simp only [PyData.weight]
    split <;> omega
theorem pgl_nil {k : Nat} : PgL [] k 0 := ⟨by simp only [PyData.showableAll], by simp only [PyData.hasDictAll], by simp only [PyData.depthAll]; omega, by simp only [PyData.leavesShortAll], by simp only [PyData.weightAll]; omega⟩
theorem pgl_cons {p : PyData} {ps : List PyData} {k w w' : Nat} (a : Pg p k w) (b : PgL ps k w') : PgL (p :: ps) k (w + 1 + w') := by
  have := a.d
  have := b.d
  have := a.w
  have := b.w
  refine ⟨?_, ?_, ?_, ?_, ?_⟩
  · simp only [PyData.showableAll, a.s, b.s, Bool.and_self]
  · simp only [PyData.hasDictAll, a.h, b.h, Bool.or_self]
  · simp only [PyData.depthAll]; omega
  · simp only [PyData.leavesShortAll, a.l, b.l, Bool.and_self]
  · simp only [PyData.weightAll]; omega
theorem pg_tup {ps : List PyData} {k w : Nat} (h : PgL ps k w) : Pg (.tuple ps) (k + 1) w := by
  have := h.d
  have := h.w
  refine ⟨?_, ?_, ?_, ?_, ?_⟩
  · simp only [PyData.showable]; exact h.s
  · simp only [PyData.hasDict]; exact h.h
  · simp only [PyData.depth]; omega
  · simp only [PyData.leavesShort]; exact h.l
  · simp only [PyData.weight]; omega
theorem Pg.mono {p : PyData} {k k' w w' : Nat} (h : Pg p k w) (a : k ≤ k') (b : w ≤ w') : Pg p k' w' := ⟨h.s, h.h, Nat.le_trans h.d a, h.l, Nat.le_trans h.w b⟩
def Dg (d : D) (k w : Nat) : Prop := ∃ p, toP d = some p ∧ Pg p k w
def DgL (l : List D) (k w : Nat) : Prop := ∃ ps, toPs l = some ps ∧ PgL ps k w
theorem dg_int {i : Int} {k : Nat} (h0 : 0 ≤ i) (h1 : i ≤ 2000) : Dg (.int i) k 12 := ⟨_, by rw [toP], (pg_int h0 h1).mono (Nat.zero_le _) (Nat.le_refl _)⟩
theorem dgl_nil {k : Nat} : DgL [] k 0 := ⟨_, by rw [toPs], pgl_nil⟩
theorem dgl_cons {d : D} {l : List D} {k w w' : Nat} (a : Dg d k w) (b : DgL l k w') : DgL (d :: l) k (w + 1 + w') := by
  obtain ⟨p, e, h⟩ := a
  obtain ⟨ps, e2, h2⟩ := b
  exact ⟨p :: ps, by rw [toPs, e, e2]; rfl, pgl_cons h h2⟩
theorem dg_tup {l : List D} {k w : Nat} (h : DgL l k w) : Dg (.tup l) (k + 1) w := by
  obtain ⟨ps, e, h⟩ := h
  exact ⟨.tuple ps, by rw [toP, e]; rfl, pg_tup h⟩
theorem Dg.mono {d : D} {k k' w w' : Nat} (h : Dg d k w) (a : k ≤ k') (b : w ≤ w') : Dg d k' w' := let ⟨p, e, q⟩ := h; ⟨p, e, q.mono a b⟩
theorem dgl_all {k w : Nat} : ∀ l : List D, (∀ d ∈ l, Dg d k w) → DgL l k (l.length * (w + 1))
  | [], _ => by rw [List.length_nil, Nat.zero_mul]; exact dgl_nil
  | d :: l, h => by
    have := dgl_cons (h d List.mem_cons_self) (dgl_all l fun x hx => h x (List.mem_cons_of_mem _ hx))
    rw [List.length_cons, Nat.add_mul, Nat.one_mul, Nat.add_comm]
    exact this
theorem dg_way {wy : Way} (h : wy.Ok) (hs : wy.slots.length ≤ 10) (hr : wy.reach ≤ 2000) : Dg (dWay wy) 2 500 := by
  have w0 := h.w0
  have w1 := h.w1
  have r0 := h.r0
  have a := dgl_all (k := 0) (w := 12) (wy.slots.map D.int) (fun d hd => by
    obtain ⟨s, hs, rfl⟩ := List.mem_map.mp hd
    have := h.sl s hs
    exact dg_int (by omega) (by omega))
  rw [List.length_map] at a
  refine (dg_tup (dgl_cons (dg_int (k := 1) (by omega) (by omega)) (dgl_cons (dg_tup a) (dgl_cons (dg_int (k := 1) (by omega) hr) (dgl_cons (dg_int (k := 1) (by omega) (by omega)) dgl_nil))))).mono (Nat.le_refl _) ?_
  omega
theorem dg_cal {c : Cal} {ws : List Int} {lanes pieces : Int} (h : c.In ws lanes pieces) (hl : lanes ≤ 10) : Dg (dCal c) 3 2000 := by
  have a0 := dg_way (h.ok.w false) (by have := (h.w false).2; omega) (h.r false)
  have a1 := dg_way (h.ok.w true) (by have := (h.w true).2; omega) (h.r true)
  have p0 : 0 < c.p0 ∧ c.p0 ≤ 1000 := h.ok.p false
  have p1 : 0 < c.p1 ∧ c.p1 ≤ 1000 := h.ok.p true
  have o := h.ok.o
  have o1 := h.o
  have t0 := h.t0
  have t1 := h.t1
  refine (dg_tup (dgl_cons a0 (dgl_cons a1 (dgl_cons (dg_int (by omega) (by omega)) (dgl_cons (dg_int (by omega) (by omega)) (dgl_cons (dg_int (by omega) o1) (dgl_cons (dg_int t0 t1) dgl_nil))))))).mono (Nat.le_refl _) ?_
  omega
theorem dg_des {d : Des} {ws : List Int} {lanes pieces : Int} (hd : d.Ok) (h : ∀ c ∈ d.cals, c.In ws lanes pieces) (hl : lanes ≤ 10) (hn : d.cals.length ≤ 10) : Dg (dDes d) 5 30000 := by
  have r0 := hd.r0
  have r1 := hd.r1
  have a := dgl_all (k := 3) (w := 2000) (d.cals.map dCal) (fun x hx => by
    obtain ⟨c, hc, rfl⟩ := List.mem_map.mp hx
    exact dg_cal (h c hc) hl)
  rw [List.length_map] at a
  refine (dg_tup (dgl_cons (dg_int (k := 4) (by omega) (by omega)) (dgl_cons (dg_tup a) dgl_nil))).mono (Nat.le_refl _) ?_
  omega
theorem dg_bnd {b : Bnd} {f : Int} (h : b.In f) (hf : f ≤ 2000) : Dg (dBnd b) 1 100 := by
  have a1 := h.lo
  have a2 := h.hi
  have a3 := h.low
  have a4 := h.high
  have a5 := h.f0
  have a6 := h.f1
  exact (dg_tup (dgl_cons (dg_int (by omega) h.lo1) (dgl_cons (dg_int (by omega) h.hi1) (dgl_cons (dg_int (by omega) h.low1) (dgl_cons (dg_int (by omega) h.high1) (dgl_cons (dg_int (by omega) (by omega)) (dgl_cons (dg_int h.ex0 h.ex1) dgl_nil))))))).mono (Nat.le_refl _) (by omega)
theorem dg_bnds {bs : List Bnd} {f : Int} (h : ∀ b ∈ bs, b.In f) (hf : f ≤ 2000) (hn : bs.length ≤ 10) : Dg (dBnds bs) 2 2000 := by
  have a := dgl_all (k := 1) (w := 100) (bs.map dBnd) (fun x hx => by
    obtain ⟨c, hc, rfl⟩ := List.mem_map.mp hx
    exact dg_bnd (h c hc) hf)
  rw [List.length_map] at a
  exact (dg_tup a).mono (Nat.le_refl _) (by omega)
/-- what repr([design, bounds]) wants -/
theorem repr_fits {d : Des} {bs : List Bnd} {ws : List Int} {lanes pieces f : Int} (hd : d.Ok) (h : ∀ c ∈ d.cals, c.In ws lanes pieces) (hl : lanes ≤ 10) (hn : d.cals.length ≤ 10) (hb : ∀ b ∈ bs, b.In f) (hf : f ≤ 2000) (hm : bs.length ≤ 10) :
    ∃ ps, toPs [dDes d, dBnds bs] = some ps ∧ (PyData.list ps).showable = true ∧ (PyData.list ps).hasDict = false ∧ (PyData.list ps).depth ≤ 60 ∧ (PyData.list ps).shown.length ≤ sizeLine := by
  obtain ⟨ps, e, q⟩ := dgl_cons ((dg_des hd h hl hn).mono (k' := 5) (Nat.le_refl _) (Nat.le_refl _)) (dgl_cons ((dg_bnds hb hf hm).mono (k' := 5) (by omega) (Nat.le_refl _)) dgl_nil)
  have q2 := q.d
  have q3 := q.w
  refine ⟨ps, e, ?_, ?_, ?_, ?_⟩
  · simp only [PyData.showable]; exact q.s
  · simp only [PyData.hasDict]; exact q.h
  · simp only [PyData.depth]; omega
  · refine PyData.shown_fits (B := 13) (by decide) (by decide) ?_ ?_
    · simp only [PyData.leavesShort]; exact q.l
    · simp only [PyData.weight]
      have : (2 : Nat) ^ 20 = 1048576 := by decide
      omega
end K81

set_option Elab.async false
set_option linter.all false
set_option maxRecDepth 100000
set_option maxHeartbeats 4000000
/-! Mh: the calls by keywords, in the order back to front. -/
namespace K81
open PySem PySem.Spec PyProof.Rows L2 DL
theorem vals_rev : ∀ {vs : List V} {us : List Value}, Vals vs us → Vals vs.reverse us.reverse
  | _, _, .nil => .nil
  | _, _, .cons r t => by
    rw [List.reverse_cons, List.reverse_cons]
    exact (vals_rev t).append (.cons r .nil)
theorem isl_rev {H : Hp} : ∀ {ds : List D} {vs : List V}, IsL H ds vs → IsL H ds.reverse vs.reverse
  | _, _, .nil => .nil
  | _, _, .cons r t => by
    rw [List.reverse_cons, List.reverse_cons]
    exact (isl_rev t).append (.cons r .nil)
section
variable {P : Program} {w : World} {K : PySem.W.Frag} {mg : Str → Option Value} {base : Heap}
theorem Ct.kdf (C : Ct K mg base) (i j : Nat) {x : Str} {d : He.DefD} {k : Nat} {ps ks : List Str} {sp : DSp} (hd : d.at_ = (x, none)) (h1 : d.dvs K = []) (h2 : d.kws K = [])
    (b : ∀ (kV doc pm : Value) (an : Option Addr) (cdv ct : Value) (ws : List Value), ws.length = ks.length → bindArgs (PySem.W.fnOf d.name d.qual d.params d.body d.scope .none kV doc pm an cdv ct) ⟨[], ks.zip ws⟩ = pure (ps.zip ws.reverse))
    (ok : ∀ f fd, FunD K d.name d.qual d.params d.body d.scope [] [] f fd → FnOk P w K mg base CX0 k f fd ps (lift sp)) (hi : Hd.fn[i]? = some d := by rfl) (hj : Hd.fa[j]? = some (.glo x) := by rfl) : KDefOk P w K mg base CX0 k x ps ks List.reverse sp := by
  obtain ⟨fd, F⟩ := C.c.def_ i hi
  rw [hd, h1, h2] at F
  refine ⟨_, fd, fun _ ws => ws.reverse, fun _ vs => vs.reverse, He.glo_ok C.X C.G (C.c.fact j hj), F.kp, ⟨fun s us ws X l1 l2 => ?_, fun r1 r2 => vals_rev r2⟩, ok _ fd F, fun H ds vs _ r => isl_rev r⟩
  obtain ⟨oc, od, dV, kV, doc, pm, an, cdv, ct, osl, rfl, lk, hcd, hD, hK⟩ := F.ex
  obtain rfl := List.length_eq_zero_iff.mp l1
  rcases hD with ⟨_, rfl⟩ | ⟨e, _⟩
  · exact .of_eq (b kV doc pm an cdv ct ws l2)
  · exact absurd rfl e
theorem kw_latest (C : Ct K mg base) : KDefOk P w K mg base CX0 7 "latest" ["design", "bounds", "made", "budget"] ["budget", "made", "bounds", "design"] List.reverse sp_latest :=
  C.kdf 8 8 (d := Hd.d_latest) rfl rfl rfl (fun _ _ _ _ _ _ ws hl => match ws, hl with | [_, _, _, _], _ => rfl) fun f fd F => fn_latest C F
theorem kw_stair_within (C : Ct K mg base) : KDefOk P w K mg base CX0 6 "stair_within" ["design", "bounds", "caller", "many", "budget"] ["budget", "many", "caller", "bounds", "design"] List.reverse sp_stair_within :=
  C.kdf 11 11 (d := Hd.d_stair_within) rfl rfl rfl (fun _ _ _ _ _ _ ws hl => match ws, hl with | [_, _, _, _, _], _ => rfl) fun f fd F => fn_stair_within C F
end
end K81

set_option Elab.async false
set_option linter.all false
set_option maxRecDepth 100000
set_option maxHeartbeats 4000000
/-! N1: the law's own def walked. -/
namespace K81
open PySem PySem.Spec PyProof.Rows L2 DL
section
variable {P : Program} {w : World} {K : PySem.W.Frag} {mg : Str → Option Value} {base : Heap}
theorem b_neS {M : Mem} {P : PD} {i j : Str} (k : P (.bl (!decide (i = j))) M) : BNe (.str i) (.str j) M P := k
def dTs (mss : List (List Int)) : List D := mss.map fun ts => D.tup (ts.map D.int)
def dueD (d : Des) (bs : List Bnd) (B : Int) (mss : List (List Int)) : D := .tup ((List.range mss.length).map (latD d bs B mss))
theorem deep_ints {n : Nat} {l : List Int} (h : l.length ≤ 1000000) : deep (n + 1) (.tup (l.map D.int)) := .inr ⟨_, rfl, by rw [List.length_map]; exact h, fun x hx => by
  obtain ⟨i, _, rfl⟩ := List.mem_map.mp hx
  cases n with
  | zero => exact .int i
  | succ n => exact .inl (.int i)⟩
theorem deep_lat {d : Des} {bs : List Bnd} {B : Int} {mss : List (List Int)} {k : Nat} (h : ∀ ts ∈ mss, ts.length ≤ 1000000) : deep 2 (latD d bs B mss k) := by
  unfold latD
  split
  · rename_i c b ts e1 e2 e3
    have hl := h ts (List.mem_of_getElem? e3)
    have hr := runC_len (o := opsL c b) (round := d.round) (c := c) (ahead := 0) (ts.map (rep B))
    rw [List.length_map] at hr
    have q : ∀ xss : List (List Int), xss.length = ts.length → deep 1 (col B xss) := fun xss e => .inr ⟨_, rfl, by rw [List.length_map]; omega, fun x hx => by
      obtain ⟨i, _, rfl⟩ := List.mem_map.mp hx
      exact .int _⟩
    refine .inr ⟨_, rfl, by simp, fun x hx => ?_⟩
    simp only [List.mem_cons, List.not_mem_nil, or_false] at hx
    rcases hx with rfl | rfl | rfl
    · exact q _ hr.1
    · exact q _ hr.2.1
    · exact q _ hr.2.2.1
  · exact .inl .non
theorem deep_due {d : Des} {bs : List Bnd} {B : Int} {mss : List (List Int)} (h : ∀ ts ∈ mss, ts.length ≤ 1000000) (hm : mss.length ≤ 1000000) : deep 3 (dueD d bs B mss) := .inr ⟨_, rfl, by rw [List.length_map, List.length_range]; exact hm, fun x hx => by
  obtain ⟨k, _, rfl⟩ := List.mem_map.mp hx
  exact deep_lat h⟩
theorem sc_law : FnScope ["script", "bag", "pieces", "design", "one", "due", "slow", "k", "caller", "bounds", "budget", "kept", "made", "line", "tick", "many"] ["script"] (defScope (Hd.topS 39)) := ⟨rfl, rfl, rfl, by decide +kernel, rfl, by decide +kernel, by decide +kernel⟩
/-- what holds of the drawn data -/
structure Good (d : Des) (bs : List Bnd) (pc : Int) : Prop where
  dk : d.Ok
  r : d.round ≤ 4
  ck : ∀ c ∈ d.cals, c.In [1, 2, 3, 4] 2 pc
  l0 : 0 < d.cals.length
  l1 : d.cals.length ≤ 2
  lb : bs.length = d.cals.length
  bk : ∀ b ∈ bs, b.In 2
/-- ticks: as many that the deals stay few -/
structure Tk (d : Des) (mss : List (List Int)) : Prop where
  t : ∀ (k : Nat) (ts : List Int), mss[k]? = some ts → (∀ t ∈ ts, 0 ≤ t) ∧ ts.length ≤ 3
  m : ∀ (k : Nat) (ts : List Int) (c : Cal), mss[k]? = some ts → d.cals[k]? = some c → (ts.length : Int) * (c.p0 + c.p1) ≤ 6
/-- the slow line is the latest at budget 30 -/
theorem lat_slowD {d : Des} {c : Cal} {bs : List Bnd} {b : Bnd} {mss : List (List Int)} {ts : List Int} {B : Int} {k : Nat} (hd : d.Ok) (hc : c.Ok) (hf : 0 ≤ b.fails) (hB : 0 ≤ B) (h1 : d.cals[k]? = some c) (h2 : bs[k]? = some b) (h3 : mss[k]? = some ts)
    (hs : (ts.length : Int) * (c.p0 + c.p1) * b.fails ≤ B) : latD d bs B mss k = .tup [.tup ((runC (opsI c b (F0 slow b)) d.round c 0 ts).begun.map D.int), .tup ((runC (opsI c b (F0 slow b)) d.round c 0 ts).done.map D.int), .tup ((runC (opsI c b (F0 slow b)) d.round c 0 ts).heard.map D.int)] := by
  have hp0 := (hc.p false).1
  have hp1 := (hc.p true).1
  have e0 : c.per false = c.p0 := rfl
  have e1 : c.per true = c.p1 := rfl
  rw [e0] at hp0
  rw [e1] at hp1
  have hnn : 0 ≤ (ts.length : Int) * (c.p0 + c.p1) := Int.mul_nonneg (by omega) (by omega)
  have eF : F0 slow b = fun _ _ => b.fails := by unfold F0; rw [if_pos rfl]
  have hl := fun k => lat_slow (N := ((ts.length : Int) * (c.p0 + c.p1)).toNat) hd hc hf hB (Int.toNat_of_nonneg hnn) (by rw [Int.toNat_of_nonneg hnn]; exact hs) k
  unfold latD
  rw [h1, h2, h3, eF]
  have q : ∀ xss : List (List Int), col B xss = .tup ((xss.map fun xs => xs.getD B.toNat 0).map D.int) := fun xss => by
    unfold col
    rw [List.map_map]
    rfl
  show D.tup [col B _, col B _, col B _] = _
  rw [q, q, q]
  have a0 := hl 0
  have a1 := hl 1
  have a2 := hl 2
  show D.tup [.tup (((part3 (runC (opsL c b) d.round c 0 (ts.map (rep B))) 0).map fun xs => xs.getD B.toNat 0).map D.int), .tup (((part3 (runC (opsL c b) d.round c 0 (ts.map (rep B))) 1).map fun xs => xs.getD B.toNat 0).map D.int), .tup (((part3 (runC (opsL c b) d.round c 0 (ts.map (rep B))) 2).map fun xs => xs.getD B.toNat 0).map D.int)] = _
  rw [a0, a1, a2]
  rfl
theorem law_ok (C : Ct K mg base) {f : Addr} {fd : FuncData} (F : FunD K Hd.d_law.name Hd.d_law.qual Hd.d_law.params Hd.d_law.body Hd.d_law.scope [] [] f fd) : LawFn P w K mg base f fd "script" (fun vs H Q _ => ∃ v, vs = [v] ∧ spLaw K 63 v H Q) := by
  refine law_fn (k := 8) F sc_law ⟨rfl, by decide +kernel, by decide +kernel⟩ fun cdv s H E dsc ns hr hgd hsc hns => ?_
  have sc := sc_law
  have hun := hr.un
  refine wss_cons ?_
  refine ws_set 1 sc.nd ?_
  refine we_call (ok_law_start C) hr ?_
  refine wa_cons ?_
  refine we_var 0 rfl ?_
  refine wa_nil ?_
  refine ⟨dsc, ns, rfl, hsc, hns, fun B M1 _ _ hB1 => ?_⟩
  refine wss_cons ?_
  refine ws_set 2 sc.nd ?_
  refine we_bin od_add ?_
  refine we_int ?_
  refine we_callT cd_int (C.fr 65) ?_
  refine wa_cons ?_
  refine we_cmp od_eq ?_
  refine we_call (ok_law_draw C) hr ?_
  refine wa_cons ?_
  refine we_var 1 rfl ?_
  refine wa_cons ?_
  refine we_int ?_
  refine wa_nil ?_
  refine ⟨B, 3, rfl, hB1, by omega, by omega, fun v2 M2 _ _ hB2 e2 => ?_⟩
  refine we_int ?_
  refine b_eqI ?_
  refine wa_nil ?_
  refine c_intB ?_
  refine b_addI ?_
  have hpc : 1 ≤ 1 + (if decide (v2 = 0) = true then (1 : Int) else 0) ∧ 1 + (if decide (v2 = 0) = true then (1 : Int) else 0) ≤ 2 := by split <;> omega
  generalize 1 + (if decide (v2 = 0) = true then (1 : Int) else 0) = pc at hpc ⊢
  refine wss_cons ?_
  refine ws_set 3 sc.nd ?_
  refine we_call (ok_law_design C) hr ?_
  refine wa_cons ?_
  refine we_var 1 rfl ?_
  refine wa_cons ?_
  refine we_int ?_
  refine wa_cons ?_
  refine we_lst ?_
  refine wa_cons ?_
  refine we_int ?_
  refine wa_cons ?_
  refine we_int ?_
  refine wa_cons ?_
  refine we_int ?_
  refine wa_cons ?_
  refine we_int ?_
  refine wa_nil ?_
  refine ⟨size_ok (by simp), fun pa hpa => ?_⟩
  refine wa_cons ?_
  refine we_lst ?_
  refine wa_cons ?_
  refine we_int ?_
  refine wa_cons ?_
  refine we_int ?_
  refine wa_cons ?_
  refine we_int ?_
  refine wa_cons ?_
  refine we_int ?_
  refine wa_nil ?_
  refine ⟨size_ok (by simp), fun pb hpb => ?_⟩
  refine wa_cons ?_
  refine we_int ?_
  refine wa_cons ?_
  refine we_var 2 rfl ?_
  refine wa_nil ?_
  have hB2b : Bag (put M2 pa (.lst [.int 1, .int 2, .int 3, .int 4])) B := hB2.put hB2 hpa
  have npa := hB2.ne hpa
  have npb := hB2b.ne hpb
  refine ⟨B, pa, pb, [1, 2, 3, 4], [1, 2, 3, 4], 2, 2, pc, 4, rfl, hB2b.put hB2b hpb, fun e => npa (by simp [e]), fun e => npb (by simp [e]), (put_ne (nn put_same hpb)).trans put_same, put_same, by simp, by simp, by simp, by simp, by omega, by decide, by decide, by omega, by omega, by omega, by omega, by omega, by omega, fun d M5 hd hdT hdc hd0 hd1 hB5 f5 => ?_⟩
  refine wss_cons ?_
  refine ws_asg ?_
  refine we_tup ?_
  refine wa_cons ?_
  refine we_call (ok_law_bounds C) hr ?_
  refine wa_cons ?_
  refine we_var 1 rfl ?_
  refine wa_cons ?_
  refine we_var 3 rfl ?_
  refine wa_cons ?_
  refine we_int ?_
  refine wa_cons ?_
  refine we_int ?_
  refine wa_nil ?_
  refine ⟨B, d, 4, 2, rfl, hB5, by omega, by omega, by omega, by omega, by omega, fun bs M6 lb hbs hB6 f6 => ?_⟩
  refine wa_cons ?_
  refine we_call (ok_law_pick C) hr ?_
  refine wa_cons ?_
  refine we_var 1 rfl ?_
  refine wa_cons ?_
  refine we_lst ?_
  refine wa_cons ?_
  refine we_int ?_
  refine wa_cons ?_
  refine we_int ?_
  refine wa_cons ?_
  refine we_int ?_
  refine wa_cons ?_
  refine we_int ?_
  refine wa_cons ?_
  refine we_int ?_
  refine wa_cons ?_
  refine we_int ?_
  refine wa_cons ?_
  refine we_int ?_
  refine wa_cons ?_
  refine we_int ?_
  refine wa_cons ?_
  refine we_int ?_
  refine wa_cons ?_
  refine we_int ?_
  refine wa_nil ?_
  refine ⟨size_ok (by simp), fun pp hpp => ?_⟩
  refine wa_nil ?_
  have npp := hB6.ne hpp
  refine ⟨B, pp, [0, 1, 2, 3, 4, 5, 7, 9, 11, 30], rfl, hB6.put hB6 hpp, fun e => npp (by simp [e]), put_same, by simp, by simp, fun bud M7 hbud hB7 f7 => ?_⟩
  have hbu : ∀ x ∈ [(0 : Int), 1, 2, 3, 4, 5, 7, 9, 11, 30], 0 ≤ x ∧ x ≤ 30 := by decide
  have hb0 := hbu bud hbud
  have G : Good d bs pc := ⟨hd, hdT, hdc, hd0, by omega, lb, hbs⟩
  refine wa_nil ?_
  refine ⟨size_ok (by simp), ?_⟩
  refine wg_tup rfl rfl ?_
  refine wgs_cons ?_
  refine wg_name 9 sc.nd ?_
  refine wgs_cons ?_
  refine wg_name 10 sc.nd ?_
  refine wgs_nil ?_
  refine wss_cons ?_
  refine ws_asg ?_
  refine we_tup ?_
  refine wa_cons ?_
  refine we_callB (cd_repr hgd (by omega)) (C.fr 72) ?_
  refine wa_cons ?_
  refine we_lst ?_
  refine wa_cons ?_
  refine we_var 3 rfl ?_
  refine wa_cons ?_
  refine we_var 9 rfl ?_
  refine wa_nil ?_
  refine ⟨size_ok (by simp), fun pr hpr => ?_⟩
  refine wa_nil ?_
  obtain ⟨ps, eps, q1, q2, q3, q4⟩ := repr_fits hd hdc (by omega) (by omega) hbs (by omega) (by omega)
  refine ⟨pr, _, ps, rfl, put_same, eps, q1, q2, q3, q4, ?_⟩
  refine wa_cons ?_
  refine we_lst ?_
  refine wa_nil ?_
  refine ⟨size_ok (by simp), fun pm hpm => ?_⟩
  refine wa_nil ?_
  refine ⟨size_ok (by simp), ?_⟩
  refine wg_tup rfl rfl ?_
  refine wgs_cons ?_
  refine wg_name 11 sc.nd ?_
  refine wgs_cons ?_
  refine wg_name 12 sc.nd ?_
  refine wgs_nil ?_
  have hB8 : Bag (put M7 pr (.lst [dDes d, dBnds bs])) B := hB7.put hB7 hpr
  have npm := hB8.ne hpm
  have hB9 : Bag (put (put M7 pr (.lst [dDes d, dBnds bs])) pm (.lst [])) B := hB8.put hB8 hpm
  have em9 : (put (put M7 pr (.lst [dDes d, dBnds bs])) pm (.lst [])) pm = some (.lst (dTs [])) := put_same
  show WSs _ _ _ (put (put M7 pr (.lst [dDes d, dBnds bs])) pm (.lst [])) _
  generalize put (put M7 pr (.lst [dDes d, dBnds bs])) pm (.lst []) = M9 at hB9 em9 ⊢
  refine wss_cons ?_
  refine ws_for PassesOwn.never rfl ?_
  refine wi_tup ?_
  refine we_sub ?_
  refine we_var 3 rfl ?_
  refine we_int ?_
  refine i_tup rfl ?_
  refine ⟨_, rfl, ?_⟩
  refine ⟨fun i (Γ' : Sl) (M' : Mem) => (∃ x4, Γ' = [some dsc, some (D.ref B.b), some (D.int pc), some (dDes d), x4, none, none, none, none, some (dBnds bs), some (D.int bud), some (D.str (PyData.list ps).shown), some (D.ref pm), none, none, none]) ∧ Bag M' B ∧ ∃ mss : List (List Int), M' pm = some (.lst (dTs mss)) ∧ mss.length = i ∧ Tk d mss, ⟨⟨_, rfl⟩, hB9, [], em9, rfl, ⟨fun k ts e => (by rw [List.getElem?_nil] at e; cases e), fun k ts c e => (by rw [List.getElem?_nil] at e; cases e)⟩⟩, fun _ _ _ _ _ => trivial, ?_, ?_⟩
  · rintro i dd _ M10 hdd ⟨⟨x4, rfl⟩, hB10, mss, em, lm, tk⟩
    rw [List.getElem?_map] at hdd
    cases ec : d.cals[i]? with
    | none => rw [ec] at hdd; cases hdd
    | some c =>
      rw [ec] at hdd
      cases hdd
      have hcI := hdc c (List.mem_of_getElem? ec)
      have p0 : 0 < c.p0 ∧ c.p0 ≤ 1000 := hcI.ok.p false
      have p1 : 0 < c.p1 ∧ c.p1 ≤ 1000 := hcI.ok.p true
      have q0 : c.p0 ≤ pc := hcI.p false
      have q1' : c.p1 ≤ pc := hcI.p true
      refine wg_name 4 sc.nd ?_
      refine wss_one ?_
      refine ws_expr ?_
      refine we_append ?_
      refine we_var 12 rfl ?_
      refine ⟨_, _, rfl, em, ?_⟩
      refine we_call (ok_law_ticks C) hr ?_
      refine wa_cons ?_
      refine we_var 1 rfl ?_
      refine wa_cons ?_
      refine we_call (ok_law_draw C) hr ?_
      refine wa_cons ?_
      refine we_var 1 rfl ?_
      refine wa_cons ?_
      refine we_bin od_add ?_
      refine we_int ?_
      refine we_callB (cd_min rfl) (C.fr 70) ?_
      refine wa_cons ?_
      refine we_int ?_
      refine wa_cons ?_
      refine we_bin od_div ?_
      refine we_int ?_
      refine we_bin od_add ?_
      refine we_sub ?_
      refine we_var 4 rfl ?_
      refine we_int ?_
      refine i_tup rfl ?_
      refine we_sub ?_
      refine we_var 4 rfl ?_
      refine we_int ?_
      refine i_tup rfl ?_
      refine b_addI ?_
      refine b_i (C := CDiv) (g := fun i j => i / j) ⟨by omega, by omega⟩ ?_
      refine wa_nil ?_
      refine c_min ?_
      refine b_addI ?_
      refine wa_nil ?_
      have hq : c.p0 + c.p1 = 2 ∨ c.p0 + c.p1 = 3 ∨ c.p0 + c.p1 = 4 := by omega
      have hlim : 1 ≤ 6 / (c.p0 + c.p1) ∧ 6 / (c.p0 + c.p1) ≤ 3 ∧ ∀ v : Int, 0 ≤ v → v ≤ 6 / (c.p0 + c.p1) → v * (c.p0 + c.p1) ≤ 6 := by
        rcases hq with e | e | e <;> rw [e] <;> refine ⟨by decide, by decide, fun v _ hv => ?_⟩ <;> omega
      refine ⟨B, _, rfl, hB10, by omega, by omega, fun v M11 v0 v1 hB11 e11 => ?_⟩
      refine wa_cons ?_
      refine we_int ?_
      refine wa_nil ?_
      have npb : pm ≠ B.b := fun e => npm (by simp [e])
      refine ⟨B, v, 8, rfl, hB11, v0, by omega, by omega, by omega, fun ts M12 hts1 hts2 hB12 f12 => ?_⟩
      refine ⟨_, f12 _ _ npb ((e11 _ npb).trans em), by unfold dTs; rw [List.length_map, sizeLine_eq]; have := (List.getElem?_eq_some_iff.mp ec).1; omega, ?_⟩
      refine ⟨⟨_, rfl⟩, hB12.put2 npm, mss ++ [ts], by rw [put_same]; unfold dTs; rw [List.map_append]; rfl, by rw [List.length_append, lm]; rfl, ⟨fun k ts' e => ?_, fun k ts' c' e ec' => ?_⟩⟩
      · by_cases hk : k < mss.length
        · rw [List.getElem?_append_left hk] at e
          exact tk.t k ts' e
        · rw [List.getElem?_append_right (by omega)] at e
          obtain ⟨_, rfl⟩ : k - mss.length = 0 ∧ ts = ts' := by
            cases h9 : k - mss.length with
            | zero => rw [h9] at e; exact ⟨rfl, by cases e; rfl⟩
            | succ z => rw [h9] at e; cases e
          exact ⟨hts2, by omega⟩
      · by_cases hk : k < mss.length
        · rw [List.getElem?_append_left hk] at e
          exact tk.m k ts' c' e ec'
        · rw [List.getElem?_append_right (by omega)] at e
          obtain ⟨hk0, rfl⟩ : k - mss.length = 0 ∧ ts = ts' := by
            cases h9 : k - mss.length with
            | zero => rw [h9] at e; exact ⟨rfl, by cases e; rfl⟩
            | succ z => rw [h9] at e; cases e
          obtain rfl : k = i := by omega
          rw [ec] at ec'
          cases ec'
          rw [hts1]
          exact hlim.2.2 v v0 (by omega)
  rintro _ M10 ⟨⟨x4, rfl⟩, hB10, mss, em, lm, tk⟩
  rw [List.length_map] at lm
  have lmm : mss.length ≤ 2 := by omega
  have lT : (dTs mss).length = mss.length := by unfold dTs; rw [List.length_map]
  have tAt : ∀ (k : Nat) (ts : List Int), mss[k]? = some ts → (dTs mss)[k]? = some (D.tup (ts.map D.int)) := fun k ts e => map_at e
  have getC : ∀ k : Nat, k < mss.length → ∃ ts c b, mss[k]? = some ts ∧ d.cals[k]? = some c ∧ bs[k]? = some b := fun k hk => ⟨_, _, _, List.getElem?_eq_getElem hk, List.getElem?_eq_getElem (by omega), List.getElem?_eq_getElem (by omega)⟩
  refine wss_cons ?_
  refine ws_set 5 sc.nd ?_
  refine we_callT cd_tuple (C.fr 75) ?_
  refine wa_cons ?_
  refine we_lcG (own := [("k", 7)]) rfl sc.nd (blkOk_by (own := [("k", 7)]) (N := ["script", "bag", "pieces", "design", "one", "due", "slow", "k", "caller", "bounds", "budget", "kept", "made", "line", "tick", "many"]) (sc := defScope (Hd.topS 39)) (by decide +kernel)) rfl gt_name (fun _ _ _ _ _ => pg_name (i := 7) sc.nd rfl (Or.inl rfl)) ?_
  refine wi_range1 (C.fr 71) ?_
  refine we_callB cd_len (C.fr 67) ?_
  refine wa_cons ?_
  refine we_var 12 rfl ?_
  refine wa_nil ?_
  refine c_len ⟨_, em, rfl⟩ ?_
  rw [lT]
  refine ⟨_, rfl, by omega, by omega, fun pd hpd => ?_⟩
  refine lcj_ix (latD d bs bud mss) hpd (by rw [rg1_len]; omega) (fun _ _ => trivial) (fun _ _ => trivial) ?_ ?_
  · intro k dd hdd l M3 su3 hq3 s H Ca cl fp
    obtain ⟨hk, rfl⟩ := rg1_at hdd
    obtain ⟨ts, c, b, et, ec, eb⟩ := getC k (by omega)
    refine we_call (ok_law_latest C) hr ?_
    refine wa_cons ?_
    refine we_var 3 rfl ?_
    refine wa_cons ?_
    refine we_var 9 rfl ?_
    refine wa_cons ?_
    refine we_var 7 rfl ?_
    refine wa_cons ?_
    refine we_sub ?_
    refine we_var 12 rfl ?_
    refine we_var 7 rfl ?_
    refine i_lst (su3 _ _ em) (atI_nat (tAt k ts et)) ?_
    refine wa_cons ?_
    refine we_var 10 rfl ?_
    refine wa_nil ?_
    have h1 := tk.t k ts et
    have h2 := tk.m k ts c et ec
    have hbI := hbs b (List.mem_of_getElem? eb)
    have hf := hbI.f0
    have hcI := hdc c (List.mem_of_getElem? ec)
    exact ⟨d, c, bs, b, k, ts, bud, rfl, ec, eb, hcI.ok, hd, hbI, hb0.1, by omega, h1.1, by omega, by omega, fun M4 g su4 eg => ⟨(lat_eq hd hcI.ok (by omega) hb0.1 ec eb et eg).symm, su4⟩⟩
  intro M13 su13 e13
  rw [rg1_len, Int.toNat_natCast] at e13
  refine wa_nil ?_
  refine c_tupL e13 ?_
  have hB13 := hB10.sub su13
  have em13 := su13 _ _ em
  show WSs _ _ [_, _, _, _, _, some (dueD d bs bud mss), _, _, _, _, _, _, _, _, _, _] _ _
  have hts3 : ∀ ts ∈ mss, ts.length ≤ 3 := fun ts h => by
    obtain ⟨k, e⟩ := List.getElem?_of_mem h
    exact (tk.t k ts e).2
  have hbO : ∀ b ∈ bs, b.Ok := fun b hb => ⟨by have := (hbs b hb).f0; omega, by have := (hbs b hb).f1; omega⟩
  refine wss_cons ?_
  refine ws_if ?_
  refine wt_not ?_
  refine wt_val ?_
  refine we_call (ok_law_same C 3) hr ?_
  refine wa_cons ?_
  refine we_call (ok_latest C) hr ?_
  refine wa_cons ?_
  refine we_var 3 rfl ?_
  refine wa_cons ?_
  refine we_var 9 rfl ?_
  refine wa_cons ?_
  refine we_callT cd_tuple (C.fr 75) ?_
  refine wa_cons ?_
  refine we_var 12 rfl ?_
  refine wa_nil ?_
  refine c_tupL em13 ?_
  refine wa_cons ?_
  refine we_var 10 rfl ?_
  refine wa_nil ?_
  refine ⟨d, bs, mss, bud, rfl, by omega, by omega, by omega, fun c hc => (hdc c hc).ok, hbO, hd, hb0.1, by omega, fun ts hts => by have := hts3 ts hts; omega, fun M14 su14 => ?_⟩
  refine wa_cons ?_
  refine we_var 5 rfl ?_
  refine wa_nil ?_
  refine ⟨dueD d bs bud mss, rfl, deep_due (fun ts h => by have := hts3 ts h; omega) (by omega), t_bl ⟨fun z => absurd z (by decide), fun _ => ?_⟩⟩
  refine wss_nil ?_
  have hB14 := hB13.sub su14
  have em14 := su14 _ _ em13
  refine wss_cons ?_
  refine ws_if ?_
  refine wt_not ?_
  refine wt_val ?_
  refine we_call (ok_law_same C 3) hr ?_
  refine wa_cons ?_
  refine we_callK (kw_latest C) hr ?_
  refine wk_cons ?_
  refine we_var 10 rfl ?_
  refine wk_cons ?_
  refine we_callT cd_tuple (C.fr 75) ?_
  refine wa_cons ?_
  refine we_var 12 rfl ?_
  refine wa_nil ?_
  refine c_tupL em14 ?_
  refine wk_cons ?_
  refine we_var 9 rfl ?_
  refine wk_cons ?_
  refine we_var 3 rfl ?_
  refine wk_nil ?_
  refine ⟨rfl, ?_⟩
  refine ⟨d, bs, mss, bud, rfl, by omega, by omega, by omega, fun c hc => (hdc c hc).ok, hbO, hd, hb0.1, by omega, fun ts hts => by have := hts3 ts hts; omega, fun M15 su15 => ?_⟩
  refine wa_cons ?_
  refine we_var 5 rfl ?_
  refine wa_nil ?_
  refine ⟨dueD d bs bud mss, rfl, deep_due (fun ts h => by have := hts3 ts h; omega) (by omega), t_bl ⟨fun z => absurd z (by decide), fun _ => ?_⟩⟩
  refine wss_nil ?_
  have hB15 := hB14.sub su15
  have em15 := su15 _ _ em14
  refine wss_cons ?_
  refine ws_set 6 sc.nd ?_
  refine we_lst ?_
  refine wa_nil ?_
  refine ⟨size_ok (by simp), fun pw hpw => ?_⟩
  have npw := hB15.ne hpw
  have nmw : pm ≠ pw := nn em15 hpw
  have hB16 : Bag (put M15 pw (.lst [])) B := hB15.put hB15 hpw
  have em16 : (put M15 pw (.lst [])) pm = some (.lst (dTs mss)) := (put_ne nmw).trans em15
  have ew16 : (put M15 pw (.lst [])) pw = some (.lst ((List.range 0).map (latD d bs 30 mss))) := put_same
  show WSs _ _ _ (put M15 pw (.lst [])) _
  generalize put M15 pw (.lst []) = M16 at hB16 em16 ew16 ⊢
  refine wss_cons ?_
  refine ws_for PassesOwn.never rfl ?_
  refine wi_range1 (C.fr 71) ?_
  refine we_callB cd_len (C.fr 67) ?_
  refine wa_cons ?_
  refine we_var 12 rfl ?_
  refine wa_nil ?_
  refine c_len ⟨_, em16, rfl⟩ ?_
  rw [lT]
  refine ⟨_, rfl, by omega, by omega, ?_⟩
  refine ⟨fun i (Γ' : Sl) (M' : Mem) => (∃ x4 x7 x13 x14, Γ' = [some dsc, some (D.ref B.b), some (D.int pc), some (dDes d), x4, some (dueD d bs bud mss), some (D.ref pw), x7, none, some (dBnds bs), some (D.int bud), some (D.str (PyData.list ps).shown), some (D.ref pm), x13, x14, none]) ∧ Bag M' B ∧ M' pm = some (.lst (dTs mss)) ∧ M' pw = some (.lst ((List.range i).map (latD d bs 30 mss))), ⟨⟨_, _, _, _, rfl⟩, hB16, em16, ew16⟩, fun _ _ _ _ _ => trivial, ?_, ?_⟩
  · rintro k dd _ M17 hdd ⟨⟨x4', x7, x13, x14, rfl⟩, hB17, em17, ew17⟩
    obtain ⟨hk, rfl⟩ := rg1_at hdd
    obtain ⟨ts, c, b, et, ec, eb⟩ := getC k (by omega)
    have h1 := tk.t k ts et
    have h2 := tk.m k ts c et ec
    have hbI := hbs b (List.mem_of_getElem? eb)
    have hf := hbI.f0
    have hf1 := hbI.f1
    have hcI := hdc c (List.mem_of_getElem? ec)
    have hc := hcI.ok
    refine wg_name 7 sc.nd ?_
    refine wss_cons ?_
    refine ws_set 13 sc.nd ?_
    refine we_call (ok_law_line C) hr ?_
    refine wa_cons ?_
    refine we_var 3 rfl ?_
    refine wa_cons ?_
    refine we_var 9 rfl ?_
    refine wa_cons ?_
    refine we_var 7 rfl ?_
    refine wa_cons ?_
    refine we_str ?_
    refine wa_cons ?_
    refine we_int ?_
    refine wa_nil ?_
    refine ⟨d, c, bs, b, k, slow, 0, rfl, ec, eb, .inl rfl, fun A M18 hA su18 hL => ?_⟩
    refine wss_cons ?_
    refine ws_for PassesOwn.never rfl ?_
    refine wi_tup ?_
    refine we_sub ?_
    refine we_var 12 rfl ?_
    refine we_var 7 rfl ?_
    refine i_lst (su18 _ _ em17) (atI_nat (tAt k ts et)) ?_
    refine ⟨_, rfl, ?_⟩
    refine ⟨fun j (Γ' : Sl) (M' : Mem) => (∃ x14, Γ' = [some dsc, some (D.ref B.b), some (D.int pc), some (dDes d), x4', some (dueD d bs bud mss), some (D.ref pw), some (D.int (k : Nat)), none, some (dBnds bs), some (D.int bud), some (D.str (PyData.list ps).shown), some (D.ref pm), some (D.ref (A 0)), x14, none]) ∧ Sub M17 M' ∧ LineAt M' A d c b slow 0 (F0 slow b) (runC (opsI c b (F0 slow b)) d.round c 0 (ts.take j)), ⟨⟨_, rfl⟩, su18, hL⟩, fun _ _ _ _ _ => trivial, ?_, ?_⟩
    · rintro j dd _ M19 hdd ⟨⟨x14', rfl⟩, su19, hL19⟩
      rw [List.getElem?_map] at hdd
      cases ett : ts[j]? with
      | none => rw [ett] at hdd; cases hdd
      | some t =>
        rw [ett] at hdd
        cases hdd
        have hl := runC_len (o := opsI c b (F0 slow b)) (round := d.round) (c := c) (ahead := 0) (ts.take j)
        have hlt := List.length_take_le' j ts
        refine wg_name 14 sc.nd ?_
        refine wss_one ?_
        refine ws_expr ?_
        refine we_call (ok_law_call C) hr ?_
        refine wa_cons ?_
        refine we_var 13 rfl ?_
        refine wa_cons ?_
        refine we_var 14 rfl ?_
        refine wa_nil ?_
        refine ⟨A, d, c, b, slow, 0, _, _, t, rfl, hL19, hc, hd, hbI.nn, h1.1 t (List.mem_of_getElem? ett), fun s n => ?_, by omega, by omega, by omega, fun s => ?_, fun M20 f20 hL20 => ?_⟩
        · show 0 ≤ (F0 slow b) s n
          unfold F0
          rw [if_pos rfl]
          omega
        · rw [hl.2.2.2 s]
          have h9 := hc.p s
          have := Nat.mul_le_mul (show (ts.take j).length ≤ 12 by omega) (show (c.per s).toNat ≤ 1000 by omega)
          omega
        · refine ⟨⟨_, rfl⟩, fun x u e => f20 x u (fun i' hi' z => by rw [z, hA i' (by omega)] at e; cases e) (su19 x u e), ?_⟩
          rw [List.take_add_one, ett]
          show LineAt M20 A d c b slow 0 (F0 slow b) (runC _ d.round c 0 (ts.take j ++ [t]))
          rw [runC_snoc]
          exact hL20
    rintro _ M19 ⟨⟨x14', rfl⟩, su19, hL19⟩
    rw [List.length_map, List.take_length] at hL19
    refine wss_one ?_
    refine ws_expr ?_
    refine we_append ?_
    refine we_var 6 rfl ?_
    refine ⟨_, _, rfl, su19 _ _ ew17, ?_⟩
    refine we_tup ?_
    refine wa_cons ?_
    refine we_callT cd_tuple (C.fr 75) ?_
    refine wa_cons ?_
    refine we_dget (hu_of hr) ?_
    refine we_var 13 rfl ?_
    refine we_str ?_
    refine ⟨_, _, rfl, .inl ⟨_, .inr "begun", hL19.o, rfl, rfl⟩, ?_⟩
    refine wa_nil ?_
    refine c_tupL hL19.bg ?_
    refine wa_cons ?_
    refine we_callT cd_tuple (C.fr 75) ?_
    refine wa_cons ?_
    refine we_dget (hu_of hr) ?_
    refine we_var 13 rfl ?_
    refine we_str ?_
    refine ⟨_, _, rfl, .inl ⟨_, .inr "done", hL19.o, rfl, rfl⟩, ?_⟩
    refine wa_nil ?_
    refine c_tupL hL19.dn ?_
    refine wa_cons ?_
    refine we_callT cd_tuple (C.fr 75) ?_
    refine wa_cons ?_
    refine we_dget (hu_of hr) ?_
    refine we_var 13 rfl ?_
    refine we_str ?_
    refine ⟨_, _, rfl, .inl ⟨_, .inr "heard", hL19.o, rfl, rfl⟩, ?_⟩
    refine wa_nil ?_
    refine c_tupL hL19.h ?_
    refine wa_nil ?_
    refine ⟨size_ok (by simp), ?_⟩
    have hmul : (ts.length : Int) * (c.p0 + c.p1) * b.fails ≤ 30 := by
      have hp : (ts.length : Int) * (c.p0 + c.p1) * b.fails ≤ 6 * b.fails := Int.mul_le_mul_of_nonneg_right h2 (by omega)
      omega
    refine ⟨_, su19 _ _ ew17, by rw [List.length_map, List.length_range, sizeLine_eq]; omega, ?_⟩
    refine ⟨⟨_, _, _, _, rfl⟩, (hB17.sub su19).put2 npw, (put_ne nmw).trans (su19 _ _ em17), ?_⟩
    rw [put_same, List.range_succ, List.map_append, ← lat_slowD hd hc (by omega) (by omega) ec eb et hmul]
    rfl
  rintro _ M17 ⟨⟨x4', x7, x13, x14, rfl⟩, hB17, em17, ew17⟩
  rw [rg1_len, Int.toNat_natCast] at ew17
  refine wss_cons ?_
  refine ws_if ?_
  refine wt_not ?_
  refine wt_val ?_
  refine we_call (ok_law_same C 3) hr ?_
  refine wa_cons ?_
  refine we_call (ok_latest C) hr ?_
  refine wa_cons ?_
  refine we_var 3 rfl ?_
  refine wa_cons ?_
  refine we_var 9 rfl ?_
  refine wa_cons ?_
  refine we_callT cd_tuple (C.fr 75) ?_
  refine wa_cons ?_
  refine we_var 12 rfl ?_
  refine wa_nil ?_
  refine c_tupL em17 ?_
  refine wa_cons ?_
  refine we_int ?_
  refine wa_nil ?_
  refine ⟨d, bs, mss, 30, rfl, by omega, by omega, by omega, fun c hc => (hdc c hc).ok, hbO, hd, by omega, by omega, fun ts hts => by have := hts3 ts hts; omega, fun M18 su18 => ?_⟩
  refine wa_cons ?_
  refine we_callT cd_tuple (C.fr 75) ?_
  refine wa_cons ?_
  refine we_var 6 rfl ?_
  refine wa_nil ?_
  refine c_tupL (su18 _ _ ew17) ?_
  refine wa_nil ?_
  refine ⟨dueD d bs 30 mss, rfl, deep_due (fun ts h => by have := hts3 ts h; omega) (by omega), t_bl ⟨fun z => absurd z (by decide), fun _ => ?_⟩⟩
  refine wss_nil ?_
  have hB18 := hB17.sub su18
  have em18 := su18 _ _ em17
  have npb : pm ≠ B.b := fun e => npm (by simp [e])
  refine wss_cons ?_
  refine ws_set 8 sc.nd ?_
  refine we_call (ok_law_draw C) hr ?_
  refine wa_cons ?_
  refine we_var 1 rfl ?_
  refine wa_cons ?_
  refine we_callB cd_len (C.fr 67) ?_
  refine wa_cons ?_
  refine we_var 12 rfl ?_
  refine wa_nil ?_
  refine c_len ⟨_, em18, rfl⟩ ?_
  rw [lT]
  refine wa_nil ?_
  refine ⟨B, _, rfl, hB18, by omega, by omega, fun v M19 v0 v1 hB19 e19 => ?_⟩
  obtain ⟨k, rfl⟩ := Int.eq_ofNat_of_zero_le v0
  obtain ⟨ts, c, b, et, ec, eb⟩ := getC k (by omega)
  have em19 := (e19 _ npb).trans em18
  have hbI := hbs b (List.mem_of_getElem? eb)
  have hf := hbI.f0
  have hcI := hdc c (List.mem_of_getElem? ec)
  have hc := hcI.ok
  have p0 : 0 < c.p0 ∧ c.p0 ≤ 1000 := hc.p false
  have p1 : 0 < c.p1 ∧ c.p1 ≤ 1000 := hc.p true
  have q0 : c.p0 ≤ pc := hcI.p false
  have q1' : c.p1 ≤ pc := hcI.p true
  refine wss_cons ?_
  refine ws_set 4 sc.nd ?_
  refine we_sub ?_
  refine we_sub ?_
  refine we_var 3 rfl ?_
  refine we_int ?_
  refine i_tup rfl ?_
  refine we_var 8 rfl ?_
  refine i_tup (atI_nat (map_at ec)) ?_
  refine wss_cons ?_
  refine ws_asg ?_
  refine we_tup ?_
  refine wa_cons ?_
  refine we_bin od_add ?_
  refine we_int ?_
  refine we_callT cd_int (C.fr 65) ?_
  refine wa_cons ?_
  refine WE.imp (P := fun dd M' => ∃ x : Bool, dd = .bl x ∧ Bag M' B ∧ M' pm = some (.lst (dTs mss)) ∧ (x = true → c.p0 + c.p1 = 2)) ?_ ?_
  · refine we_and ?_
    refine we_cmp od_eq ?_
    refine we_bin od_add ?_
    refine we_sub ?_
    refine we_var 4 rfl ?_
    refine we_int ?_
    refine i_tup rfl ?_
    refine we_sub ?_
    refine we_var 4 rfl ?_
    refine we_int ?_
    refine i_tup rfl ?_
    refine b_addI ?_
    refine we_int ?_
    refine b_eqI ?_
    refine ⟨_, rfl, fun hk => ?_, fun hk => ⟨_, rfl, hB19, em19, fun z => by cases z⟩⟩
    have e2 : c.p0 + c.p1 = 2 := of_decide_eq_true hk
    refine we_one ?_
    refine we_cmp od_eq ?_
    refine we_call (ok_law_draw C) hr ?_
    refine wa_cons ?_
    refine we_var 1 rfl ?_
    refine wa_cons ?_
    refine we_int ?_
    refine wa_nil ?_
    refine ⟨B, 2, rfl, hB19, by omega, by omega, fun v M20 _ _ hB20 e20 => ?_⟩
    refine we_int ?_
    refine b_eqI ?_
    exact ⟨_, rfl, hB20, (e20 _ npb).trans em19, fun _ => e2⟩
  rintro _ M20 ⟨x, rfl, hB20, em20, hx⟩
  refine wa_nil ?_
  refine c_intB ?_
  refine b_addI ?_
  have hmn : 1 ≤ 1 + (if x = true then (1 : Int) else 0) ∧ 1 + (if x = true then (1 : Int) else 0) ≤ 2 ∧ (1 + (if x = true then (1 : Int) else 0)) * (c.p0 + c.p1) ≤ 4 := by
    cases x with
    | true =>
      have := hx rfl
      refine ⟨by decide, by decide, ?_⟩
      show ((1 : Int) + 1) * (c.p0 + c.p1) ≤ 4
      omega
    | false =>
      refine ⟨by decide, by decide, ?_⟩
      show ((1 : Int) + 0) * (c.p0 + c.p1) ≤ 4
      omega
  generalize 1 + (if x = true then (1 : Int) else 0) = mn at hmn ⊢
  obtain ⟨n, rfl⟩ := Int.eq_ofNat_of_zero_le (show 0 ≤ mn by omega)
  refine wa_cons ?_
  refine we_callB (cd_min rfl) (C.fr 70) ?_
  refine wa_cons ?_
  refine we_int ?_
  refine wa_cons ?_
  refine we_var 10 rfl ?_
  refine wa_nil ?_
  refine c_min ?_
  have hbu8 : 0 ≤ min 8 bud ∧ min 8 bud ≤ 8 := by omega
  generalize min 8 bud = bu at hbu8 ⊢
  refine wa_nil ?_
  refine ⟨size_ok (by simp), ?_⟩
  refine wg_tup rfl rfl ?_
  refine wgs_cons ?_
  refine wg_name 15 sc.nd ?_
  refine wgs_cons ?_
  refine wg_name 10 sc.nd ?_
  refine wgs_nil ?_
  have hwl : ∀ s, 0 < (c.way s).wheel ∧ (c.way s).wheel ≤ 4 ∧ (c.way s).slots.length ≤ 2 := fun s => by
    have h1 := (hcI.w s).1
    have h2 := (hcI.w s).2
    simp only [List.mem_cons, List.not_mem_nil, or_false] at h1
    refine ⟨by omega, by omega, by omega⟩
  have hspan : spanOf d c ≤ 1000000 := by
    have h0 := hwl false
    have h1 := hwl true
    have e0 : c.way false = c.w0 := rfl
    have e1 : c.way true = c.w1 := rfl
    rw [e0] at h0
    rw [e1] at h1
    have hr4 := hdT
    unfold spanOf lcmL
    exact Nat.le_trans (lcmL_le _ 1 1 30 (Nat.le_refl _) fun m hm => by
      simp only [List.mem_cons, List.not_mem_nil, or_false] at hm
      rcases hm with rfl | rfl | rfl <;> omega) (show 1 * 30 ^ 3 ≤ 1000000 by decide)
  have hst : stair d c b bu n = lawStair d c b n bu := stair_eq hd hc (by omega) (by omega) (by omega)
  have hlen : (lawStair d c b n bu).length ≤ 1000000 := by
    rw [(lawStair_le (d := d) (c := c) (b := b) (B := bu) (z := 0) (show 0 < n by omega)).1]
    omega
  have hbk : b.Ok := hbO b (List.mem_of_getElem? eb)
  refine wss_cons ?_
  refine ws_set 5 sc.nd ?_
  refine we_call (ok_law_stair C) hr ?_
  refine wa_cons ?_
  refine we_var 3 rfl ?_
  refine wa_cons ?_
  refine we_var 9 rfl ?_
  refine wa_cons ?_
  refine we_var 8 rfl ?_
  refine wa_cons ?_
  refine we_var 15 rfl ?_
  refine wa_cons ?_
  refine we_var 10 rfl ?_
  refine wa_nil ?_
  refine ⟨d, c, bs, b, k, n, bu, rfl, ec, eb, hc, hd, hbI, by omega, by omega, by omega, by omega, by omega, fun s => by have := hwl s; omega, fun M21 su21 => ?_⟩
  refine wss_cons ?_
  refine ws_if ?_
  refine wt_ww ?_
  refine ww_or ?_
  refine wt_not ?_
  refine wt_val ?_
  refine we_call (ok_law_same C 2) hr ?_
  refine wa_cons ?_
  refine we_call (ok_stair_within C) hr ?_
  refine wa_cons ?_
  refine we_var 3 rfl ?_
  refine wa_cons ?_
  refine we_var 9 rfl ?_
  refine wa_cons ?_
  refine we_var 8 rfl ?_
  refine wa_cons ?_
  refine we_var 15 rfl ?_
  refine wa_cons ?_
  refine we_var 10 rfl ?_
  refine wa_nil ?_
  refine ⟨d, c, bs, b, k, n, bu, rfl, ec, eb, hc, hbk, hd, by omega, by omega, by omega, hspan, fun M22 su22 => ?_⟩
  rw [hst]
  refine wa_cons ?_
  refine we_var 5 rfl ?_
  refine wa_nil ?_
  refine ⟨_, rfl, deep_ints hlen, t_bl ⟨fun _ => ?_, fun z => absurd z (by decide)⟩⟩
  refine ww_or1 ?_
  refine wt_cmp od_ne ?_
  refine we_callB (cd_repr hgd (by omega)) (C.fr 72) ?_
  refine wa_cons ?_
  refine we_lst ?_
  refine wa_cons ?_
  refine we_var 3 rfl ?_
  refine wa_cons ?_
  refine we_var 9 rfl ?_
  refine wa_nil ?_
  refine ⟨size_ok (by simp), fun pr2 hpr2 => ?_⟩
  refine wa_nil ?_
  refine ⟨pr2, _, ps, rfl, put_same, eps, q1, q2, q3, q4, ?_⟩
  refine we_var 11 rfl ?_
  refine b_neS ?_
  refine t_bl ?_
  rw [decide_eq_true rfl]
  refine ⟨fun z => absurd z (by decide), fun _ => ?_⟩
  refine wss_nil ?_
  refine wss_one ?_
  refine ws_ret ?_
  refine we_call (ok_law_same C 2) hr ?_
  refine wa_cons ?_
  refine we_callK (kw_stair_within C) hr ?_
  refine wk_cons ?_
  refine we_var 10 rfl ?_
  refine wk_cons ?_
  refine we_var 15 rfl ?_
  refine wk_cons ?_
  refine we_var 8 rfl ?_
  refine wk_cons ?_
  refine we_var 9 rfl ?_
  refine wk_cons ?_
  refine we_var 3 rfl ?_
  refine wk_nil ?_
  refine ⟨rfl, ?_⟩
  refine ⟨d, c, bs, b, k, n, bu, rfl, ec, eb, hc, hbk, hd, by omega, by omega, by omega, hspan, fun M23 su23 => ?_⟩
  rw [hst]
  refine wa_cons ?_
  refine we_var 5 rfl ?_
  refine wa_nil ?_
  exact ⟨_, rfl, deep_ints hlen, rfl⟩
end
end K81

set_option Elab.async false
set_option linter.all false
set_option maxRecDepth 100000
set_option maxHeartbeats 0
namespace K81
open PySem PySem.Spec PyProof.Rows L2 DL
theorem facts {P : Program} {w : World} {K : PySem.W.Frag} {h : Heap} {mg : Str → Option Value} {f : Addr} (X : K.In h) (G : h.Ns mainGlobals mg) (hfa : mg ("law" : Str) = some (.ref f)) (c : He.SaysD Hd.fa Hd.fn K) :
    ∃ fd : FuncData, (∀ (s : Shared) (v : Value), BindsTo s fd ⟨[v], []⟩ [("script", v)]) ∧ ∀ base : Heap, K.In base → base.Ns mainGlobals mg → LawFn P w K mg base f fd "script" (fun vs H Q _ => ∃ v, vs = [v] ∧ spLaw K 63 v H Q) := by
  obtain ⟨fd, F⟩ := c.def_ 34 (d := Hd.d_law) rfl
  have e := hfa.symm.trans (He.glo_ok X G (c.fact 34 (f := .glo "law") rfl))
  cases e
  have b := FunD.bindsA (ps := ["script"]) F fun _ _ _ _ _ _ us hl => match us, hl with | [_], _ => rfl
  exact ⟨fd, fun s v => b s [v] rfl, fun base hK hG => law_ok ⟨c, hK, hG⟩ F⟩
end K81
open PySem PySem.W PySem.Calls PyProof.Rows
theorem PySem.Challenge.cw_wirework_k81_latest_by_budget_holds : PySem.Challenge.rw_wirework_k81_latest_by_budget.Holds := by
  w_on; o_law
  refine HandSHeadRun.head_any (r := OpenLaw.row PySem.Challenge.rw_wirework_k81_latest_by_budget) (q := view (OpenLaw.row PySem.Challenge.rw_wirework_k81_latest_by_budget).prog [39]) (H := Hd.hk) (ob := Hd.ob) (M := 4000) (loose := Hd.nms) (d := HandSHeadRun.topDef (OpenLaw.row PySem.Challenge.rw_wirework_k81_latest_by_budget).prog 39) (kwd := []) Hd.ob_eq
    (by kernel_rfl) (fun s => by kernel_rfl) Hd.run (by kernel_rfl) (by kernel_rfl) (by kernel_rfl) (by rfl) (by first | assumption | decide +kernel) (by decide +kernel) ⟨rfl, rfl, rfl, rfl, rfl, by decide +kernel⟩ ?hw ?hc
  case hw => w_witness2
  case hc =>
    refine DL.walk_ofG (l := PySem.Challenge.rw_wirework_k81_latest_by_budget) (n := 63) (x := "script") rfl (by decide) (by kernel_rfl) ?F
    intro w mg fa h Y G hmg0
    obtain ⟨K, KX, c⟩ := Y
    have hmg : mg ("law" : PySem.Str) = some (.ref fa) := by
      have e : (HandSHeadRun.topDef (OpenLaw.row PySem.Challenge.rw_wirework_k81_latest_by_budget).prog 39).name = ("law" : PySem.Str) := by kernel_rfl
      rw [← e]
      exact hmg0
    obtain ⟨fd, hb, hF⟩ := K81.facts (P := (PySem.Challenge.rw_wirework_k81_latest_by_budget).prog) (w := w) KX G hmg c
    exact ⟨K, fd, KX, hb, hF⟩
