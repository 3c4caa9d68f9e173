import PyProof.Rows.All
import Wide.All
import OpenK.AllK
import Wide.FinOn
import HandS.ForMost
import HandS.TupAny
import HandS.Walk
import HandS.Zip
import HandS.Conv
import HandS.Defaults
import HandS.AnyAll
import HandS.Small
import HandS.IsInst
import HandS.Dict
import HandS.Exc
import KE.GoesEnum
import HandS.HeadEnd
import HandS.Nested
import HandS.ExcInit
import HandS.ExcSuper
import KE.KExcSuper
import KE.KSuper
import HandS.CallSlots
import HandS.ExcOwn
import HandS.ExcCtx
import HandS.HeadHook4
import HandS.ExcField
import HandS.ExcIs
import HandS.Property
import HandS.HotCalls
import HandS.ExcInitHot
import HandS.GenList
import HandS.MakeKw
import KE.KStateDown
import Lean
import HandS.Base
import HandS.Call
import HandS.Ends
import HandS.More
import HandS.Words
import HandS.WordsExc
import HandS.Head0
import HandS.Head1
import HandS.Head2
import HandS.HeadHook1
import HandS.HeadHook2
import HandS.SortInts
import HandS.ListEq
import PySem.Challenge.RW_wirework_k82_planners_wishes
set_option Elab.async false
set_option linter.all false
set_option maxRecDepth 100000
set_option maxHeartbeats 4000000
/-! DLa: data; what stands in the heap by data; the judgements. -/
namespace DL
open PySem PySem.Spec PyProof.Rows L2

/-! ### data -/
/-- a value by what it is: tuples as lists of data, mutable objects by their place; rol: a locked list (the script) -/
inductive D where
  | non | bl (b : Bool) | int (i : Int) | str (x : Str) | ref (a : Addr) | ty (n : String) | tup (l : List D) | rol (l : List D)
def FzL (H : Hp) (a : Addr) (xs : List V) : Prop := ∃ o, H a = some (.frz o (.lst xs))
mutual
inductive Is (H : Hp) : D → V → Prop
  | non : Is H .non .non
  | bl (b : Bool) : Is H (.bl b) (.bl b)
  | int (i : Int) : Is H (.int i) (.int i)
  | str (x : Str) : Is H (.str x) (.str x)
  | ref (a : Addr) : Is H (.ref a) (.ref a)
  | ty (n : String) : Is H (.ty n) (.ty n)
  | tup {a : Addr} {xs : List V} {l : List D} : H a = some (.tup xs) → IsL H l xs → Is H (.tup l) (.ref a)
  | rol {a : Addr} {xs : List V} {l : List D} : FzL H a xs → IsL H l xs → Is H (.rol l) (.ref a)
inductive IsL (H : Hp) : List D → List V → Prop
  | nil : IsL H [] []
  | cons {d : D} {v : V} {l : List D} {xs : List V} : Is H d v → IsL H l xs → IsL H (d :: l) (v :: xs)
end
/-- tuples and locked lists stand -/
structure Tx (H H' : Hp) : Prop where
  t : ∀ a xs, H a = some (.tup xs) → H' a = some (.tup xs)
  l : ∀ a xs, FzL H a xs → FzL H' a xs
theorem Tx.refl (H : Hp) : Tx H H := ⟨fun _ _ h => h, fun _ _ h => h⟩
theorem Tx.trans {H H1 H2 : Hp} (a : Tx H H1) (b : Tx H1 H2) : Tx H H2 := ⟨fun x y h => b.t x y (a.t x y h), fun x y h => b.l x y (a.l x y h)⟩
theorem Tx.of {H H' : Hp} (h : ∀ a o, H a = some o → (∃ xs, o = .tup xs) ∨ (∃ ob u, o = .frz ob u) → H' a = some o) : Tx H H' where
  t := fun a xs e => h _ _ e (.inl ⟨_, rfl⟩)
  l := fun a xs ⟨o, e⟩ => ⟨o, h _ _ e (.inr ⟨_, _, rfl⟩)⟩
theorem Tx.new {H : Hp} {p : Addr} {o : HO} (h : H p = none) : Tx H (upd H p o) := .of fun a u e _ => by
  rw [upd_ne (ne_of_none e h)]
  exact e
theorem Tx.mut {H : Hp} {p : Addr} {u o : HO} (h : H p = some u) (nt : ∀ xs, u ≠ .tup xs) (nf : ∀ ob w, u ≠ .frz ob w) : Tx H (upd H p o) := .of fun a v e q => by
  have : a ≠ p := fun z => by
    subst z
    rw [h] at e
    cases e
    rcases q with ⟨xs, q⟩ | ⟨ob, w, q⟩
    · exact nt _ q
    · exact nf _ _ q
  rw [upd_ne this]
  exact e
mutual
theorem Is.mono {H H' : Hp} (t : Tx H H') : ∀ {d : D} {v : V}, Is H d v → Is H' d v
  | _, _, .non => .non
  | _, _, .bl b => .bl b
  | _, _, .int b => .int b
  | _, _, .str b => .str b
  | _, _, .ref b => .ref b
  | _, _, .ty b => .ty b
  | _, _, .tup h r => .tup (t.t _ _ h) (IsL.mono t r)
  | _, _, .rol h r => .rol (t.l _ _ h) (IsL.mono t r)
theorem IsL.mono {H H' : Hp} (t : Tx H H') : ∀ {l : List D} {xs : List V}, IsL H l xs → IsL H' l xs
  | _, _, .nil => .nil
  | _, _, .cons h r => .cons (Is.mono t h) (IsL.mono t r)
end
section
variable {H : Hp}
theorem IsL.length : ∀ {l : List D} {xs : List V}, IsL H l xs → l.length = xs.length
  | _, _, .nil => rfl
  | _, _, .cons _ r => by rw [List.length_cons, List.length_cons, IsL.length r]
theorem IsL.get : ∀ {l : List D} {xs : List V} {i : Nat} {d : D}, IsL H l xs → l[i]? = some d → ∃ v, xs[i]? = some v ∧ Is H d v
  | _, _, _, _, .nil, e => by simp at e
  | _, _, 0, _, .cons r _, e => by
    simp at e
    subst e
    exact ⟨_, rfl, r⟩
  | _, _, i + 1, d, .cons _ t, e => by
    obtain ⟨u, h1, h2⟩ := IsL.get (i := i) (d := d) t (by simpa using e)
    exact ⟨u, by simpa using h1, h2⟩
theorem IsL.back : ∀ {l : List D} {xs : List V} {i : Nat} {v : V}, IsL H l xs → xs[i]? = some v → ∃ d, l[i]? = some d ∧ Is H d v
  | _, _, _, _, .nil, e => by simp at e
  | _, _, 0, _, .cons r _, e => by
    simp at e
    subst e
    exact ⟨_, rfl, r⟩
  | _, _, i + 1, d, .cons _ t, e => by
    obtain ⟨u, h1, h2⟩ := IsL.back (i := i) (v := d) t (by simpa using e)
    exact ⟨u, by simpa using h1, h2⟩
theorem IsL.append : ∀ {l m : List D} {xs ys : List V}, IsL H l xs → IsL H m ys → IsL H (l ++ m) (xs ++ ys)
  | _, _, _, _, .nil, s => s
  | _, _, _, _, .cons r t, s => .cons r (IsL.append t s)
theorem IsL.take : ∀ {l : List D} {xs : List V} (n : Nat), IsL H l xs → IsL H (l.take n) (xs.take n)
  | _, _, 0, _ => .nil
  | _, _, _ + 1, .nil => .nil
  | _, _, n + 1, .cons r t => .cons r (IsL.take n t)
theorem IsL.drop : ∀ {l : List D} {xs : List V} (n : Nat), IsL H l xs → IsL H (l.drop n) (xs.drop n)
  | _, _, 0, r => r
  | _, _, _ + 1, .nil => .nil
  | _, _, n + 1, .cons _ t => IsL.drop n t
theorem IsL.set {x : D} {u : V} (r : Is H x u) : ∀ {l : List D} {xs : List V} (i : Nat), IsL H l xs → IsL H (l.set i x) (xs.set i u)
  | _, _, _, .nil => .nil
  | _, _, 0, .cons _ t => .cons r t
  | _, _, i + 1, .cons q t => .cons q (IsL.set r i t)
theorem IsL.erase : ∀ {l : List D} {xs : List V} (i : Nat), IsL H l xs → IsL H (l.eraseIdx i) (xs.eraseIdx i)
  | _, _, _, .nil => .nil
  | _, _, 0, .cons _ t => t
  | _, _, i + 1, .cons q t => .cons q (IsL.erase i t)
theorem IsL.dropLast {l : List D} {xs : List V} (h : IsL H l xs) : IsL H l.dropLast xs.dropLast := by
  rw [List.dropLast_eq_take, List.dropLast_eq_take, h.length]
  exact h.take _
theorem IsL.reverse : ∀ {l : List D} {xs : List V}, IsL H l xs → IsL H l.reverse xs.reverse
  | _, _, .nil => .nil
  | _, _, .cons r t => by
    rw [List.reverse_cons, List.reverse_cons]
    exact (IsL.reverse t).append (.cons r .nil)
theorem IsL.ints : ∀ ns : List Int, IsL H (ns.map D.int) (ns.map V.int)
  | [] => .nil
  | n :: r => .cons (.int n) (IsL.ints r)
theorem IsL.of_ints : ∀ {ns : List Int} {vs : List V}, IsL H (ns.map D.int) vs → vs = ns.map V.int
  | [], _, .nil => rfl
  | n :: r, _, .cons h t => by
    cases h
    rw [IsL.of_ints t, List.map_cons]
theorem IsL.strs : ∀ ns : List Str, IsL H (ns.map D.str) (ns.map V.str)
  | [] => .nil
  | n :: r => .cons (.str n) (IsL.strs r)
theorem IsL.of_strs : ∀ {ns : List Str} {vs : List V}, IsL H (ns.map D.str) vs → vs = ns.map V.str
  | [], _, .nil => rfl
  | n :: r, _, .cons h t => by
    cases h
    rw [IsL.of_strs t, List.map_cons]
theorem IsL.of_bls : ∀ {ns : List Bool} {vs : List V}, IsL H (ns.map D.bl) vs → vs = ns.map V.bl
  | [], _, .nil => rfl
  | n :: r, _, .cons h t => by
    cases h
    rw [IsL.of_bls t, List.map_cons]
theorem IsL.rep {d : D} {v : V} (h : Is H d v) : ∀ n : Nat, IsL H (List.replicate n d) (List.replicate n v)
  | 0 => .nil
  | n + 1 => .cons h (IsL.rep h n)
theorem IsL.flat : ∀ {l m : List (List D)} , True := fun {_ _} => trivial
end

/-! ### pairs by keys -/
def IsKV {κ : Type} (H : Hp) (l : List (κ × D)) (xs : List (κ × V)) : Prop := Paired (fun (p : κ × D) (q : κ × V) => p.1 = q.1 ∧ Is H p.2 q.2) l xs
theorem IsKV.mono {κ : Type} {H H' : Hp} (t : Tx H H') {l : List (κ × D)} {xs : List (κ × V)} (h : IsKV H l xs) : IsKV H' l xs := Paired.mapP h fun _ _ z => ⟨z.1, z.2.mono t⟩
theorem IsKV.length {κ : Type} {H : Hp} {l : List (κ × D)} {xs : List (κ × V)} (h : IsKV H l xs) : l.length = xs.length := Paired.length h

/-! ### mutable objects by data -/
inductive MO where
  | lst (ds : List D)
  /-- a list too, told apart from others by the prover alone -/
  | pin (ds : List D)
  | dK (kvs : List (Key × D))
  | dT (kvs : List (List Key × D))
  | ins (C : Addr) (fs : List (Str × D))
  | xd (fs : List (Str × D))
  /-- a def's table of code objects; what stands in it is not told -/
  | tbl
def MOk (H : Hp) (a : Addr) : MO → Prop
  | .lst ds => ∃ xs, H a = some (.lst xs) ∧ IsL H ds xs
  | .pin ds => ∃ xs, H a = some (.lst xs) ∧ IsL H ds xs
  | .dK kvs => ∃ vs, H a = some (.dK vs) ∧ IsKV H kvs vs
  | .dT kvs => ∃ vs, H a = some (.dT vs) ∧ IsKV H kvs vs
  | .ins C fs => ∃ dx vs, H a = some (.ins C dx vs) ∧ IsKV H fs vs
  | .xd fs => ∃ vs, H a = some (.xd vs) ∧ IsKV H fs vs
  | .tbl => GxR.TabG H a
theorem MOk.some {H : Hp} {a : Addr} {m : MO} (h : MOk H a m) : ∃ o, H a = Option.some o := by
  cases m with
  | lst ds => obtain ⟨xs, e, _⟩ := h; exact ⟨_, e⟩
  | pin ds => obtain ⟨xs, e, _⟩ := h; exact ⟨_, e⟩
  | dK kvs => obtain ⟨xs, e, _⟩ := h; exact ⟨_, e⟩
  | dT kvs => obtain ⟨xs, e, _⟩ := h; exact ⟨_, e⟩
  | ins C fs => obtain ⟨dx, xs, e, _⟩ := h; exact ⟨_, e⟩
  | xd fs => obtain ⟨xs, e, _⟩ := h; exact ⟨_, e⟩
  | tbl => obtain ⟨xs, e, _⟩ := h; exact ⟨_, e⟩
theorem MOk.mono {H H' : Hp} {a : Addr} {m : MO} (t : Tx H H') (k : ∀ o, H a = Option.some o → H' a = Option.some o) (h : MOk H a m) : MOk H' a m := by
  cases m with
  | lst ds => obtain ⟨xs, e, r⟩ := h; exact ⟨xs, k _ e, r.mono t⟩
  | pin ds => obtain ⟨xs, e, r⟩ := h; exact ⟨xs, k _ e, r.mono t⟩
  | dK kvs => obtain ⟨xs, e, r⟩ := h; exact ⟨xs, k _ e, r.mono t⟩
  | dT kvs => obtain ⟨xs, e, r⟩ := h; exact ⟨xs, k _ e, r.mono t⟩
  | ins C fs => obtain ⟨dx, xs, e, r⟩ := h; exact ⟨dx, xs, k _ e, r.mono t⟩
  | xd fs => obtain ⟨xs, e, r⟩ := h; exact ⟨xs, k _ e, r.mono t⟩
  | tbl => obtain ⟨xs, e, r⟩ := h; exact ⟨xs, k _ e, r⟩
abbrev Mem := Addr → Option MO
def put (M : Mem) (a : Addr) (m : MO) : Mem := fun b => if b = a then some m else M b
theorem put_same {M : Mem} {a : Addr} {m : MO} : put M a m a = some m := by unfold put; rw [if_pos rfl]
theorem put_ne {M : Mem} {a b : Addr} {m : MO} (h : b ≠ a) : put M a m b = M b := by unfold put; rw [if_neg h]
theorem put_put {M : Mem} {a : Addr} {m n : MO} : put (put M a m) a n = put M a n := by
  funext b; unfold put; split <;> rfl
theorem put_comm {M : Mem} {a b : Addr} {m n : MO} (h : a ≠ b) : put (put M a m) b n = put (put M b n) a m := by
  funext c; unfold put
  by_cases h1 : c = b
  · by_cases h2 : c = a
    · exact absurd (h2.symm.trans h1) h
    · rw [if_pos h1, if_neg h2, if_pos h1]
  · rw [if_neg h1]
    by_cases h2 : c = a
    · rw [if_pos h2, if_pos h2]
    · rw [if_neg h2, if_neg h2, if_neg h1]
theorem nn {M : Mem} {a b : Addr} {m : MO} (h : M a = some m) (h' : M b = none) : a ≠ b := by
  intro e; subst e; rw [h] at h'; cases h'
/-- what M says stands in the heap -/
def RelM (H : Hp) (M : Mem) : Prop := ∀ a m, M a = some m → MOk H a m
/-- M knows no more than M' -/
def Sub (M M' : Mem) : Prop := ∀ a m, M a = some m → M' a = some m
theorem Sub.refl (M : Mem) : Sub M M := fun _ _ h => h
theorem Sub.trans {M M1 M2 : Mem} (a : Sub M M1) (b : Sub M1 M2) : Sub M M2 := fun x y h => b x y (a x y h)
theorem Sub.put {M : Mem} {p : Addr} {m : MO} (h : M p = none) : Sub M (put M p m) := fun a u e => by
  rw [put_ne (nn e h)]
  exact e
theorem Sub.upd {M M' : Mem} {p : Addr} {m : MO} (s : Sub M M') : Sub (DL.put M p m) (DL.put M' p m) := fun a u e => by
  unfold DL.put at e ⊢
  by_cases h : a = p
  · rw [if_pos h] at e ⊢; exact e
  · rw [if_neg h] at e ⊢; exact s _ _ e
section
variable {H H' : Hp} {M M' : Mem} {p : Addr}
theorem RelM.sub (r : RelM H M') (s : Sub M M') : RelM H M := fun a m e => r a m (s a m e)
theorem RelM.free (r : RelM H M) (h : H p = none) : M p = none := by
  cases e : M p with
  | none => rfl
  | some m =>
    obtain ⟨o, q⟩ := (r p m e).some
    rw [h] at q
    cases q
theorem RelM.keep (r : RelM H M) (t : Tx H H') (k : ∀ a o, M a ≠ none → H a = some o → H' a = some o) : RelM H' M := fun a m e => (r a m e).mono t fun o q => k a o (by rw [e]; intro z; cases z) q
theorem RelM.fresh {o : HO} (r : RelM H M) (h : H p = none) : RelM (upd H p o) M := r.keep (Tx.new h) fun a u _ e => by
  rw [upd_ne (ne_of_none e h)]
  exact e
theorem RelM.new {o : HO} {m : MO} (r : RelM H M) (h : H p = none) (hm : MOk (upd H p o) p m) : RelM (upd H p o) (put M p m) := fun a u e => by
  by_cases q : a = p
  · subst q
    rw [put_same] at e
    cases e
    exact hm
  · rw [put_ne q] at e
    exact r.fresh h a u e
theorem RelM.set {u o : HO} {m : MO} (r : RelM H M) (h : H p = some u) (nt : ∀ xs, u ≠ .tup xs) (nf : ∀ ob w, u ≠ .frz ob w) (hm : MOk (upd H p o) p m) : RelM (upd H p o) (put M p m) := fun a w e => by
  by_cases q : a = p
  · subst q
    rw [put_same] at e
    cases e
    exact hm
  · rw [put_ne q] at e
    exact (r a w e).mono (Tx.mut h nt nf) fun o' z => by rw [upd_ne q]; exact z
end
/-! ### slots by data -/
abbrev Sl := List (Option D)
def SIs (H : Hp) (σ : L2.St) (Γ : Sl) : Prop := σ.length = Γ.length ∧ ∀ (i : Nat) (d : D), Γ[i]? = some (some d) → ∃ v, σ[i]? = some (some v) ∧ Is H d v
section
variable {H H' : Hp} {σ : L2.St} {Γ : Sl}
theorem SIs.mono (s : SIs H σ Γ) (t : Tx H H') : SIs H' σ Γ := ⟨s.1, fun i d e => let ⟨v, h, r⟩ := s.2 i d e; ⟨v, h, r.mono t⟩⟩
theorem SIs.set {i : Nat} {d : D} {v : V} (s : SIs H σ Γ) (r : Is H d v) : SIs H (σ.set i (some v)) (Γ.set i (some d)) := by
  refine ⟨by rw [List.length_set, List.length_set]; exact s.1, fun j e h => ?_⟩
  by_cases q : i = j
  · subst q
    by_cases hl : i < Γ.length
    · rw [List.getElem?_set_self hl] at h
      cases h
      exact ⟨v, List.getElem?_set_self (by rw [s.1]; exact hl), r⟩
    · rw [List.getElem?_eq_none (by rw [List.length_set]; omega)] at h
      cases h
  · rw [List.getElem?_set_ne q] at h
    rw [List.getElem?_set_ne q]
    exact s.2 j e h
theorem SIs.unset {i : Nat} (s : SIs H σ Γ) : SIs H (σ.set i none) (Γ.set i none) := by
  refine ⟨by rw [List.length_set, List.length_set]; exact s.1, fun j e h => ?_⟩
  by_cases q : i = j
  · subst q
    by_cases hl : i < Γ.length
    · rw [List.getElem?_set_self hl] at h
      cases h
    · rw [List.getElem?_eq_none (by rw [List.length_set]; omega)] at h
      cases h
  · rw [List.getElem?_set_ne q] at h
    rw [List.getElem?_set_ne q]
    exact s.2 j e h
def wipeD (Γ : Sl) : List Nat → Sl
  | [] => Γ
  | v :: vs => (wipeD Γ vs).set v none
theorem SIs.wipe (s : SIs H σ Γ) : ∀ vs : List Nat, SIs H (L2.wipe σ vs) (wipeD Γ vs)
  | [] => s
  | v :: vs => (SIs.wipe s vs).unset
theorem SIs.start {ds : List D} {vs : List V} (h : IsL H ds vs) (N : List Str) : SIs H (L2.start N vs) (ds.map some ++ List.replicate (N.length - ds.length) none) := by
  unfold L2.start
  have hl := h.length
  refine ⟨by simp [hl], fun i d e => ?_⟩
  by_cases hi : i < ds.length
  · rw [List.getElem?_append_left (by simpa using hi), List.getElem?_map] at e
    cases q : ds[i]? with
    | none => rw [q] at e; cases e
    | some d' =>
      rw [q] at e
      cases e
      obtain ⟨v, hv, r⟩ := h.get q
      refine ⟨v, ?_, r⟩
      rw [List.getElem?_append_left (by simp; omega), List.getElem?_map, hv]
      rfl
  · rw [List.getElem?_append_right (by simp; omega), List.getElem?_replicate] at e
    split at e <;> cases e
end
end DL

set_option Elab.async false
set_option linter.all false
set_option maxRecDepth 100000
set_option maxHeartbeats 4000000
/-! DLb: the judgements by data, and the rules of expressions. -/
namespace DL
open PySem PySem.Spec PyProof.Rows L2
abbrev PD := D → Mem → Prop
def PostE (H : Hp) (P : PD) : VK := fun v H' => ∃ d M', Tx H H' ∧ Is H' d v ∧ RelM H' M' ∧ P d M'
def PostT (H : Hp) (P : Bool → Mem → Prop) : Bool → Hp → Prop := fun b H' => ∃ M', Tx H H' ∧ RelM H' M' ∧ P b M'
def PostA (H : Hp) (P : List D → Mem → Prop) : List V → Hp → Prop := fun vs H' => ∃ ds M', Tx H H' ∧ IsL H' ds vs ∧ RelM H' M' ∧ P ds M'
def PostG (H : Hp) (P : Sl → Mem → Prop) : L2.St → Hp → Prop := fun σ H' => ∃ Γ M', Tx H H' ∧ SIs H' σ Γ ∧ RelM H' M' ∧ P Γ M'
/-- an expression at slots Γ and memory M gives a d, leaving M', with P d M' -/
structure WE (X : Cx) (e : Expr) (Γ : Sl) (M : Mem) (P : PD) : Prop where
  run : ∀ (pins : List (Addr × Obj)) (s : Shared) (σ : L2.St) (H : Hp), Inv X pins σ H s → SIs H σ Γ → RelM H M → wpAny (model X.prog X.w) X.A (eval e X.env) (EP X pins σ (PostE H P)) X.xe s
structure WT (X : Cx) (e : Expr) (Γ : Sl) (M : Mem) (P : Bool → Mem → Prop) : Prop where
  run : ∀ (pins : List (Addr × Obj)) (s : Shared) (σ : L2.St) (H : Hp), Inv X pins σ H s → SIs H σ Γ → RelM H M → wpAny (model X.prog X.w) X.A (isTrue e X.env (eval e X.env)) (TP X pins σ (PostT H P)) X.xe s
structure WW (X : Cx) (e : Expr) (Γ : Sl) (M : Mem) (P : Bool → Mem → Prop) : Prop where
  run : ∀ (whole : Sem Value) (pins : List (Addr × Obj)) (s : Shared) (σ : L2.St) (H : Hp), Inv X pins σ H s → SIs H σ Γ → RelM H M → wpAny (model X.prog X.w) X.A (isTrue e X.env whole) (TP X pins σ (PostT H P)) X.xe s
structure WA (X : Cx) (es : List Expr) (Γ : Sl) (M : Mem) (P : List D → Mem → Prop) : Prop where
  run : ∀ (pos : Pos) (pins : List (Addr × Obj)) (s : Shared) (σ : L2.St) (H : Hp), Inv X pins σ H s → SIs H σ Γ → RelM H M → wpAny (model X.prog X.w) X.A (spliced (backTo pos (starEach es X.env))) (AP X pins σ (PostA H P)) X.xe s
structure WG (X : Cx) (tg : Expr) (d : D) (Γ : Sl) (M : Mem) (P : Sl → Mem → Prop) : Prop where
  run : ∀ (pins : List (Addr × Obj)) (s : Shared) (σ : L2.St) (H : Hp) (v : V) (u : Value), Inv X pins σ H s → RelV v u → Is H d v → SIs H σ Γ → RelM H M →
    wpAny (model X.prog X.w) X.A (assign tg X.env u) (fun _ s' => ∃ σ' H', Inv X pins σ' H' s' ∧ PostG H P σ' H') X.xe s
structure WGs (X : Cx) (ts : List Expr) (ds : List D) (Γ : Sl) (M : Mem) (P : Sl → Mem → Prop) : Prop where
  run : ∀ (pins : List (Addr × Obj)) (s : Shared) (σ : L2.St) (H : Hp) (vs : List V) (us : List Value), Inv X pins σ H s → Vals vs us → IsL H ds vs → SIs H σ Γ → RelM H M →
    wpAny (model X.prog X.w) X.A (assignInOrder ((assignEach ts X.env).map (·.2)) us) (fun _ s' => ∃ σ' H', Inv X pins σ' H' s' ∧ PostG H P σ' H') X.xe s
/-- the readings that the judgements are -/
def tW (X : Cx) (e : Expr) : TE := fun σ H Q => ∃ Γ M P, SIs H σ Γ ∧ RelM H M ∧ WE X e Γ M P ∧ ∀ v H', PostE H P v H' → Q v H'
def tWT (X : Cx) (e : Expr) : TT := fun σ H Q => ∃ Γ M P, SIs H σ Γ ∧ RelM H M ∧ WT X e Γ M P ∧ ∀ v H', PostT H P v H' → Q v H'
def tWW (X : Cx) (e : Expr) : TT := fun σ H Q => ∃ Γ M P, SIs H σ Γ ∧ RelM H M ∧ WW X e Γ M P ∧ ∀ v H', PostT H P v H' → Q v H'
def tWA (X : Cx) (es : List Expr) : TA := fun σ H Q => ∃ Γ M P, SIs H σ Γ ∧ RelM H M ∧ WA X es Γ M P ∧ ∀ v H', PostA H P v H' → Q v H'
def tWG (X : Cx) (tg : Expr) : TG := fun v σ H Q => ∃ d Γ M P, Is H d v ∧ SIs H σ Γ ∧ RelM H M ∧ WG X tg d Γ M P ∧ ∀ σ' H', PostG H P σ' H' → Q σ' H'
def tWGs (X : Cx) (ts : List Expr) : TGs := fun vs σ H Q => ∃ ds Γ M P, IsL H ds vs ∧ SIs H σ Γ ∧ RelM H M ∧ WGs X ts ds Γ M P ∧ ∀ σ' H', PostG H P σ' H' → Q σ' H'
section
variable {X : Cx} {e a b c : Expr} {es : List Expr} {tg : Expr} {ts : List Expr} {Γ : Sl} {M : Mem} {P : PD} {PT' : Bool → Mem → Prop} {pos : Pos} {σ : L2.St} {H : Hp}
theorem pe_w : PE X e (tW X e) := ⟨fun pins s σ H Q I ⟨Γ, M, P, hs, hm, h, k⟩ => thn (h.run pins s σ H I hs hm) fun u s' ⟨v, H', I', r, q⟩ => ⟨v, H', I', r, k v H' q⟩⟩
theorem pt_w : PT X e (tWT X e) := ⟨fun pins s σ H Q I ⟨Γ, M, P, hs, hm, h, k⟩ => thn (h.run pins s σ H I hs hm) fun u s' ⟨H', I', q⟩ => ⟨H', I', k u H' q⟩⟩
theorem pw_w : PW X e (tWW X e) := ⟨fun wh pins s σ H Q I ⟨Γ, M, P, hs, hm, h, k⟩ => thn (h.run wh pins s σ H I hs hm) fun u s' ⟨H', I', q⟩ => ⟨H', I', k u H' q⟩⟩
theorem pa_w : PA X es (tWA X es) := ⟨fun pos pins s σ H Q I ⟨Γ, M, P, hs, hm, h, k⟩ => thn (h.run pos pins s σ H I hs hm) fun u s' ⟨v, H', I', r, q⟩ => ⟨v, H', I', r, k v H' q⟩⟩
theorem pg_w : PG X tg (tWG X tg) := ⟨fun pins s σ H v u Q I r ⟨d, Γ, M, P, hd, hs, hm, h, k⟩ => thn (h.run pins s σ H v u I r hd hs hm) fun _ s' ⟨σ', H', I', q⟩ => ⟨σ', H', I', k σ' H' q⟩⟩
theorem pgs_w : PGs X ts (tWGs X ts) := ⟨fun pins s σ H v u Q I r ⟨d, Γ, M, P, hd, hs, hm, h, k⟩ => thn (h.run pins s σ H v u I r hd hs hm) fun _ s' ⟨σ', H', I', q⟩ => ⟨σ', H', I', k σ' H' q⟩⟩
theorem we_of {t : TE} (h : PE X e t) (k : ∀ σ H, SIs H σ Γ → RelM H M → t σ H (PostE H P)) : WE X e Γ M P := ⟨fun pins s σ H I hs hm => h.run pins s σ H _ I (k σ H hs hm)⟩
theorem wt_of {t : TT} (h : PT X e t) (k : ∀ σ H, SIs H σ Γ → RelM H M → t σ H (PostT H PT')) : WT X e Γ M PT' := ⟨fun pins s σ H I hs hm => h.run pins s σ H _ I (k σ H hs hm)⟩
theorem ww_of {t : TT} (h : PW X e t) (k : ∀ σ H, SIs H σ Γ → RelM H M → t σ H (PostT H PT')) : WW X e Γ M PT' := ⟨fun wh pins s σ H I hs hm => h.run wh pins s σ H _ I (k σ H hs hm)⟩
theorem wa_of {t : TA} {P : List D → Mem → Prop} (h : PA X es t) (k : ∀ σ H, SIs H σ Γ → RelM H M → t σ H (PostA H P)) : WA X es Γ M P := ⟨fun pos pins s σ H I hs hm => h.run pos pins s σ H _ I (k σ H hs hm)⟩
theorem wg_of {t : TG} {d : D} {P : Sl → Mem → Prop} (h : PG X tg t) (k : ∀ v σ H, Is H d v → SIs H σ Γ → RelM H M → t v σ H (PostG H P)) : WG X tg d Γ M P := ⟨fun pins s σ H v u I r hd hs hm => h.run pins s σ H v u _ I r (k v σ H hd hs hm)⟩
theorem wgs_of {t : TGs} {ds : List D} {P : Sl → Mem → Prop} (h : PGs X ts t) (k : ∀ vs σ H, IsL H ds vs → SIs H σ Γ → RelM H M → t vs σ H (PostG H P)) : WGs X ts ds Γ M P := ⟨fun pins s σ H v u I r hd hs hm => h.run pins s σ H v u _ I r (k v σ H hd hs hm)⟩
theorem tw {Q : VK} (h : WE X e Γ M P) (hs : SIs H σ Γ) (hm : RelM H M) (k : ∀ v H' d M', Tx H H' → Is H' d v → RelM H' M' → P d M' → Q v H') : tW X e σ H Q := ⟨Γ, M, P, hs, hm, h, fun v H' ⟨d, M', t, r, m, p⟩ => k v H' d M' t r m p⟩
theorem twt {Q : Bool → Hp → Prop} (h : WT X e Γ M PT') (hs : SIs H σ Γ) (hm : RelM H M) (k : ∀ v H' M', Tx H H' → RelM H' M' → PT' v M' → Q v H') : tWT X e σ H Q := ⟨Γ, M, PT', hs, hm, h, fun v H' ⟨M', t, m, p⟩ => k v H' M' t m p⟩
theorem tww {Q : Bool → Hp → Prop} (h : WW X e Γ M PT') (hs : SIs H σ Γ) (hm : RelM H M) (k : ∀ v H' M', Tx H H' → RelM H' M' → PT' v M' → Q v H') : tWW X e σ H Q := ⟨Γ, M, PT', hs, hm, h, fun v H' ⟨M', t, m, p⟩ => k v H' M' t m p⟩
theorem twa {P : List D → Mem → Prop} {Q : List V → Hp → Prop} (h : WA X es Γ M P) (hs : SIs H σ Γ) (hm : RelM H M) (k : ∀ v H' d M', Tx H H' → IsL H' d v → RelM H' M' → P d M' → Q v H') : tWA X es σ H Q := ⟨Γ, M, P, hs, hm, h, fun v H' ⟨d, M', t, r, m, p⟩ => k v H' d M' t r m p⟩
/-! ### names, constants -/
theorem we_var (i : Nat) {x : Str} {d : D} (h : Γ[i]? = some (some d)) (k : P d M) (hN : X.N[i]? = some x := by rfl) (hv : Vis X.env.scope x := by first | exact Or.inl rfl | exact Or.inr (Or.inl rfl) | exact Or.inr (Or.inr rfl)) (hd : (x == ("__debug__" : Str)) = false := by decide)
    (hcd : (x == ("__classdict__" : Str)) = false := by decide) : WE X (.Name x pos) Γ M P :=
  we_of (pv i hN hv hd hcd) fun σ H hs hm => let ⟨v, e, r⟩ := hs.2 i d h; ⟨v, e, d, M, Tx.refl H, r, hm, k⟩
theorem we_int {i : Int} {j : Nat} (k : P (.int i) M) : WE X (.Constant (.int i) j pos) Γ M P := we_of pe_int fun σ H hs hm => ⟨.int i, M, Tx.refl H, .int i, hm, k⟩
theorem we_str {i : Str} {j : Nat} (k : P (.str i) M) : WE X (.Constant (.str i) j pos) Γ M P := we_of pe_str fun σ H hs hm => ⟨.str i, M, Tx.refl H, .str i, hm, k⟩
theorem we_bl {i : Bool} {j : Nat} (k : P (.bl i) M) : WE X (.Constant (.bool i) j pos) Γ M P := we_of pe_bl fun σ H hs hm => ⟨.bl i, M, Tx.refl H, .bl i, hm, k⟩
theorem we_non {j : Nat} (k : P .non M) : WE X (.Constant .none j pos) Γ M P := we_of pe_non fun σ H hs hm => ⟨.non, M, Tx.refl H, .non, hm, k⟩
theorem we_globI {x : Str} {i : Int} {t : Tok} (hm : X.mg x = some (.int i t)) (k : P (.int i) M) (hg : Gl X x := by rfl) (hd : (x == ("__debug__" : Str)) = false := by decide) : WE X (.Name x pos) Γ M P :=
  we_of (pe_glob (v := .int i) hg hm ⟨t, rfl⟩ hd) fun σ H hs hm => ⟨.int i, M, Tx.refl H, .int i, hm, k⟩
theorem we_globS {x : Str} {i : Str} {t : Tok} (hm : X.mg x = some (.str i t)) (k : P (.str i) M) (hg : Gl X x := by rfl) (hd : (x == ("__debug__" : Str)) = false := by decide) : WE X (.Name x pos) Γ M P :=
  we_of (pe_glob (v := .str i) hg hm ⟨t, rfl⟩ hd) fun σ H hs hm => ⟨.str i, M, Tx.refl H, .str i, hm, k⟩
theorem we_globR {x : Str} {i : Addr} (hm : X.mg x = some (.ref i)) (k : P (.ref i) M) (hg : Gl X x := by rfl) (hd : (x == ("__debug__" : Str)) = false := by decide) : WE X (.Name x pos) Γ M P :=
  we_of (pe_glob (v := .ref i) hg hm rfl hd) fun σ H hs hm => ⟨.ref i, M, Tx.refl H, .ref i, hm, k⟩
theorem we_ty {x : Str} {T : String} (hm : X.mg x = none) (k : P (.ty T) M) (hg : Gl X x := by rfl) (hv : bootBuiltins x = some (.type T) := by decide +kernel) (hn : x ≠ "__name__" := by decide) (hd : (x == ("__debug__" : Str)) = false := by decide) : WE X (.Name x pos) Γ M P :=
  we_of (pe_bltn (v := .ty T) hg hm hv rfl hn hd) fun σ H hs hm => ⟨.ty T, M, Tx.refl H, .ty T, hm, k⟩
/-! ### arguments, displays -/
theorem wa_nil {P : List D → Mem → Prop} (k : P [] M) : WA X [] Γ M P := wa_of pa_nil fun σ H hs hm => ⟨[], M, Tx.refl H, .nil, hm, k⟩
theorem wa_cons {P : List D → Mem → Prop} (h : WE X e Γ M fun x M1 => WA X es Γ M1 fun xs M2 => P (x :: xs) M2) (hs : starEach (e :: es) X.env = (false, eval e X.env) :: starEach es X.env := by rfl) : WA X (e :: es) Γ M P :=
  wa_of (pa_cons pe_w pa_w hs) fun σ H hs hm => tw h hs hm fun v H1 d M1 t r m p => twa p (hs.mono t) m fun vs H2 ds M2 t2 r2 m2 p2 => ⟨d :: ds, M2, t.trans t2, .cons (r.mono t2) r2, m2, p2⟩
theorem we_tup {x1 : Nat} (h : WA X es Γ M fun ds M1 => ds.length ≤ sizeLine ∧ P (.tup ds) M1) : WE X (.Tuple es x1 pos) Γ M P :=
  we_of (pe_tup pa_w) fun σ H hs hm => twa h hs hm fun vs H1 ds M1 t r m p => ⟨by rw [← r.length]; exact p.1, fun q hq => ⟨.tup ds, M1, t.trans (Tx.new hq), .tup upd_same (r.mono (Tx.new hq)), m.fresh hq, p.2⟩⟩
theorem we_lst (h : WA X es Γ M fun ds M1 => ds.length ≤ sizeLine ∧ ∀ p, M1 p = none → P (.ref p) (put M1 p (.lst ds))) : WE X (.List es pos) Γ M P :=
  we_of (pe_lst pa_w) fun σ H hs hm => twa h hs hm fun vs H1 ds M1 t r m p => ⟨by rw [← r.length]; exact p.1, fun q hq => ⟨.ref q, put M1 q (.lst ds), t.trans (Tx.new hq), .ref q, m.new hq (show MOk _ _ (.lst ds) from ⟨vs, upd_same, r.mono (Tx.new hq)⟩), p.2 q (m.free hq)⟩⟩
/-! ### operators -/
abbrev B2 := D → D → Mem → PD → Prop
def OpD (X : Cx) (f : Value → Value → Sem Value) (B : B2) : Prop := ∀ (pins : List (Addr × Obj)) (s : Shared) (σ : L2.St) (H : Hp) (x y : D) (xv yv : V) (v u : Value) (M : Mem) (P : PD), Inv X pins σ H s → RelV xv v → RelV yv u → Is H x xv → Is H y yv → RelM H M → B x y M P →
  wpAny (model X.prog X.w) X.A (f v u) (EP X pins σ (PostE H P)) X.xe s
def rD (B : B2) : R2 := fun xv yv H Q => ∃ x y M P, Is H x xv ∧ Is H y yv ∧ RelM H M ∧ B x y M P ∧ ∀ v H', PostE H P v H' → Q v H'
theorem OpD.r {f : Value → Value → Sem Value} {B : B2} (h : OpD X f B) : OpR X f (rD B) := fun pins s σ H xv yv v u Q I rx ry ⟨x, y, M, P, hx, hy, hm, hb, k⟩ =>
  thn (h pins s σ H x y xv yv v u M P I rx ry hx hy hm hb) fun u' s' ⟨v', H', I', r, q⟩ => ⟨v', H', I', r, k v' H' q⟩
theorem OpD.of {f : Value → Value → Sem Value} {r : R2} {B : B2} (h : OpR X f r) (k : ∀ (H : Hp) (x y : D) (xv yv : V) (M : Mem) (P : PD), Is H x xv → Is H y yv → RelM H M → B x y M P → r xv yv H (PostE H P)) : OpD X f B :=
  fun pins s σ H x y xv yv v u M P I rx ry hx hy hm hb => h pins s σ H xv yv v u _ I rx ry (k H x y xv yv M P hx hy hm hb)
theorem we_bin {op : Operator} {B : B2} (ho : OpD X (binaryOp op) B) (h : WE X a Γ M fun x M1 => WE X b Γ M1 fun y M2 => B x y M2 P) : WE X (.BinOp a op b pos) Γ M P :=
  we_of (pe_op ho.r pe_w pe_w) fun σ H hs hm => tw h hs hm fun v H1 d M1 t r m p => tw p (hs.mono t) m fun v2 H2 d2 M2 t2 r2 m2 p2 =>
    ⟨d, d2, M2, P, r.mono t2, r2, m2, p2, fun z H3 ⟨d3, M3, t3, r3, m3, p3⟩ => ⟨d3, M3, (t.trans t2).trans t3, r3, m3, p3⟩⟩
theorem we_cmp {op : CmpOp} {B : B2} (ho : OpD X (compareOp op) B) (h : WE X a Γ M fun x M1 => WE X b Γ M1 fun y M2 => B x y M2 P) (hm : behindInMarks op b = false := by first | exact nomark _ | rfl) : WE X (.Compare a [op] [b] pos) Γ M P :=
  we_of (pe_cmpR ho.r pe_w pe_w hm) fun σ H hs hm => tw h hs hm fun v H1 d M1 t r m p => tw p (hs.mono t) m fun v2 H2 d2 M2 t2 r2 m2 p2 =>
    ⟨d, d2, M2, P, r.mono t2, r2, m2, p2, fun z H3 ⟨d3, M3, t3, r3, m3, p3⟩ => ⟨d3, M3, (t.trans t2).trans t3, r3, m3, p3⟩⟩
def asT (P : Bool → Mem → Prop) : PD := fun d M => ∃ k, d = .bl k ∧ P k M
theorem wt_cmp {op : CmpOp} {B : B2} (ho : OpD X (compareOp op) B) (h : WE X a Γ M fun x M1 => WE X b Γ M1 fun y M2 => B x y M2 (asT PT')) (hm : behindInMarks op b = false := by first | exact nomark _ | rfl) : WT X (.Compare a [op] [b] pos) Γ M PT' :=
  wt_of (pt_cmpR ho.r pe_w pe_w hm) fun σ H hs hm => tw h hs hm fun v H1 d M1 t r m p => tw p (hs.mono t) m fun v2 H2 d2 M2 t2 r2 m2 p2 =>
    ⟨d, d2, M2, _, r.mono t2, r2, m2, p2, fun z H3 ⟨d3, M3, t3, r3, m3, k, e, p3⟩ => by
      subst e
      cases r3
      exact ⟨k, rfl, M3, (t.trans t2).trans t3, m3, p3⟩⟩
/-- a op b op' c -/
theorem we_chain {op op' : CmpOp} {B B' : B2} (ho : OpD X (compareOp op) B) (ho' : OpD X (compareOp op') B')
    (h : WE X a Γ M fun x M1 => WE X b Γ M1 fun y M2 => B x y M2 fun z M3 => ∃ k, z = .bl k ∧ (k = true → WE X c Γ M3 fun w M4 => B' y w M4 P) ∧ (k = false → P (.bl false) M3))
    (hm : lastMarks [op, op'] [b, c] = false := by with_unfolding_all rfl) : WE X (.Compare a [op, op'] [b, c] pos) Γ M P :=
  we_of (pe_chain ho.r ho'.r pe_w pe_w pe_w hm) fun σ H hs hm => tw h hs hm fun v H1 d M1 t r m p => tw p (hs.mono t) m fun v2 H2 d2 M2 t2 r2 m2 p2 =>
    ⟨d, d2, M2, _, r.mono t2, r2, m2, p2, fun z H3 ⟨d3, M3, t3, r3, m3, k, e, p3, p4⟩ => by
      subst e
      cases r3
      refine ⟨k, rfl, ?_⟩
      cases k with
      | false => exact ⟨.bl false, M3, (t.trans t2).trans t3, .bl _, m3, p4 rfl⟩
      | true => exact tw (p3 rfl) (((hs.mono t).mono t2).mono t3) m3 fun v4 H4 d4 M4 t4 r4 m4 p5 => ⟨d2, d4, M4, P, (r2.mono t3).mono t4, r4, m4, p5, fun z H5 ⟨d5, M5, t5, r5, m5, p6⟩ => ⟨d5, M5, (((t.trans t2).trans t3).trans t4).trans t5, r5, m5, p6⟩⟩⟩
theorem wt_chain {op op' : CmpOp} {B B' : B2} (ho : OpD X (compareOp op) B) (ho' : OpD X (compareOp op') B')
    (h : WE X a Γ M fun x M1 => WE X b Γ M1 fun y M2 => B x y M2 fun z M3 => ∃ k, z = .bl k ∧ (k = true → WE X c Γ M3 fun w M4 => B' y w M4 (asT PT')) ∧ (k = false → PT' false M3))
    (hm : lastMarks [op, op'] [b, c] = false := by with_unfolding_all rfl) : WT X (.Compare a [op, op'] [b, c] pos) Γ M PT' :=
  wt_of (pt_chain ho.r ho'.r pe_w pe_w pe_w hm) fun σ H hs hm => tw h hs hm fun v H1 d M1 t r m p => tw p (hs.mono t) m fun v2 H2 d2 M2 t2 r2 m2 p2 =>
    ⟨d, d2, M2, _, r.mono t2, r2, m2, p2, fun z H3 ⟨d3, M3, t3, r3, m3, k, e, p3, p4⟩ => by
      subst e
      cases r3
      refine ⟨k, rfl, ?_⟩
      cases k with
      | false => exact ⟨false, rfl, M3, (t.trans t2).trans t3, m3, p4 rfl⟩
      | true => exact tw (p3 rfl) (((hs.mono t).mono t2).mono t3) m3 fun v4 H4 d4 M4 t4 r4 m4 p5 => ⟨d2, d4, M4, _, (r2.mono t3).mono t4, r4, m4, p5, fun z H5 ⟨d5, M5, t5, r5, m5, k', e', p6⟩ => by
          subst e'
          cases r5
          exact ⟨k', rfl, M5, (((t.trans t2).trans t3).trans t4).trans t5, m5, p6⟩⟩⟩
/-! ### tests -/
theorem wt_val (h : WE X e Γ M (asT PT')) (he : ∀ whole, isTrue e X.env whole = (do let v ← whole; standAt e.pos; holding [v] (truthy v)) := by intro _; rfl) : WT X e Γ M PT' :=
  wt_of (pt_val pe_w he) fun σ H hs hm => tw h hs hm fun v H1 d M1 t r m ⟨k, e, p⟩ => by
    subst e
    cases r
    exact ⟨k, rfl, M1, t, m, p⟩
/-- truth by data -/
def TruD (d : D) (M : Mem) (k : Bool) : Prop := match d with
  | .non => k = false
  | .bl b => k = b
  | .int i => k = (i != 0)
  | .str y => y.length ≤ sizeLine ∧ k = ((y.length : Int) != 0)
  | .tup l => k = !l.isEmpty
  | .rol l => k = !l.isEmpty
  | .ref a => (∃ ds, M a = some (.lst ds) ∧ k = !ds.isEmpty) ∨ ∃ kvs, M a = some (.dK kvs) ∧ k = !kvs.isEmpty
  | _ => False
theorem empty_of {H : Hp} {l : List D} {xs : List V} (r : IsL H l xs) : xs.isEmpty = l.isEmpty := by
  cases r <;> rfl
theorem emptyK_of {κ : Type} {H : Hp} {l : List (κ × D)} {xs : List (κ × V)} (r : IsKV H l xs) : xs.isEmpty = l.isEmpty := by
  cases r <;> rfl
theorem wt_truth (h : WE X e Γ M fun d M1 => ∃ k, TruD d M1 k ∧ PT' k M1) (he : ∀ whole, isTrue e X.env whole = (do let v ← whole; standAt e.pos; holding [v] (truthy v)) := by intro _; rfl) : WT X e Γ M PT' :=
  wt_of (pt_truth pe_w he) fun σ H hs hm => tw h hs hm fun v H1 d M1 t r m ⟨k, e, p⟩ => by
    refine ⟨k, ?_, M1, t, m, p⟩
    cases r with
    | non => exact e
    | bl b => exact e
    | int i => exact e
    | str y => exact e
    | ty n => exact e
    | tup h1 h2 => exact .inr (.inl ⟨_, SqT.of h1, by rw [empty_of h2]; exact e⟩)
    | rol h1 h2 =>
      obtain ⟨o, h1⟩ := h1
      exact .inl ⟨_, .inl (.inr ⟨o, h1⟩), by rw [empty_of h2]; exact e⟩
    | ref a =>
      rcases e with ⟨ds, h1, e⟩ | ⟨ds, h1, e⟩
      · obtain ⟨xs, h2, h3⟩ := m _ _ h1
        exact .inl ⟨xs, SqL.of h2, by rw [empty_of h3]; exact e⟩
      · obtain ⟨xs, h2, h3⟩ := m _ _ h1
        exact .inr (.inr ⟨xs, h2, by rw [emptyK_of h3]; exact e⟩)
theorem ww_and1 (h : WT X a Γ M PT') : WW X (.BoolOp .And [a] pos) Γ M PT' := ww_of (pw_and1 pt_w) fun σ H hs hm => twt h hs hm fun v H' M' t m p => ⟨M', t, m, p⟩
theorem ww_or1 (h : WT X a Γ M PT') : WW X (.BoolOp .Or [a] pos) Γ M PT' := ww_of (pw_or1 pt_w) fun σ H hs hm => twt h hs hm fun v H' M' t m p => ⟨M', t, m, p⟩
theorem ww_and {rest : List Expr} (h : WT X a Γ M fun k M1 => (k = true → WW X (.BoolOp .And (b :: rest) pos) Γ M1 PT') ∧ (k = false → PT' false M1)) : WW X (.BoolOp .And (a :: b :: rest) pos) Γ M PT' :=
  ww_of (pw_and pt_w pw_w) fun σ H hs hm => twt h hs hm fun k H1 M1 t m ⟨p, q⟩ => by
    cases k with
    | true => exact tww (p rfl) (hs.mono t) m fun v H2 M2 t2 m2 p2 => ⟨M2, t.trans t2, m2, p2⟩
    | false => exact ⟨M1, t, m, q rfl⟩
theorem ww_or {rest : List Expr} (h : WT X a Γ M fun k M1 => (k = false → WW X (.BoolOp .Or (b :: rest) pos) Γ M1 PT') ∧ (k = true → PT' true M1)) : WW X (.BoolOp .Or (a :: b :: rest) pos) Γ M PT' :=
  ww_of (pw_or pt_w pw_w) fun σ H hs hm => twt h hs hm fun k H1 M1 t m ⟨p, q⟩ => by
    cases k with
    | false => exact tww (p rfl) (hs.mono t) m fun v H2 M2 t2 m2 p2 => ⟨M2, t.trans t2, m2, p2⟩
    | true => exact ⟨M1, t, m, q rfl⟩
theorem wt_ww (h : WW X e Γ M PT') : WT X e Γ M PT' := ⟨h.run _⟩
theorem wt_not (h : WT X a Γ M fun k M1 => PT' (!k) M1) : WT X (.UnaryOp .Not a pos) Γ M PT' := wt_of (pt_not pt_w) fun σ H hs hm => twt h hs hm fun v H' M' t m p => ⟨M', t, m, p⟩
/-! ### and, or, not as values -/
theorem we_one {op : BoolOp} (h : WE X a Γ M P) : WE X (.BoolOp op [a] pos) Γ M P := we_of (pe_one pe_w) fun σ H hs hm => tw h hs hm fun v H1 d M1 t r m p => ⟨d, M1, t, r, m, p⟩
theorem we_and {rest : List Expr} (h : WE X a Γ M fun d M1 => ∃ k, d = .bl k ∧ (k = true → WE X (.BoolOp .And (b :: rest) pos) Γ M1 P) ∧ (k = false → P (.bl false) M1)) : WE X (.BoolOp .And (a :: b :: rest) pos) Γ M P :=
  we_of (pe_and pe_w pe_w) fun σ H hs hm => tw h hs hm fun v H1 d M1 t r m ⟨k, e, p, q⟩ => by
    subst e
    cases r
    refine ⟨k, rfl, ?_⟩
    cases k with
    | true => exact tw (p rfl) (hs.mono t) m fun v H2 d M2 t2 r2 m2 p2 => ⟨d, M2, t.trans t2, r2, m2, p2⟩
    | false => exact ⟨.bl false, M1, t, .bl _, m, q rfl⟩
theorem we_or {rest : List Expr} (h : WE X a Γ M fun d M1 => ∃ k, d = .bl k ∧ (k = false → WE X (.BoolOp .Or (b :: rest) pos) Γ M1 P) ∧ (k = true → P (.bl true) M1)) : WE X (.BoolOp .Or (a :: b :: rest) pos) Γ M P :=
  we_of (pe_or pe_w pe_w) fun σ H hs hm => tw h hs hm fun v H1 d M1 t r m ⟨k, e, p, q⟩ => by
    subst e
    cases r
    refine ⟨k, rfl, ?_⟩
    cases k with
    | false => exact tw (p rfl) (hs.mono t) m fun v H2 d M2 t2 r2 m2 p2 => ⟨d, M2, t.trans t2, r2, m2, p2⟩
    | true => exact ⟨.bl true, M1, t, .bl _, m, q rfl⟩
theorem we_not (h : WE X a Γ M fun d M1 => ∃ k, d = .bl k ∧ P (.bl (!k)) M1) : WE X (.UnaryOp .Not a pos) Γ M P :=
  we_of (pe_not pe_w) fun σ H hs hm => tw h hs hm fun v H1 d M1 t r m ⟨k, e, p⟩ => by
    subst e
    cases r
    exact ⟨k, rfl, .bl (!k), M1, t, .bl _, m, p⟩
theorem we_ifexp (h : WT X c Γ M fun k M1 => (k = true → WE X a Γ M1 P) ∧ (k = false → WE X b Γ M1 P)) : WE X (.IfExp c a b pos) Γ M P :=
  we_of (pe_ifExp pt_w pe_w pe_w) fun σ H hs hm => twt h hs hm fun k H1 M1 t m ⟨p, q⟩ => by
    cases k with
    | true => exact tw (p rfl) (hs.mono t) m fun v H2 d M2 t2 r2 m2 p2 => ⟨d, M2, t.trans t2, r2, m2, p2⟩
    | false => exact tw (q rfl) (hs.mono t) m fun v H2 d M2 t2 r2 m2 p2 => ⟨d, M2, t.trans t2, r2, m2, p2⟩
theorem we_neg (h : WE X a Γ M fun d M1 => ∃ i, d = .int i ∧ P (.int (-i)) M1) : WE X (.UnaryOp .USub a pos) Γ M P :=
  we_of (pe_un un_neg pe_w) fun σ H hs hm => tw h hs hm fun v H1 d M1 t r m ⟨k, e, p⟩ => by
    subst e
    cases r
    exact ⟨k, rfl, .int (-k), M1, t, .int _, m, p⟩
end
end DL

set_option Elab.async false
set_option linter.all false
set_option maxRecDepth 100000
set_option maxHeartbeats 4000000
/-! DLc: operators, comparisons, subscripts, slices, built-in functions, by data. -/
namespace DL
open PySem PySem.Spec PyProof.Rows L2
theorem rI_i {H : Hp} {v : V} {i : Int} (r : Is H (.int i) v) : v = .int i := by cases r; rfl
theorem rI_s {H : Hp} {v : V} {i : Str} (r : Is H (.str i) v) : v = .str i := by cases r; rfl
theorem rI_b {H : Hp} {v : V} {i : Bool} (r : Is H (.bl i) v) : v = .bl i := by cases r; rfl
theorem rI_r {H : Hp} {v : V} {i : Addr} (r : Is H (.ref i) v) : v = .ref i := by cases r; rfl
theorem rI_n {H : Hp} {v : V} (r : Is H .non v) : v = .non := by cases r; rfl
theorem rI_t {H : Hp} {v : V} {l : List D} (r : Is H (.tup l) v) : ∃ a xs, v = .ref a ∧ H a = some (.tup xs) ∧ IsL H l xs := by
  cases r with
  | tup h1 h2 => exact ⟨_, _, rfl, h1, h2⟩
theorem rI_l {H : Hp} {v : V} {l : List D} (r : Is H (.rol l) v) : ∃ a xs, v = .ref a ∧ FzL H a xs ∧ IsL H l xs := by
  cases r with
  | rol h1 h2 => exact ⟨_, _, rfl, h1, h2⟩
theorem FzL.sq {K : PySem.W.Frag} {H : Hp} {a : Addr} {xs : List V} (h : FzL H a xs) : SqL K H a xs := let ⟨o, h⟩ := h; .inl (.inr ⟨o, h⟩)
section
variable {X : Cx} {H : Hp}
theorem fin {P : PD} {d : D} {v : V} {M : Mem} (r : Is H d v) (hm : RelM H M) (p : P d M) : PostE H P v H := ⟨d, M, Tx.refl H, r, hm, p⟩
theorem fin_new {P : PD} {ds : List D} {xs : List V} {M : Mem} {q : Addr} (hq : H q = none) (r : IsL H ds xs) (hm : RelM H M) (p : ∀ q, M q = none → P (.ref q) (put M q (.lst ds))) : PostE H P (.ref q) (upd H q (.lst xs)) :=
  ⟨.ref q, put M q (.lst ds), Tx.new hq, .ref q, hm.new hq (show MOk _ _ (.lst ds) from ⟨xs, upd_same, r.mono (Tx.new hq)⟩), p q (hm.free hq)⟩
theorem fin_tup {P : PD} {ds : List D} {xs : List V} {M : Mem} {q : Addr} (hq : H q = none) (r : IsL H ds xs) (hm : RelM H M) (p : P (.tup ds) M) : PostE H P (.ref q) (upd H q (.tup xs)) :=
  ⟨.tup ds, M, Tx.new hq, .tup upd_same (r.mono (Tx.new hq)), hm.fresh hq, p⟩
theorem fin_set {P : PD} {d : D} {v : V} {u o : HO} {m : MO} {M : Mem} {q : Addr} (hq : H q = some u) (nt : ∀ xs, u ≠ .tup xs) (nf : ∀ ob w, u ≠ .frz ob w) (r : Is H d v) (hm : RelM H M) (ok : MOk (upd H q o) q m) (p : P d (put M q m)) : PostE H P v (upd H q o) :=
  ⟨d, put M q m, Tx.mut hq nt nf, r.mono (Tx.mut hq nt nf), hm.set hq nt nf ok, p⟩
/-! ### arithmetic -/
def BAdd : B2 := fun x y M P => match x, y with
  | .int i, .int j => P (.int (i + j)) M
  | .str i, .str j => i.length + j.length ≤ sizeLine ∧ P (.str (i ++ j)) M
  | .tup a, .tup b => a.length + b.length ≤ sizeLine ∧ P (.tup (a ++ b)) M
  | .ref a, .ref b => ∃ xs ys, M a = some (.lst xs) ∧ M b = some (.lst ys) ∧ xs.length + ys.length ≤ sizeLine ∧ ∀ p, M p = none → P (.ref p) (put M p (.lst (xs ++ ys)))
  | _, _ => False
theorem op_addAll : OpR X (binaryOp .Add) (fun x y H Q => (rI0 fun i j => .int (i + j)) x y H Q ∨ (∃ i j, x = .str i ∧ y = .str j ∧ i.length + j.length ≤ sizeLine ∧ Q (.str (i ++ j)) H) ∨ rCatA X.K x y H Q ∨ rCat x y H Q) := op_add.or (op_add_str.or (op_catA.or op_cat))
theorem od_add : OpD X (binaryOp .Add) BAdd := .of op_addAll fun H x y xv yv M P hx hy hm hb => by
  cases x with
  | int i =>
    cases y with
    | int j =>
      cases hx
      cases hy
      exact .inl ⟨i, j, rfl, rfl, fin (.int _) hm hb⟩
    | _ => exact False.elim hb
  | str i =>
    cases y with
    | str j =>
      cases hx
      cases hy
      exact .inr (.inl ⟨i, j, rfl, rfl, hb.1, fin (.str _) hm hb.2⟩)
    | _ => exact False.elim hb
  | tup l =>
    cases y with
    | tup m =>
      obtain ⟨hz, p⟩ := hb
      obtain ⟨a, xs, rfl, ha, ra⟩ := rI_t hx
      obtain ⟨b, ys, rfl, hb', rb⟩ := rI_t hy
      refine .inr (.inr (.inl ⟨a, b, xs, ys, rfl, rfl, SqT.of ha, SqT.of hb', by rw [← ra.length, ← rb.length]; exact hz, fun e => ?_, fun _ e => ?_, fun _ _ q hq => fin_tup hq (ra.append rb) hm p⟩))
      · subst e
        cases ra
        exact fin (.tup hb' rb) hm p
      · subst e
        cases rb
        rw [List.append_nil] at p
        exact fin (.tup ha ra) hm p
    | _ => exact False.elim hb
  | ref a =>
    cases y with
    | ref b =>
      obtain ⟨ds, es, ha, hb', hz, p⟩ := hb
      cases hx
      cases hy
      obtain ⟨xs, h1, r1⟩ := hm a _ ha
      obtain ⟨ys, h2, r2⟩ := hm b _ hb'
      exact .inr (.inr (.inr ⟨a, b, xs, ys, rfl, rfl, h1, h2, by rw [← r1.length, ← r2.length]; exact hz, fun q hq => fin_new hq (r1.append r2) hm p⟩))
    | _ => exact False.elim hb
  | _ => exact False.elim hb
/-- ints in, an int out -/
def BI (C : Int → Int → Prop) (g : Int → Int → Int) : B2 := fun x y M P => match x, y with
  | .int i, .int j => C i j ∧ P (.int (g i j)) M
  | _, _ => False
def BI0 (g : Int → Int → Int) : B2 := fun x y M P => match x, y with
  | .int i, .int j => P (.int (g i j)) M
  | _, _ => False
def BB0 (g : Int → Int → Bool) : B2 := fun x y M P => match x, y with
  | .int i, .int j => P (.bl (g i j)) M
  | _, _ => False
theorem odI {f : Value → Value → Sem Value} {C : Int → Int → Prop} {g : Int → Int → Int} (h : OpR X f (rI C fun i j => .int (g i j))) : OpD X f (BI C g) := .of h fun H x y xv yv M P hx hy hm hb => by
  cases x with
  | int i =>
    cases y with
    | int j =>
      cases hx
      cases hy
      exact ⟨i, j, rfl, rfl, hb.1, fin (.int _) hm hb.2⟩
    | _ => exact False.elim hb
  | _ => exact False.elim hb
theorem odI0 {f : Value → Value → Sem Value} {g : Int → Int → Int} (h : OpR X f (rI0 fun i j => .int (g i j))) : OpD X f (BI0 g) := .of h fun H x y xv yv M P hx hy hm hb => by
  cases x with
  | int i =>
    cases y with
    | int j =>
      cases hx
      cases hy
      exact ⟨i, j, rfl, rfl, fin (.int _) hm hb⟩
    | _ => exact False.elim hb
  | _ => exact False.elim hb
theorem odB0 {f : Value → Value → Sem Value} {g : Int → Int → Bool} (h : OpR X f (rI0 fun i j => .bl (g i j))) : OpD X f (BB0 g) := .of h fun H x y xv yv M P hx hy hm hb => by
  cases x with
  | int i =>
    cases y with
    | int j =>
      cases hx
      cases hy
      exact ⟨i, j, rfl, rfl, fin (.bl _) hm hb⟩
    | _ => exact False.elim hb
  | _ => exact False.elim hb
theorem od_sub : OpD X (binaryOp .Sub) (BI0 fun i j => i - j) := odI0 op_sub
theorem od_div : OpD X (binaryOp .FloorDiv) (BI CDiv fun i j => i / j) := odI op_fdiv
theorem od_mod : OpD X (binaryOp .Mod) (BI (fun _ j => 0 < j) fun i j => i % j) := odI op_mod
theorem od_pow : OpD X (binaryOp .Pow) (BI CPow fun i j => i ^ j.toNat) := odI op_pow
def BMul : B2 := fun x y M P => match x, y with
  | .int i, .int j => CMul i j ∧ P (.int (i * j)) M
  | .ref a, .int k => ∃ xs, M a = some (.lst xs) ∧ -(2 ^ 63) ≤ k ∧ k < 2 ^ 63 ∧ xs.length * k.toNat ≤ sizeLine ∧ ∀ p, M p = none → P (.ref p) (put M p (.lst (List.replicate k.toNat xs).flatten))
  | _, _ => False
theorem IsL.repl {H : Hp} {l : List D} {xs : List V} (r : IsL H l xs) : ∀ n : Nat, IsL H (List.replicate n l).flatten (List.replicate n xs).flatten
  | 0 => .nil
  | n + 1 => by
    rw [List.replicate_succ, List.replicate_succ, List.flatten_cons, List.flatten_cons]
    exact r.append (IsL.repl r n)
theorem op_mulAll : OpR X (binaryOp .Mult) (fun x y H Q => (rI CMul fun i j => .int (i * j)) x y H Q ∨ rRep x y H Q) := op_mul.or op_rep
theorem od_mul : OpD X (binaryOp .Mult) BMul := .of op_mulAll fun H x y xv yv M P hx hy hm hb => by
  cases x with
  | int i =>
    cases y with
    | int j =>
      cases hx
      cases hy
      exact .inl ⟨i, j, rfl, rfl, hb.1, fin (.int _) hm hb.2⟩
    | _ => exact False.elim hb
  | ref a =>
    cases y with
    | int k =>
      obtain ⟨ds, ha, h1, h2, hz, p⟩ := hb
      cases hx
      cases hy
      obtain ⟨xs, e1, r1⟩ := hm a _ ha
      exact .inr ⟨a, k, xs, rfl, rfl, e1, h1, h2, by rw [← r1.length]; exact hz, fun q hq => fin_new hq (r1.repl _) hm p⟩
    | _ => exact False.elim hb
  | _ => exact False.elim hb
/-! ### comparisons -/
theorem od_lt : OpD X (compareOp .Lt) (BB0 fun i j => decide (i < j)) := odB0 op_lt
theorem od_le : OpD X (compareOp .LtE) (BB0 fun i j => decide (i ≤ j)) := odB0 op_le
theorem od_gt : OpD X (compareOp .Gt) (BB0 fun i j => decide (j < i)) := odB0 op_gt
theorem od_ge : OpD X (compareOp .GtE) (BB0 fun i j => decide (j ≤ i)) := odB0 op_ge
def BEqu : B2 := fun x y M P => match x, y with
  | .int i, .int j => P (.bl (decide (i = j))) M
  | .str i, .str j => P (.bl (decide (i = j))) M
  | .bl i, .bl j => P (.bl (decide (i = j))) M
  | .non, .non => P (.bl true) M
  | .non, .int _ => P (.bl false) M
  | .int _, .non => P (.bl false) M
  | .non, .bl _ => P (.bl false) M
  | .bl _, .non => P (.bl false) M
  | .non, .str _ => P (.bl false) M
  | .str _, .non => P (.bl false) M
  | .int _, .str _ => P (.bl false) M
  | .str _, .int _ => P (.bl false) M
  | .bl _, .str _ => P (.bl false) M
  | .str _, .bl _ => P (.bl false) M
  | _, _ => False
theorem fin_b {P : PD} {M : Mem} {k k' : Bool} (hm : RelM H M) (p : P (.bl k) M) (e : k' = k) : PostE H P (.bl k') H := by
  subst e
  exact fin (.bl _) hm p
theorem od_eq : OpD X (compareOp .Eq) BEqu := .of op_eq fun H x y xv yv M P hx hy hm hb => by
  cases x <;> cases y <;> first
    | exact False.elim hb
    | (cases hx; cases hy; exact ⟨rfl, fin_b hm hb (by simp)⟩)
def BNe : B2 := fun x y M P => match x, y with
  | .int i, .int j => P (.bl (!decide (i = j))) M
  | .str i, .str j => P (.bl (!decide (i = j))) M
  | .bl i, .bl j => P (.bl (!decide (i = j))) M
  | .non, .non => P (.bl false) M
  | .non, .int _ => P (.bl true) M
  | .int _, .non => P (.bl true) M
  | .non, .bl _ => P (.bl true) M
  | .bl _, .non => P (.bl true) M
  | .non, .str _ => P (.bl true) M
  | .str _, .non => P (.bl true) M
  | .int _, .str _ => P (.bl true) M
  | .str _, .int _ => P (.bl true) M
  | .bl _, .str _ => P (.bl true) M
  | .str _, .bl _ => P (.bl true) M
  | _, _ => False
theorem od_ne : OpD X (compareOp .NotEq) BNe := .of op_ne fun H x y xv yv M P hx hy hm hb => by
  cases x <;> cases y <;> first
    | exact False.elim hb
    | (cases hx; cases hy; exact ⟨rfl, fin_b hm hb (by simp)⟩)
def isN : D → Bool
  | .non => true
  | _ => false
theorem isN_of {d : D} {v : V} (r : Is H d v) : decide (v = .non) = isN d := by
  cases r <;> simp [isN]
def BIs : B2 := fun x y M P => match y with
  | .non => P (.bl (isN x)) M
  | _ => False
def BIsNot : B2 := fun x y M P => match y with
  | .non => P (.bl (!isN x)) M
  | _ => False
theorem od_is : OpD X (compareOp .Is) BIs := .of op_isN fun H x y xv yv M P hx hy hm hb => by
  cases y with
  | non => cases hy; exact ⟨rfl, fin_b hm hb (isN_of hx)⟩
  | _ => exact False.elim hb
theorem od_isnot : OpD X (compareOp .IsNot) BIsNot := .of op_notN fun H x y xv yv M P hx hy hm hb => by
  cases y with
  | non => cases hy; exact ⟨rfl, fin_b hm hb (by rw [isN_of hx])⟩
  | _ => exact False.elim hb
/-- flat data as values -/
def toV : D → Option V
  | .non => some .non
  | .bl b => some (.bl b)
  | .int i => some (.int i)
  | .str x => some (.str x)
  | _ => none
theorem toV_of {d : D} {v u : V} (h : toV d = some u) (r : Is H d v) : v = u ∧ flatV u = true := by
  cases r <;> cases h <;> exact ⟨rfl, rfl⟩
theorem toVs_of : ∀ {l : List D} {xs us : List V}, l.mapM toV = some us → IsL H l xs → xs = us ∧ us.all flatV = true
  | [], xs, us, h, r => by
    cases r
    cases h
    exact ⟨rfl, rfl⟩
  | d :: l, xs, us, h, r => by
    cases r with
    | cons r1 r2 =>
      rw [List.mapM_cons] at h
      cases h1 : toV d with
      | none => rw [h1] at h; cases h
      | some u =>
        rw [h1] at h
        cases h2 : l.mapM toV with
        | none => rw [h2] at h; cases h
        | some us' =>
          rw [h2] at h
          cases h
          obtain ⟨e1, f1⟩ := toV_of h1 r1
          obtain ⟨e2, f2⟩ := toVs_of h2 r2
          refine ⟨by rw [e1, e2], ?_⟩
          rw [List.all_cons, f1, f2]
          rfl
/-- x in a tuple, a list of flat things -/
def BIn (neg : Bool) : B2 := fun x y M P => ∃ u l us, toV x = some u ∧ (y = .tup l ∨ (∃ a, y = .ref a ∧ M a = some (.lst l))) ∧ l.mapM toV = some us ∧ P (.bl (if neg then !inV u us else inV u us)) M
theorem odIn {neg : Bool} {f : Value → Value → Sem Value} (h : OpR X f (rIn X.K neg)) : OpD X f (BIn neg) := .of h fun H x y xv yv M P hx hy hm ⟨u, l, us, hu, hl, hus, p⟩ => by
  obtain ⟨e1, f1⟩ := toV_of hu hx
  subst e1
  rcases hl with e | ⟨a, e, ha⟩
  · subst e
    obtain ⟨a, xs, rfl, h1, h2⟩ := rI_t hy
    obtain ⟨e2, f2⟩ := toVs_of hus h2
    subst e2
    exact ⟨a, xs, rfl, .inr (SqT.of h1), f1, f2, fin (.bl _) hm p⟩
  · subst e
    cases hy
    obtain ⟨xs, h1, h2⟩ := hm a _ ha
    obtain ⟨e2, f2⟩ := toVs_of hus h2
    subst e2
    exact ⟨a, xs, rfl, .inl (SqL.of h1), f1, f2, fin (.bl _) hm p⟩
theorem od_in : OpD X (compareOp .In) (BIn false) := odIn op_in_seq
theorem od_notin : OpD X (compareOp .NotIn) (BIn true) := odIn op_notIn_seq
/-! ### subscripts -/
def IxD : D → D → Mem → PD → Prop := fun x y M P => match x, y with
  | .tup l, .int i => ∃ d, atI l i = some d ∧ P d M
  | .rol l, .int i => ∃ d, atI l i = some d ∧ P d M
  | .ref a, .int i => ∃ l d, M a = some (.lst l) ∧ atI l i = some d ∧ P d M
  | .str z, .int i => z.length ≤ sizeLine ∧ ∃ c, atI z.cps.toList i = some c ∧ P (.str ⟨#[c]⟩) M
  | _, _ => False
theorem IsL.at_ {l : List D} {xs : List V} {i : Int} {d : D} (r : IsL H l xs) (h : atI l i = some d) : ∃ v, atI xs i = some v ∧ Is H d v := by
  unfold atI at h ⊢
  rw [← r.length]
  cases q : ixN l.length i with
  | none => rw [q] at h; cases h
  | some j =>
    rw [q] at h
    exact r.get h
theorem we_sub {a b : Expr} {Γ : Sl} {M : Mem} {P : PD} {pos : Pos} (h : WE X a Γ M fun x M1 => WE X b Γ M1 fun y M2 => IxD x y M2 P) (hs : PlainIx b := by exact fun _ _ => rfl) : WE X (.Subscript a b pos) Γ M P :=
  we_of (pe_ix ix_seq pe_w pe_w hs) fun σ H hs hm => tw h hs hm fun v H1 d M1 t r m p => tw p (hs.mono t) m fun v2 H2 d2 M2 t2 r2 m2 p2 => by
    have r := r.mono t2
    have k : ∀ {v : V} {e : D}, Is H2 e v → P e M2 → PostE H P v H2 := fun z p => ⟨_, M2, t.trans t2, z, m2, p⟩
    cases d with
    | tup l =>
      cases d2 with
      | int i =>
        cases r2
        obtain ⟨a, xs, rfl, h1, h2⟩ := rI_t r
        obtain ⟨e, he, p2⟩ := p2
        obtain ⟨u, hu, ru⟩ := h2.at_ he
        exact .inr (.inl ⟨a, xs, i, u, rfl, rfl, SqT.of h1, hu, k ru p2⟩)
      | _ => exact False.elim p2
    | rol l =>
      cases d2 with
      | int i =>
        cases r2
        obtain ⟨a, xs, rfl, h1, h2⟩ := rI_l r
        obtain ⟨e, he, p2⟩ := p2
        obtain ⟨u, hu, ru⟩ := h2.at_ he
        exact .inl ⟨a, xs, i, u, rfl, rfl, h1.sq, hu, k ru p2⟩
      | _ => exact False.elim p2
    | ref a =>
      cases d2 with
      | int i =>
        cases r2
        cases r
        obtain ⟨l, e, hl, he, p2⟩ := p2
        obtain ⟨xs, h1, h2⟩ := m2 a _ hl
        obtain ⟨u, hu, ru⟩ := h2.at_ he
        exact .inl ⟨a, xs, i, u, rfl, rfl, SqL.of h1, hu, k ru p2⟩
      | _ => exact False.elim p2
    | str z =>
      cases d2 with
      | int i =>
        cases r2
        cases r
        obtain ⟨hz, c, hc, p2⟩ := p2
        exact .inr (.inr ⟨z, i, c, rfl, rfl, hz, hc, k (.str _) p2⟩)
      | _ => exact False.elim p2
    | _ => exact False.elim p2
/-! ### slices -/
def cutD (xs : List D) (lo hi : Option Int) : List D := (xs.drop (HT.sIx xs.length 0 lo)).take (HT.sIx xs.length xs.length hi - HT.sIx xs.length 0 lo)
theorem IsL.cut {l : List D} {xs : List V} (r : IsL H l xs) (lo hi : Option Int) : IsL H (cutD l lo hi) (cutV xs lo hi) := by
  unfold cutD cutV
  rw [r.length]
  exact (r.drop _).take _
def tWO (X : Cx) (e : Option Expr) : TO := match e with
  | none => tNoPart
  | some e => tPart (tW X e)
theorem po_w {e : Option Expr} : PO X e (tWO X e) := by
  cases e with
  | none => exact po_none
  | some e => exact po_some pe_w
/-- a part: none, or an int's expression -/
def WP (X : Cx) (e : Option Expr) (Γ : Sl) (M : Mem) (P : Option Int → Mem → Prop) : Prop := match e with
  | none => P none M
  | some e => WE X e Γ M fun d M1 => ∃ i, d = .int i ∧ P (some i) M1
theorem two {e : Option Expr} {Γ : Sl} {M : Mem} {P : Option Int → Mem → Prop} {σ : L2.St} {H : Hp} {Q : Option Int → Hp → Prop} (h : WP X e Γ M P) (hs : SIs H σ Γ) (hm : RelM H M) (k : ∀ o H' M', Tx H H' → RelM H' M' → P o M' → Q o H') : tWO X e σ H Q := by
  cases e with
  | none => exact k none H M (Tx.refl H) hm h
  | some e =>
    refine tw h hs hm fun v H1 d M1 t r m ⟨i, ei, p⟩ => ?_
    subst ei
    cases r
    exact ⟨i, rfl, k _ _ _ t m p⟩
def SlD : D → Option Int → Option Int → Mem → PD → Prop := fun x lo hi M P => match x with
  | .tup l => P (.tup (cutD l lo hi)) M
  | .ref a => ∃ l, M a = some (.lst l) ∧ ∀ p, M p = none → P (.ref p) (put M p (.lst (cutD l lo hi)))
  | .str z => z.length ≤ sizeLine ∧ P (.str (cutS z lo hi)) M
  | _ => False
theorem SlR.or {r r' : V → Option Int → Option Int → Hp → VK → Prop} (h : SlR X r) (h' : SlR X r') : SlR X (fun x lo hi H Q => r x lo hi H Q ∨ r' x lo hi H Q) := by
  intro pins s σ H x v lo hi a b Q I
  intros
  rename_i q
  rcases q with q | q
  · apply h <;> assumption
  · apply h' <;> assumption
theorem cutV_all {xs : List V} {lo hi : Option Int} (h1 : HT.sIx xs.length 0 lo = 0) (h2 : HT.sIx xs.length xs.length hi = xs.length) : cutV xs lo hi = xs := by
  unfold cutV
  rw [h1, h2]
  simp
theorem we_slice {e : Expr} {lo hi : Option Expr} {p2 pos : Pos} {Γ : Sl} {M : Mem} {P : PD} (h : WE X e Γ M fun x M1 => WP X lo Γ M1 fun l M2 => WP X hi Γ M2 fun u M3 => SlD x l u M3 P) : WE X (.Subscript e (.Slice lo hi none p2) pos) Γ M P :=
  we_of (pe_slice (SlR.or sl_list (SlR.or sl_tupA sl_str)) pe_w po_w po_w) fun σ H hs hm => tw h hs hm fun v H1 d M1 t r m p => two p (hs.mono t) m fun l H2 M2 t2 m2 p2 => two p2 ((hs.mono t).mono t2) m2 fun u H3 M3 t3 m3 p3 => by
    have r := (r.mono t2).mono t3
    have T := (t.trans t2).trans t3
    cases d with
    | tup x =>
      obtain ⟨a, xs, rfl, h1, h2⟩ := rI_t r
      refine .inr (.inl ⟨a, xs, rfl, SqT.of h1, fun ⟨e1, e2⟩ => ?_, fun _ q hq => ?_⟩)
      · refine ⟨.tup (cutD x l u), M3, T, .tup h1 ?_, m3, p3⟩
        have z := h2.cut l u
        rw [cutV_all e1 e2] at z
        exact z
      · obtain ⟨d', M', t', r', m', p'⟩ := fin_tup hq (h2.cut l u) m3 p3
        exact ⟨d', M', T.trans t', r', m', p'⟩
    | ref a =>
      cases r
      obtain ⟨x, hx, p3⟩ := p3
      obtain ⟨xs, h1, h2⟩ := m3 a _ hx
      refine .inl ⟨a, xs, rfl, SqL.of h1, fun q hq => ?_⟩
      obtain ⟨d', M', t', r', m', p'⟩ := fin_new hq (h2.cut l u) m3 p3
      exact ⟨d', M', T.trans t', r', m', p'⟩
    | str z =>
      cases r
      exact .inr (.inr ⟨z, rfl, p3.1, .str _, M3, T, .str _, m3, p3.2⟩)
    | _ => exact False.elim p3
end
end DL

set_option Elab.async false
set_option linter.all false
set_option maxRecDepth 100000
set_option maxHeartbeats 4000000
/-! DLd: calls of built-ins and of own defs, attributes, methods, dicts, by data. -/
namespace DL
open PySem PySem.Spec PyProof.Rows L2
/-! ### built-ins by values -/
abbrev BC := List D → Mem → PD → Prop
def CaD (X : Cx) (f : Value) (B : BC) : Prop := ∀ (pins : List (Addr × Obj)) (s : Shared) (σ : L2.St) (H : Hp) (ds : List D) (xs : List V) (us : List Value) (M : Mem) (P : PD), Inv X pins σ H s → Vals xs us → IsL H ds xs → RelM H M → B ds M P →
  wpAny (model X.prog X.w) X.A (call f us) (EP X pins σ (PostE H P)) X.xe s
def rC (B : BC) : List V → Hp → VK → Prop := fun xs H Q => ∃ ds M P, IsL H ds xs ∧ RelM H M ∧ B ds M P ∧ ∀ v H', PostE H P v H' → Q v H'
section
variable {X : Cx} {H : Hp} {Γ : Sl} {M : Mem} {P : PD} {pos p : Pos} {e o : Expr} {es : List Expr} {x : Str}
theorem CaD.r {f : Value} {B : BC} (h : CaD X f B) : CallR X f (rC B) := fun pins s σ H xs us Q I r ⟨ds, M, P, hd, hm, hb, k⟩ => thn (h pins s σ H ds xs us M P I r hd hm hb) fun u' s' ⟨v', H', I', r', q⟩ => ⟨v', H', I', r', k v' H' q⟩
theorem CaD.of {f : Value} {r : List V → Hp → VK → Prop} {B : BC} (h : CallR X f r) (k : ∀ (H : Hp) (ds : List D) (xs : List V) (M : Mem) (P : PD), IsL H ds xs → RelM H M → B ds M P → r xs H (PostE H P)) : CaD X f B :=
  fun pins s σ H ds xs us M P I r hd hm hb => h pins s σ H xs us _ I r (k H ds xs M P hd hm hb)
theorem we_callB {id : String} {B : BC} (hc : CaD X (.builtin id) B) (hm : X.mg x = none) (h : WA X (e :: es) Γ M fun ds M1 => B ds M1 P) (hg : Gl X x := by rfl) (hv : bootBuiltins x = some (.builtin id) := by decide +kernel) (hn : x ≠ "__name__" := by decide) (hdb : (x == ("__debug__" : Str)) = false := by decide)
    (he : starEach (e :: es) X.env = (false, eval e X.env) :: starEach es X.env := by rfl) (hpl : (backTo pos (starEach es X.env)).any (·.1) = false := by rfl) : WE X (.Call (.Name x p) (e :: es) [] pos) Γ M P :=
  we_of (pe_callB hc.r hg hm hv pa_w hn hdb he hpl) fun σ H hs hm => twa h hs hm fun vs H1 ds M1 t r m p => ⟨ds, M1, P, r, m, p, fun v H2 ⟨d, M2, t2, r2, m2, p2⟩ => ⟨d, M2, t.trans t2, r2, m2, p2⟩⟩
theorem we_callT {T : String} {B : BC} (hc : CaD X (.type T) B) (hm : X.mg x = none) (h : WA X (e :: es) Γ M fun ds M1 => B ds M1 P) (hg : Gl X x := by rfl) (hv : bootBuiltins x = some (.type T) := by decide +kernel) (hn : x ≠ "__name__" := by decide) (hdb : (x == ("__debug__" : Str)) = false := by decide)
    (he : starEach (e :: es) X.env = (false, eval e X.env) :: starEach es X.env := by rfl) (hpl : (backTo pos (starEach es X.env)).any (·.1) = false := by rfl) : WE X (.Call (.Name x p) (e :: es) [] pos) Γ M P :=
  we_of (pe_callTy hc.r hg hm hv pa_w hn hdb he hpl) fun σ H hs hm => twa h hs hm fun vs H1 ds M1 t r m p => ⟨ds, M1, P, r, m, p, fun v H2 ⟨d, M2, t2, r2, m2, p2⟩ => ⟨d, M2, t.trans t2, r2, m2, p2⟩⟩
theorem one_of {H : Hp} {d : D} {xs : List V} (r : IsL H [d] xs) : ∃ v, xs = [v] ∧ Is H d v := by
  cases r with
  | cons r1 r2 => cases r2; exact ⟨_, rfl, r1⟩
theorem two_of {H : Hp} {d e : D} {xs : List V} (r : IsL H [d, e] xs) : ∃ v w, xs = [v, w] ∧ Is H d v ∧ Is H e w := by
  cases r with
  | cons r1 r2 =>
    obtain ⟨w, rfl, r3⟩ := one_of r2
    exact ⟨_, w, rfl, r1, r3⟩
def LenD (d : D) (M : Mem) (n : Nat) : Prop := match d with
  | .tup l => n = l.length
  | .rol l => n = l.length
  | .ref a => ∃ l, M a = some (.lst l) ∧ n = l.length
  | .str z => z.length ≤ sizeLine ∧ n = z.length
  | _ => False
def BLen : BC := fun ds M P => ∃ d n, ds = [d] ∧ LenD d M n ∧ P (.int n) M
theorem cd_len : CaD X (.builtin "len") BLen := .of call_len fun H ds xs M P r hm ⟨d, n, e, hl, p⟩ => by
  subst e
  obtain ⟨v, rfl, q1⟩ := one_of r
  revert q1
  clear r
  intro r
  refine ⟨v, n, rfl, ?_, fin (.int _) hm p⟩
  cases r with
  | tup h1 h2 => exact .inr ⟨_, SqT.of h1, by rw [← h2.length]; exact hl⟩
  | rol h1 h2 => exact .inl ⟨_, h1.sq, by rw [← h2.length]; exact hl⟩
  | ref a =>
    obtain ⟨l, h1, e⟩ := hl
    obtain ⟨xs, h2, h3⟩ := hm a _ h1
    exact .inl ⟨xs, SqL.of h2, by rw [← h3.length]; exact e⟩
  | str z => exact hl
  | _ => exact False.elim hl
def BInt : BC := fun ds M P => match ds with
  | [.int i] => P (.int i) M
  | [.bl k] => P (.int (if k then 1 else 0)) M
  | _ => False
theorem cd_int : CaD X (.type "int") BInt := .of call_int1 fun H ds xs M P r hm hb => by
  match ds, hb with
  | [.int i], hb =>
    obtain ⟨v, rfl, q1⟩ := one_of r
    revert q1
    clear r
    intro r
    cases r
    exact .inl ⟨i, rfl, fin (.int _) hm hb⟩
  | [.bl k], hb =>
    obtain ⟨v, rfl, q1⟩ := one_of r
    revert q1
    clear r
    intro r
    cases r
    exact .inr ⟨k, rfl, fin (.int _) hm hb⟩
theorem max_if (i j : Int) : (if j > i then j else i) = max i j := by
  by_cases h : j > i
  · rw [if_pos h]; omega
  · rw [if_neg h]; omega
theorem min_if (i j : Int) : (if j < i then j else i) = min i j := by
  by_cases h : j < i
  · rw [if_pos h]; omega
  · rw [if_neg h]; omega
def BMax : BC := fun ds M P => ∃ i j, ds = [.int i, .int j] ∧ P (.int (max i j)) M
def BMin : BC := fun ds M P => ∃ i j, ds = [.int i, .int j] ∧ P (.int (min i j)) M
theorem cd_max (hc : X.calm = true) : CaD X (.builtin "max") BMax := .of (call_max2 hc) fun H ds xs M P r hm ⟨i, j, e, p⟩ => by
  subst e
  obtain ⟨v, w, rfl, r1, r2⟩ := two_of r
  cases r1
  cases r2
  exact ⟨i, j, rfl, by rw [max_if]; exact fin (.int _) hm p⟩
theorem cd_min (hc : X.calm = true) : CaD X (.builtin "min") BMin := .of (call_min2 hc) fun H ds xs M P r hm ⟨i, j, e, p⟩ => by
  subst e
  obtain ⟨v, w, rfl, r1, r2⟩ := two_of r
  cases r1
  cases r2
  exact ⟨i, j, rfl, by rw [min_if]; exact fin (.int _) hm p⟩
def BMaxL : BC := fun ds M P => ∃ (a : Addr) (ns : List Int), ds = [.ref a] ∧ M a = some (.lst (ns.map D.int)) ∧ 0 < ns.length ∧ ∀ m, m ∈ ns → (∀ y, y ∈ ns → y ≤ m) → P (.int m) M
theorem cd_maxL (hc : X.calm = true) : CaD X (.builtin "max") BMaxL := .of (cr_max hc) fun H ds xs M P r hm ⟨a, ns, e, h1, h2, p⟩ => by
  subst e
  obtain ⟨v, rfl, q1⟩ := one_of r
  revert q1
  clear r
  intro r
  cases r
  obtain ⟨ys, h3, h4⟩ := hm a _ h1
  have e4 := IsL.of_ints h4
  subst e4
  exact ⟨a, ns, rfl, SqL.of h3, h2, fun m q1 q2 => fin (.int _) hm (p m q1 q2)⟩
def BTuple : BC := fun ds M P => ∃ d l, ds = [d] ∧ (d = .tup l ∨ ∃ a, d = .ref a ∧ M a = some (.lst l)) ∧ P (.tup l) M
theorem cd_tuple : CaD X (.type "tuple") BTuple := .of call_tuple_of fun H ds xs M P r hm ⟨d, l, e, h, p⟩ => by
  subst e
  obtain ⟨v, rfl, q1⟩ := one_of r
  revert q1
  clear r
  intro r
  rcases h with e | ⟨a, e, ha⟩
  · subst e
    obtain ⟨a, xs, rfl, h1, h2⟩ := rI_t r
    exact ⟨a, xs, rfl, .inr ⟨SqT.of h1, fin (.tup h1 h2) hm p⟩⟩
  · subst e
    cases r
    obtain ⟨xs, h1, h2⟩ := hm a _ ha
    exact ⟨a, xs, rfl, .inl ⟨SqL.of h1, fun q hq => fin_tup hq h2 hm p⟩⟩
def BList : BC := fun ds M P => ∃ d l, ds = [d] ∧ (d = .tup l ∨ d = .rol l ∨ ∃ a, d = .ref a ∧ M a = some (.lst l)) ∧ ∀ p, M p = none → P (.ref p) (put M p (.lst l))
theorem cd_list : CaD X (.type "list") BList := .of call_list_of fun H ds xs M P r hm ⟨d, l, e, h, p⟩ => by
  subst e
  obtain ⟨v, rfl, q1⟩ := one_of r
  revert q1
  clear r
  intro r
  rcases h with e | e | ⟨a, e, ha⟩
  · subst e
    obtain ⟨a, xs, rfl, h1, h2⟩ := rI_t r
    exact ⟨a, xs, rfl, .inr (SqT.of h1), fun q hq => fin_new hq h2 hm p⟩
  · subst e
    obtain ⟨a, xs, rfl, h1, h2⟩ := rI_l r
    exact ⟨a, xs, rfl, .inl h1.sq, fun q hq => fin_new hq h2 hm p⟩
  · subst e
    cases r
    obtain ⟨xs, h1, h2⟩ := hm a _ ha
    exact ⟨a, xs, rfl, .inl (SqL.of h1), fun q hq => fin_new hq h2 hm p⟩
/-- list(range(n)) -/
def rgD (a b : Int) : List D := (List.range (b - a).toNat).map fun i => D.int (a + (i : Nat))
theorem IsL.mapped {α : Type} {f : α → D} {g : α → V} (h : ∀ a, Is H (f a) (g a)) : ∀ l : List α, IsL H (l.map f) (l.map g)
  | [] => .nil
  | a :: l => .cons (h a) (IsL.mapped h l)
theorem we_listRg {a : Expr} {p2 pos2 : Pos} (hc : X.calm = true) (hl : X.mg "list" = none) (hr : X.mg "range" = none) (h : WE X a Γ M fun d M1 => ∃ n, d = .int n ∧ RgOk 0 n ∧ ∀ q, M1 q = none → P (.ref q) (put M1 q (.lst (rgD 0 n))))
    (g1 : Gl X "list" := by rfl) (g2 : Gl X "range" := by rfl) (na : starEach [a] X.env = (false, eval a X.env) :: starEach [] X.env := by rfl)
    (nb : starEach [.Call (.Name "range" p2) [a] [] pos2] X.env = (false, eval (.Call (.Name "range" p2) [a] [] pos2) X.env) :: starEach [] X.env := by rfl) : WE X (.Call (.Name "list" p) [.Call (.Name "range" p2) [a] [] pos2] [] pos) Γ M P :=
  we_of (pe_listRg hc g1 hl (prg_1 g2 hr pe_w na) nb) fun σ H hs hm => tw h hs hm fun v H1 d M1 t r m ⟨n, e, ok, p⟩ => by
    subst e
    cases r
    refine ⟨n, rfl, ok, fun q hq => ?_⟩
    obtain ⟨d', M', t', r', m', p'⟩ := fin_new (ds := rgD 0 n) (xs := rgV 0 n) hq (IsL.mapped (fun i => .int _) _) m p
    exact ⟨d', M', t.trans t', r', m', p'⟩
/-- isinstance(x, T), T a built-in class -/
inductive TyD (M : Mem) : D → String → Prop
  | non : TyD M .non "NoneType"
  | bl (b : Bool) : TyD M (.bl b) "bool"
  | int (i : Int) : TyD M (.int i) "int"
  | str (i : Str) : TyD M (.str i) "str"
  | tup (l : List D) : TyD M (.tup l) "tuple"
  | rol (l : List D) : TyD M (.rol l) "list"
  | lst {a : Addr} {l : List D} (h : M a = some (.lst l)) : TyD M (.ref a) "list"
  | dK {a : Addr} {l : List (Key × D)} (h : M a = some (.dK l)) : TyD M (.ref a) "dict"
theorem TyD.of {K : PySem.W.Frag} {d : D} {v : V} {T : String} (h : TyD M d T) (hm : RelM H M) (r : Is H d v) : TyX K H v (.type T) := by
  cases h with
  | non => cases r; exact .base .non
  | bl b => cases r; exact .base (.bl _)
  | int b => cases r; exact .base (.int _)
  | str b => cases r; exact .base (.str _)
  | tup l =>
    obtain ⟨a, xs, rfl, h1, h2⟩ := rI_t r
    exact .base (.tup h1)
  | rol l =>
    obtain ⟨a, xs, rfl, ⟨o, h1⟩, h2⟩ := rI_l r
    exact .base (.frz h1)
  | lst h =>
    cases r
    obtain ⟨xs, h1, h2⟩ := hm _ _ h
    exact .base (.lst h1)
  | dK h =>
    cases r
    obtain ⟨xs, h1, h2⟩ := hm _ _ h
    exact .base (.dK h1)
def BIsi : BC := fun ds M P => ∃ d S T b, ds = [d, .ty T] ∧ TyD M d S ∧ kitB S T = some b ∧ P (.bl b) M
theorem cd_isi : CaD X (.builtin "isinstance") BIsi := .of call_isi fun H ds xs M P r hm ⟨d, S, T, b, e, h1, h2, p⟩ => by
  subst e
  obtain ⟨v, w, rfl, r1, r2⟩ := two_of r
  cases r2
  exact ⟨v, .ty T, .type S, .type T, b, rfl, .ty T, h1.of hm r1, kit_ty h2, fin (.bl _) hm p⟩
/-! ### sums -/
theorem sum_tup {prog : Program} {w : World} {A : Around} {E : Value → Shared → Prop} {s : Shared} {l : Addr} {its : List Value} {ns : List Int} {Q : Value → Shared → Prop} (hh : A.handled = none) (hl : IsTup s.heap l its.toArray) (hi : IntsAre its ns)
    (h : ∀ h' tk t', (∀ b o, s.heap.get? b = some o → h'.get? b = some o) → Q (.int ns.sum t') { s with heap := h', toks := tk }) : wpAny (model prog w) A (call (.builtin "sum") [.ref l]) Q E s := by
  obtain ⟨xs, e⟩ := hi.allInts.items
  have hn : numsOf (intItems xs).toList = ns := by rw [← e]; exact hi.numsOf
  rw [nums_intItems] at hn
  rw [e] at hl
  have hl : s.heap.IsTuple l (intItems xs) := hl
  have hlt : l < s.heap.objs.size := by obtain ⟨_, e, _⟩ := hl; exact Heap.lt_size e
  refine call_sum_walkG (wpAny_pyIter_tuple hl ?_)
  generalize ho : ({ cls := .type "tuple_iterator", data := .fields #[.ref l, .int 0 0] } : Obj) = o
  have hit : (s.heap.push o).IsTupleIter s.heap.objs.size l 0 := by
    subst ho
    exact ⟨_, Heap.get?_push_size _ rfl, rfl, rfl⟩
  refine ⟨_, _, _, _, _, _, numAt xs, rfl, Walks.tuple (A := A.in1) hh s.heap.objs.size l (Nat.ne_of_lt hlt) (intItems xs), ⟨hit, hl.at fun o' e' => Heap.get?_push_of_some _ e'⟩, fun b hb => ?_, (fun _ _ => intItems_at), fun h' tk t' hk => ?_⟩
  · show b < (s.heap.push o).objs.size
    rw [Heap.size_push]
    rcases List.mem_cons.mp hb with rfl | hb
    · exact Nat.lt_succ_self _
    · rcases List.mem_cons.mp hb with rfl | hb
      · exact Nat.lt_succ_of_lt hlt
      · cases hb
  · have := h h' tk t' fun b o' e' => hk b o' (fun z => by
      have z' : b = s.heap.objs.size := by simpa using z
      subst z'
      exact Nat.lt_irrefl _ (Heap.lt_size e')) (Heap.get?_push_of_some _ e')
    rw [← hn] at this
    rw [preSum_eq, List.take_of_length_le (by simp [intItems])]
    exact this
def rSumT (K : PySem.W.Frag) : List V → Hp → VK → Prop := fun vs H Q => ∃ (a : Addr) (ns : List Int), vs = [V.ref a] ∧ SqT K H a (ns.map V.int) ∧ Q (.int ns.sum) H
theorem cr_sumT (hc : X.calm = true) : CallR X (.builtin "sum") (rSumT X.K) := by
  intro pins s σ H vs us Q I r h
  obtain ⟨a, ns, rfl, hs, q⟩ := h
  obtain ⟨its, rv, hl, _⟩ := I.tuple hs
  rw [Vals.ref1 r]
  exact sum_tup (I.ok.hd hc) hl rv.ints fun h' tk t' hk => ⟨.int _, H, I.kept hk, ⟨_, rfl⟩, q⟩
def BSum : BC := fun ds M P => ∃ (d : D) (ns : List Int), ds = [d] ∧ (d = .tup (ns.map D.int) ∨ ∃ a, d = .ref a ∧ M a = some (.lst (ns.map D.int))) ∧ P (.int ns.sum) M
theorem CallR.or {f : Value} {r r' : List V → Hp → VK → Prop} (h : CallR X f r) (h' : CallR X f r') : CallR X f (fun x H Q => r x H Q ∨ r' x H Q) := by
  intro pins s σ H xs us Q I r q
  rcases q with q | q
  · exact h pins s σ H xs us Q I r q
  · exact h' pins s σ H xs us Q I r q
theorem cd_sum (hc : X.calm = true) : CaD X (.builtin "sum") BSum := .of ((cr_sum hc).or (cr_sumT hc)) fun H ds xs M P r hm ⟨d, ns, e, h, p⟩ => by
  subst e
  obtain ⟨v, rfl, q1⟩ := one_of r
  revert q1
  clear r
  intro r
  rcases h with e | ⟨a, e, ha⟩
  · subst e
    obtain ⟨a, xs, rfl, h1, h2⟩ := rI_t r
    have e4 := IsL.of_ints h2
    subst e4
    exact .inr ⟨a, ns, rfl, SqT.of h1, fin (.int _) hm p⟩
  · subst e
    cases r
    obtain ⟨xs, h1, h2⟩ := hm a _ ha
    have e4 := IsL.of_ints h2
    subst e4
    exact .inl ⟨a, ns, rfl, SqL.of h1, fin (.int _) hm p⟩
/-! ### own defs -/
abbrev XD := Value → Option Addr → Mem → Prop
/-- a def's promise by data -/
abbrev DSp := List D → Mem → PD → XD → Prop
def lift (sp : DSp) : Sp := fun vs H Q E => ∃ ds M P R, IsL H ds vs ∧ RelM H M ∧ sp ds M P R ∧ (∀ v H', PostE H P v H' → Q v H') ∧ ∀ cls d H' M', Tx H H' → RelM H' M' → R cls d M' → E cls d H'
abbrev R0 : XD := fun _ _ _ => False
structure DefOk (P : Program) (w : World) (K : PySem.W.Frag) (mg : Str → Option Value) (base : Heap) (CX : CXT) (k : Nat) (x : Str) (ps : List Str) (sp : DSp) : Prop where
  ex : ∃ f fd, mg x = some (.ref f) ∧ PySem.W.keepIn K (.ref f) = true ∧ Binds K fd ps [] ∧ FnOk P w K mg base CX k f fd ps (lift sp)
structure MethOk (P : Program) (w : World) (K : PySem.W.Frag) (mg : Str → Option Value) (base : Heap) (CX : CXT) (k : Nat) (C : Addr) (m : Str) (ps : List Str) (sp : DSp) : Prop where
  ex : ∃ f fd, Meth K C m f ∧ Binds K fd ps [] ∧ FnOk P w K mg base CX k f fd ps (lift sp)
structure MkOk (P : Program) (w : World) (K : PySem.W.Frag) (mg : Str → Option Value) (base : Heap) (CX : CXT) (k : Nat) (x : Str) (C : Addr) (ps : List Str) (sp : DSp) : Prop where
  ex : ∃ f fd, mg x = some (.ref C) ∧ Mk K C f ∧ Binds K fd ps [] ∧ FnOk P w K mg base CX k f fd ps (lift sp)
theorem liftE {sp : DSp} {E : XK} (Q : VK) {ds : List D} {vs : List V} {H0 : Hp} (t : Tx H0 H) (r : IsL H ds vs) (hm : RelM H M) (h : sp ds M P R0) (k : ∀ v H', PostE H0 P v H' → Q v H') : lift sp vs H Q E :=
  ⟨ds, M, P, R0, r, hm, h, fun v H' ⟨d, M', t', r', m', p'⟩ => k v H' ⟨d, M', t.trans t', r', m', p'⟩, fun _ _ _ _ _ _ z => z.elim⟩
theorem we_call {k j : Nat} {ps : List Str} {sp : DSp} (G : DefOk X.prog X.w X.K X.mg X.base CX0 k x ps sp) (hr : Room j X.A) (h : WA X (e :: es) Γ M fun ds M1 => sp ds M1 P R0) (hk : k ≤ j := by decide) (hg : Gl X x := by rfl)
    (hdb : (x == ("__debug__" : Str)) = false := by decide) (he : starEach (e :: es) X.env = (false, eval e X.env) :: starEach es X.env := by rfl) (hpl : (backTo pos (starEach es X.env)).any (·.1) = false := by rfl) : WE X (.Call (.Name x p) (e :: es) [] pos) Γ M P := by
  obtain ⟨f, fd, g1, g2, g3, g4⟩ := G.ex
  refine we_of (pe_call (E := E0) g4 (hr.mono hk) hg g1 g2 g3 .nil pass0 pa_w hdb he hpl) fun σ H hs hm => twa h hs hm fun vs H1 ds M1 t r m p => ?_
  show lift sp (vs ++ []) H1 _ _
  rw [List.append_nil]
  exact liftE _ t r m p fun _ _ z => z
theorem we_call0 {k j : Nat} {ps : List Str} {sp : DSp} (G : DefOk X.prog X.w X.K X.mg X.base CX0 k x ps sp) (hr : Room j X.A) (h : sp [] M P R0) (hk : k ≤ j := by decide) (hg : Gl X x := by rfl)
    (hdb : (x == ("__debug__" : Str)) = false := by decide) : WE X (.Call (.Name x p) [] [] pos) Γ M P := by
  obtain ⟨f, fd, g1, g2, g3, g4⟩ := G.ex
  exact we_of (pe_call0 (E := E0) g4 (hr.mono hk) hg g1 g2 g3 .nil pass0 hdb) fun σ H hs hm => liftE _ (Tx.refl H) .nil hm h fun _ _ z => z
theorem lookup_of {κ : Type} [BEq κ] : ∀ {l : List (κ × D)} {xs : List (κ × V)} (k : κ), IsKV H l xs → (∀ d, l.lookup k = some d → ∃ v, xs.lookup k = some v ∧ Is H d v) ∧ (l.lookup k = none → xs.lookup k = none)
  | _, _, k, .nil => ⟨fun d e => (nomatch (show (none : Option D) = some d from e)), fun _ => rfl⟩
  | (k1, d1) :: l, (k2, v2) :: xs, k, .cons ⟨e, r⟩ t => by
    have e : k1 = k2 := e
    subst e
    obtain ⟨h1, h2⟩ := lookup_of k t
    refine ⟨fun d q => ?_, fun q => ?_⟩
    · rw [List.lookup_cons] at q ⊢
      cases b : k == k1 with
      | true =>
        rw [b] at q
        cases q
        exact ⟨_, rfl, r⟩
      | false =>
        rw [b] at q
        exact h1 d q
    · rw [List.lookup_cons] at q ⊢
      cases b : k == k1 with
      | true => rw [b] at q; cases q
      | false =>
        rw [b] at q
        exact h2 q
theorem we_meth {k j : Nat} {C : Addr} {m : Str} {ps : List Str} {sp : DSp} {apos : Pos} {pl : Sem Bool} (G : MethOk X.prog X.w X.K X.mg X.base CX0 k C m ps sp) (cl : Cls X.K C) (hr : Room j X.A)
    (h : WE X o Γ M fun d M1 => ∃ a fs, d = .ref a ∧ M1 a = some (.ins C fs) ∧ fs.lookup m = none ∧ WA X (e :: es) Γ M1 fun ds M2 => sp (.ref a :: ds) M2 P R0) (hk : k ≤ j := by decide)
    (hst : starEach (e :: es) X.env = (false, eval e X.env) :: starEach es X.env := by rfl) (hpl : (backTo pos (starEach es X.env)).any (·.1) = false := by rfl)
    (ht : eval (.Call (.Attribute o m apos) (e :: es) [] pos) X.env = (do
      let ov ← eval o X.env
      standAt apos.atName
      let (f, first) ← holding [ov] (getMethod ov m pl)
      callWith pos f first (backTo pos (starEach (e :: es) X.env)) (backToKw pos (keywordEach [] X.env))) := by rfl) : WE X (.Call (.Attribute o m apos) (e :: es) [] pos) Γ M P := by
  obtain ⟨f, fd, g1, g2, g3⟩ := G.ex
  refine we_of (pe_meth (E := E0) pe_w cl g1 g3 (hr.mono hk) g2 .nil pass0 pa_w hst hpl ht) fun σ H hs hm => tw h hs hm fun v H1 d M1 t r m ⟨a, fs, ed, ha, hl, p⟩ => ?_
  subst ed
  cases r
  obtain ⟨dx, us, h1, h2⟩ := m a _ ha
  refine ⟨a, dx, us, rfl, h1, (lookup_of _ h2).2 hl, twa p (hs.mono t) m fun vs H2 ds M2 t2 r2 m2 p2 => ?_⟩
  show lift sp (.ref a :: (vs ++ [])) H2 _ _
  rw [List.append_nil]
  exact liftE _ (t.trans t2) (.cons (.ref a) r2) m2 p2 fun _ _ z => z
theorem we_meth0 {k j : Nat} {C : Addr} {m : Str} {ps : List Str} {sp : DSp} {apos : Pos} {pl : Sem Bool} (G : MethOk X.prog X.w X.K X.mg X.base CX0 k C m ps sp) (cl : Cls X.K C) (hr : Room j X.A)
    (h : WE X o Γ M fun d M1 => ∃ a fs, d = .ref a ∧ M1 a = some (.ins C fs) ∧ fs.lookup m = none ∧ sp [.ref a] M1 P R0) (hk : k ≤ j := by decide)
    (ht : eval (.Call (.Attribute o m apos) [] [] pos) X.env = (do
      let ov ← eval o X.env
      standAt apos.atName
      let (f, first) ← holding [ov] (getMethod ov m pl)
      callWith pos f first (backTo pos (starEach [] X.env)) (backToKw pos (keywordEach [] X.env))) := by rfl) : WE X (.Call (.Attribute o m apos) [] [] pos) Γ M P := by
  obtain ⟨f, fd, g1, g2, g3⟩ := G.ex
  refine we_of (pe_meth0 (E := E0) pe_w cl g1 g3 (hr.mono hk) g2 .nil pass0 ht) fun σ H hs hm => tw h hs hm fun v H1 d M1 t r m ⟨a, fs, ed, ha, hl, p⟩ => ?_
  subst ed
  cases r
  obtain ⟨dx, us, h1, h2⟩ := m a _ ha
  exact ⟨a, dx, us, rfl, h1, (lookup_of _ h2).2 hl, liftE _ t (.cons (.ref a) .nil) m p fun _ _ z => z⟩
theorem made_rel {x dx C : Addr} (hm : RelM H M) (hx : H x = none) (hd : H dx = none) (ne : dx ≠ x) : Tx H (upd (upd H dx (.own x)) x (.ins C dx [])) ∧ RelM (upd (upd H dx (.own x)) x (.ins C dx [])) (put M x (.ins C [])) := by
  have h1 : (upd H dx (.own x)) x = none := by rw [upd_ne (Ne.symm ne)]; exact hx
  exact ⟨(Tx.new hd).trans (Tx.new h1), (hm.fresh hd).new h1 (show MOk _ _ (.ins C []) from ⟨dx, [], upd_same, .nil⟩)⟩
theorem we_make {k j : Nat} {C : Addr} {ps : List Str} {sp : DSp} (G : MkOk X.prog X.w X.K X.mg X.base CX0 k x C ps sp) (hr : Room j X.A) (h : WA X (e :: es) Γ M fun ds M1 => ∀ a, M1 a = none → sp (.ref a :: ds) (put M1 a (.ins C [])) (fun d M2 => d = .non ∧ P (.ref a) M2) R0) (hk : k + 1 ≤ j := by decide) (hg : Gl X x := by rfl)
    (hdb : (x == ("__debug__" : Str)) = false := by decide) (he : starEach (e :: es) X.env = (false, eval e X.env) :: starEach es X.env := by rfl) (hpl : (backTo pos (starEach es X.env)).any (·.1) = false := by rfl) : WE X (.Call (.Name x p) (e :: es) [] pos) Γ M P := by
  obtain ⟨f, fd, g1, g2, g3, g4⟩ := G.ex
  refine we_of (pe_make (E := E0) g2 g4 (hr.mono hk) hg g1 g3 .nil pass0 pa_w hdb he hpl) fun σ H hs hm => twa h hs hm fun vs H1 ds M1 t r m p => ?_
  intro x dx hx hd ne
  show lift sp (.ref x :: (vs ++ [])) _ _ _
  rw [List.append_nil]
  obtain ⟨t1, m1⟩ := made_rel (C := C) m hx hd ne
  refine liftE _ (t.trans t1) (.cons (.ref x) (r.mono t1)) m1 (p x (m.free hx)) fun v H' ⟨d, M', t', r', m', e', p'⟩ => ?_
  subst e'
  cases r'
  exact ⟨rfl, .ref x, M', t', .ref x, m', p'⟩
/-! ### attributes -/
theorem we_attr {f : Str} (h : WE X o Γ M fun d M1 => ∃ a C fs y, d = .ref a ∧ M1 a = some (.ins C fs) ∧ Cls X.K C ∧ NoAttr X.K C f ∧ fs.lookup f = some y ∧ P y M1) (hb : attributeBase o f X.env (eval o X.env) = eval o X.env := by rfl) : WE X (.Attribute o f pos) Γ M P :=
  we_of (pe_fld pe_w hb) fun σ H hs hm => tw h hs hm fun v H1 d M1 t r m ⟨a, C, fs, y, ed, ha, cl, na, hl, p⟩ => by
    subst ed
    cases r
    obtain ⟨dx, us, h1, h2⟩ := m a _ ha
    obtain ⟨u, hu, ru⟩ := (lookup_of _ h2).1 _ hl
    exact ⟨a, C, dx, us, u, rfl, h1, cl, na, hu, y, M1, t, ru, m, p⟩
/-! ### a list's methods -/
theorem ml {K : PySem.W.Frag} {a : Addr} {l : List D} (hm : RelM H M) (h : M a = some (.lst l)) : ∃ xs, H a = some (.lst xs) ∧ IsL H l xs ∧ tyV K "list" (.ref a) H := by
  obtain ⟨xs, h1, h2⟩ := hm a _ h
  exact ⟨xs, h1, h2, .inl ⟨rfl, xs, SqL.of h1⟩⟩
theorem set_lst {a : Addr} {l' : List D} {xs xs' : List V} {d : D} {v : V} (hm : RelM H M) (h1 : H a = some (.lst xs)) (r : IsL H l' xs') (rd : Is H d v) (p : P d (put M a (.lst l'))) : PostE H P v (upd H a (.lst xs')) :=
  fin_set h1 (fun _ z => by cases z) (fun _ _ z => by cases z) rd hm (show MOk _ _ (.lst l') from ⟨xs', upd_same, r.mono (Tx.mut h1 (fun _ z => by cases z) (fun _ _ z => by cases z))⟩) p
theorem PostE.tr {H0 : Hp} {v : V} {H' : Hp} (t : Tx H0 H) (h : PostE H P v H') : PostE H0 P v H' := let ⟨d, M', t', r', m', p'⟩ := h; ⟨d, M', t.trans t', r', m', p'⟩
theorem we_append {apos : Pos} (h : WE X o Γ M fun d M1 => ∃ a l, d = .ref a ∧ M1 a = some (.lst l) ∧ WE X e Γ M1 fun y M2 => ∃ l, M2 a = some (.lst l) ∧ l.length < sizeLine ∧ P .non (put M2 a (.lst (l ++ [y]))))
    (hbase : attributeBase o "append" X.env (eval o X.env) = eval o X.env := by rfl)
    (hfew : ((backTo pos (starEach [e] X.env)).all (fun x => !x.1) && (backToKw pos (keywordEach [] X.env)).all (fun x => x.1.isSome) && decide (([e] : List Expr).length + ([] : List Keyword).length + (if ([] : List Keyword).isEmpty then 0 else 1) < 30)) = true := by rfl)
    (hline : (apos.endLine == pos.line) = true := by rfl) (hs : starEach [e] X.env = (false, eval e X.env) :: starEach [] X.env := by rfl) (hplain : (backTo pos (starEach [] X.env)).any (·.1) = false := by rfl) : WE X (.Call (.Attribute o "append" apos) [e] [] pos) Γ M P :=
  we_of (pe_bm PySem.F.plainAttrs_list PySem.F.slot_list_append PySem.F.type_list_append mt_append pe_w (pa_cons pe_w pa_nil hs) hbase hfew hline hs hplain) fun σ H hs hm => tw h hs hm fun v H1 d M1 t r m ⟨a, l, ed, ha, p⟩ => by
    subst ed
    cases r
    obtain ⟨xs, _, _, ty⟩ := ml (K := X.K) m ha
    refine ⟨ty, tw p (hs.mono t) m fun v2 H2 d2 M2 t2 r2 m2 ⟨l2, hl2, hz, p2⟩ => ?_⟩
    obtain ⟨xs2, e2, i2, _⟩ := ml (K := X.K) m2 hl2
    exact ⟨a, xs2, v2, rfl, rfl, e2, by rw [← i2.length]; exact hz, (set_lst m2 e2 (i2.append (.cons r2 .nil)) .non p2).tr (t.trans t2)⟩
theorem we_pop {apos : Pos} (h : WE X o Γ M fun d M1 => ∃ a l y, d = .ref a ∧ M1 a = some (.lst l) ∧ l[l.length - 1]? = some y ∧ P y (put M1 a (.lst l.dropLast)))
    (hbase : attributeBase o "pop" X.env (eval o X.env) = eval o X.env := by rfl) (hline : (apos.endLine == pos.line) = true := by rfl) : WE X (.Call (.Attribute o "pop" apos) [] [] pos) Γ M P :=
  we_of (pe_bm0 PySem.F.plainAttrs_list PySem.F.slot_list_pop PySem.F.type_list_pop mt_pop pe_w hbase hline) fun σ H hs hm => tw h hs hm fun v H1 d M1 t r m ⟨a, l, y, ed, ha, hy, p⟩ => by
    subst ed
    cases r
    obtain ⟨xs, e2, i2, ty⟩ := ml (K := X.K) m ha
    obtain ⟨u, hu, ru⟩ := i2.get hy
    exact ⟨ty, a, xs, u, rfl, rfl, e2, by rw [← i2.length]; exact hu, (set_lst m e2 i2.dropLast ru p).tr t⟩
theorem we_popAt {apos : Pos} (h : WE X o Γ M fun d M1 => ∃ a l, d = .ref a ∧ M1 a = some (.lst l) ∧ WE X e Γ M1 fun i M2 => ∃ (l : List D) (k : Int) (j : Nat) (y : D), M2 a = some (.lst l) ∧ i = .int k ∧ k = (j : Int) ∧ j < 2 ^ 62 ∧ l[j]? = some y ∧ P y (put M2 a (.lst (l.eraseIdx j))))
    (hbase : attributeBase o "pop" X.env (eval o X.env) = eval o X.env := by rfl)
    (hfew : ((backTo pos (starEach [e] X.env)).all (fun x => !x.1) && (backToKw pos (keywordEach [] X.env)).all (fun x => x.1.isSome) && decide (([e] : List Expr).length + ([] : List Keyword).length + (if ([] : List Keyword).isEmpty then 0 else 1) < 30)) = true := by rfl)
    (hline : (apos.endLine == pos.line) = true := by rfl) (hs : starEach [e] X.env = (false, eval e X.env) :: starEach [] X.env := by rfl) (hplain : (backTo pos (starEach [] X.env)).any (·.1) = false := by rfl) : WE X (.Call (.Attribute o "pop" apos) [e] [] pos) Γ M P :=
  we_of (pe_bm PySem.F.plainAttrs_list PySem.F.slot_list_pop PySem.F.type_list_pop mt_popAt pe_w (pa_cons pe_w pa_nil hs) hbase hfew hline hs hplain) fun σ H hs hm => tw h hs hm fun v H1 d M1 t r m ⟨a, l, ed, ha, p⟩ => by
    subst ed
    cases r
    obtain ⟨xs, _, _, ty⟩ := ml (K := X.K) m ha
    refine ⟨ty, tw p (hs.mono t) m fun v2 H2 d2 M2 t2 r2 m2 ⟨l2, k, j, y, hl2, ei, ek, hj, hy, p2⟩ => ?_⟩
    subst ei
    cases r2
    obtain ⟨xs2, e2, i2, _⟩ := ml (K := X.K) m2 hl2
    obtain ⟨u, hu, ru⟩ := i2.get hy
    have hlt : j < xs2.length := (List.getElem?_eq_some_iff.mp hu).1
    exact ⟨a, xs2, k, j, u, rfl, rfl, e2, by omega, by omega, by rw [ek]; exact PySem.StrLaws.seqIndex_nonneg (by omega) (by omega), hu, (set_lst m2 e2 (i2.erase j) ru p2).tr (t.trans t2)⟩
end
end DL

set_option Elab.async false
set_option linter.all false
set_option maxRecDepth 100000
set_option maxHeartbeats 4000000
/-! DLe: dicts, targets, statements, by data. -/
namespace DL
open PySem PySem.Spec PyProof.Rows L2
/-! ### dicts by data -/
section
variable {κ : Type} [DecidableEq κ]
def valD (kvs : List (κ × D)) (k : κ) : Option D := (kvs.find? fun kv => decide (kv.1 = k)).map (·.2)
def putD (kvs : List (κ × D)) (k : κ) (v : D) : List (κ × D) :=
  if (kvs.any fun kv => decide (kv.1 = k)) = true then kvs.map (fun kv => if kv.1 = k then (kv.1, v) else kv) else kvs ++ [(k, v)]
theorem valD_pos {p : κ × D} {r : List (κ × D)} {k : κ} (e : p.1 = k) : valD (p :: r) k = some p.2 := by simp [valD, List.find?_cons, e]
theorem valD_neg {p : κ × D} {r : List (κ × D)} {k : κ} (e : ¬ p.1 = k) : valD (p :: r) k = valD r k := by simp [valD, List.find?_cons, e]
theorem valD_any (k : κ) : ∀ kvs : List (κ × D), (kvs.any fun kv => decide (kv.1 = k)) = (valD kvs k).isSome
  | [] => rfl
  | p :: r => by
    rw [List.any_cons]
    by_cases e : p.1 = k
    · simp only [valD_pos e, decide_eq_true e, Bool.true_or, Option.isSome_some]
    · rw [valD_neg e, decide_eq_false e, Bool.false_or]; exact valD_any k r
theorem valD_map (k j : κ) (y : D) : ∀ kvs : List (κ × D), valD (kvs.map fun kv => if kv.1 = k then (kv.1, y) else kv) j = (valD kvs j).map fun x => if j = k then y else x
  | [] => rfl
  | p :: r => by
    have ih := valD_map k j y r
    rw [List.map_cons]
    by_cases e : p.1 = k
    · rw [if_pos e]
      by_cases q : p.1 = j
      · rw [valD_pos (p := (p.1, y)) q, valD_pos q]
        have : j = k := q.symm.trans e
        simp [this]
      · rw [valD_neg (p := (p.1, y)) q, valD_neg q]
        exact ih
    · rw [if_neg e]
      by_cases q : p.1 = j
      · rw [valD_pos q, valD_pos q]
        have : ¬ j = k := fun z => e (q.trans z)
        simp [this]
      · rw [valD_neg q, valD_neg q]
        exact ih
theorem valD_snoc (k j : κ) (y : D) : ∀ kvs : List (κ × D), valD kvs k = none → valD (kvs ++ [(k, y)]) j = if j = k then some y else valD kvs j
  | [], _ => by
    by_cases e : k = j
    · rw [if_pos e.symm]; exact valD_pos (p := (k, y)) e
    · rw [if_neg (Ne.symm e)]; exact valD_neg (p := (k, y)) e
  | p :: r, h => by
    by_cases q : p.1 = k
    · rw [valD_pos q] at h; cases h
    · rw [valD_neg q] at h
      rw [List.cons_append]
      by_cases q2 : p.1 = j
      · rw [valD_pos q2, valD_pos q2]
        have : ¬ j = k := fun z => q (q2.trans z)
        rw [if_neg this]
      · rw [valD_neg q2, valD_neg q2]
        exact valD_snoc k j y r h
theorem valD_put (kvs : List (κ × D)) (k j : κ) (y : D) : valD (putD kvs k y) j = if j = k then some y else valD kvs j := by
  unfold putD
  rw [valD_any]
  cases e : valD kvs k with
  | none =>
    rw [if_neg (by simp)]
    exact valD_snoc k j y kvs e
  | some x =>
    rw [if_pos (by simp), valD_map]
    by_cases q : j = k
    · subst q
      rw [e, if_pos rfl]
      simp
    · rw [if_neg q]
      cases valD kvs j <;> simp [q]
variable {H : Hp}
theorem IsKV.val {l : List (κ × D)} {xs : List (κ × V)} (k : κ) (h : IsKV H l xs) : (∀ d, valD l k = some d → ∃ v, valV xs k = some v ∧ Is H d v) ∧ (valD l k = none → valV xs k = none) := by
  induction h with
  | nil => exact ⟨fun d e => (nomatch (show (none : Option D) = some d from e)), fun _ => rfl⟩
  | cons r t ih =>
    rename_i p q l xs
    obtain ⟨e, r⟩ := r
    by_cases z : p.1 = k
    · rw [valD_pos z, valV_pos (e ▸ z)]
      exact ⟨fun d q => by cases q; exact ⟨_, rfl, r⟩, fun q => by cases q⟩
    · rw [valD_neg z, valV_neg (e ▸ z)]
      exact ih
theorem IsKV.put {l : List (κ × D)} {xs : List (κ × V)} {k : κ} {d : D} {v : V} (h : IsKV H l xs) (r : Is H d v) : IsKV H (putD l k d) (putK xs k v) := by
  have ea : (l.any fun kv => decide (kv.1 = k)) = (xs.any fun kv => decide (kv.1 = k)) := by
    induction h with
    | nil => rfl
    | cons r t ih =>
      obtain ⟨e, _⟩ := r
      rw [List.any_cons, List.any_cons, ih, e]
  unfold putD putK
  rw [ea]
  by_cases z : (xs.any fun kv => decide (kv.1 = k)) = true
  · rw [if_pos z, if_pos z]
    clear ea z
    induction h with
    | nil => exact .nil
    | cons r1 t ih =>
      rename_i p q l xs
      obtain ⟨e, r1⟩ := r1
      refine .cons ?_ ih
      show (if p.1 = k then (p.1, d) else p).1 = (if q.1 = k then (q.1, v) else q).1 ∧ Is H (if p.1 = k then (p.1, d) else p).2 (if q.1 = k then (q.1, v) else q).2
      by_cases y : p.1 = k
      · rw [if_pos y, if_pos (e ▸ y)]
        exact ⟨e, r⟩
      · rw [if_neg y, if_neg (e ▸ y)]
        exact ⟨e, r1⟩
  · rw [if_neg z, if_neg z]
    clear ea z
    induction h with
    | nil => exact .cons ⟨rfl, r⟩ .nil
    | cons r1 t ih => exact .cons r1 ih
theorem putD_len (kvs : List (κ × D)) (k : κ) (y : D) : (putD kvs k y).length ≤ kvs.length + 1 := by
  unfold putD
  split
  · rw [List.length_map]; omega
  · rw [List.length_append]; exact Nat.le_refl _
end
def kD : Key → D
  | .inl i => .int i
  | .inr s => .str s
theorem kD_of {H : Hp} {k : Key} {v : V} (r : Is H (kD k) v) : v = kV k := by
  cases k with
  | inl i => cases (show Is H (.int i) v from r); rfl
  | inr i => cases (show Is H (.str i) v from r); rfl
theorem kDs_of {H : Hp} : ∀ {ks : List Key} {vs : List V}, IsL H (ks.map kD) vs → vs = ks.map kV
  | [], _, .nil => rfl
  | k :: r, _, .cons h t => by rw [kD_of h, kDs_of t, List.map_cons]
/-- what the dict at a has for y -/
def DGetD (M : Mem) (a : Addr) (y : D) (o : Option D) : Prop := (∃ kvs k, M a = some (.dK kvs) ∧ y = kD k ∧ o = valD kvs k) ∨ ∃ kvs ks, M a = some (.dT kvs) ∧ y = .tup (ks.map kD) ∧ o = valD kvs ks
theorem DGetD.of {H : Hp} {M : Mem} {a : Addr} {y : D} {o : Option D} {yv : V} (h : DGetD M a y o) (hm : RelM H M) (r : Is H y yv) : ∃ ov, DGet H a yv ov ∧ (∀ d, o = some d → ∃ v, ov = some v ∧ Is H d v) ∧ (o = none → ov = none) := by
  rcases h with ⟨kvs, k, ha, e, eo⟩ | ⟨kvs, ks, ha, e, eo⟩
  · subst e eo
    obtain ⟨vs, h1, h2⟩ := hm a _ ha
    have e := kD_of r
    subst e
    exact ⟨_, DGet.k h1, h2.val k⟩
  · subst e eo
    obtain ⟨vs, h1, h2⟩ := hm a _ ha
    obtain ⟨b, xs, rfl, h3, h4⟩ := rI_t r
    have e := kDs_of h4
    subst e
    exact ⟨_, DGet.t h1 h3, h2.val ks⟩
def DPutD (M : Mem) (a : Addr) (y d : D) (M' : Mem) : Prop :=
  (∃ kvs k, M a = some (.dK kvs) ∧ y = kD k ∧ kvs.length < sizeLine ∧ M' = put M a (.dK (putD kvs k d))) ∨ ∃ kvs ks, M a = some (.dT kvs) ∧ y = .tup (ks.map kD) ∧ kvs.length < sizeLine ∧ M' = put M a (.dT (putD kvs ks d))
theorem DPutD.of {H : Hp} {M M' : Mem} {a : Addr} {y d : D} {yv v : V} (h : DPutD M a y d M') (hm : RelM H M) (r : Is H y yv) (rd : Is H d v) : ∃ H', DPut H a yv v H' ∧ Tx H H' ∧ RelM H' M' := by
  rcases h with ⟨kvs, k, ha, e, hl, eM⟩ | ⟨kvs, ks, ha, e, hl, eM⟩
  · subst e eM
    obtain ⟨vs, h1, h2⟩ := hm a _ ha
    have e := kD_of r
    subst e
    have T : ∀ o, Tx H (upd H a o) := fun o => Tx.mut h1 (fun _ z => by cases z) (fun _ _ z => by cases z)
    exact ⟨_, DPut.k h1 (by rw [← h2.length]; exact hl), T _, hm.set h1 (fun _ z => by cases z) (fun _ _ z => by cases z) (show MOk _ _ (.dK _) from ⟨_, upd_same, (h2.put rd).mono (T _)⟩)⟩
  · subst e eM
    obtain ⟨vs, h1, h2⟩ := hm a _ ha
    obtain ⟨b, xs, rfl, h3, h4⟩ := rI_t r
    have e := kDs_of h4
    subst e
    have T : ∀ o, Tx H (upd H a o) := fun o => Tx.mut h1 (fun _ z => by cases z) (fun _ _ z => by cases z)
    exact ⟨_, DPut.t h1 h3 (by rw [← h2.length]; exact hl), T _, hm.set h1 (fun _ z => by cases z) (fun _ _ z => by cases z) (show MOk _ _ (.dT _) from ⟨_, upd_same, (h2.put rd).mono (T _)⟩)⟩
section
variable {X : Cx} {H : Hp} {Γ : Sl} {M : Mem} {P : PD} {pos p : Pos} {e o i : Expr} {es : List Expr} {x : Str} {PT' : Bool → Mem → Prop}
theorem we_dget (hu : X.A.units + 1 < cLine) (h : WE X o Γ M fun x M1 => WE X i Γ M1 fun y M2 => ∃ a d, x = .ref a ∧ DGetD M2 a y (some d) ∧ P d M2) (hs : NoSl i := by exact fun _ _ => rfl) : WE X (.Subscript o i pos) Γ M P :=
  we_of (pe_dget hu pe_w pe_w hs) fun σ H hs hm => tw h hs hm fun v H1 d M1 t r m p => tw p (hs.mono t) m fun v2 H2 d2 M2 t2 r2 m2 ⟨a, d3, e, g, p2⟩ => by
    subst e
    cases r
    obtain ⟨ov, g', k1, _⟩ := g.of m2 r2
    obtain ⟨w, e, rw'⟩ := k1 _ rfl
    subst e
    exact ⟨a, w, rfl, g', d3, M2, t.trans t2, rw', m2, p2⟩
theorem we_din (hu : X.A.units + 1 < cLine) (h : WE X i Γ M fun y M1 => WE X o Γ M1 fun x M2 => ∃ a r, x = .ref a ∧ DGetD M2 a y r ∧ P (.bl r.isSome) M2) (hm : behindInMarks .In o = false := by first | exact nomark _ | rfl) : WE X (.Compare i [.In] [o] pos) Γ M P :=
  we_of (pe_cmp (pc_din hu pe_w pe_w) hm) fun σ H hs hm => tw h hs hm fun v H1 d M1 t r m p => tw p (hs.mono t) m fun v2 H2 d2 M2 t2 r2 m2 ⟨a, o', e, g, p2⟩ => by
    subst e
    cases r2
    obtain ⟨ov, g', k1, k2⟩ := g.of m2 (r.mono t2)
    refine ⟨a, ov, rfl, g', .bl o'.isSome, M2, t.trans t2, ?_, m2, p2⟩
    cases o' with
    | none => rw [k2 rfl]; exact .bl _
    | some d' =>
      obtain ⟨w, e, _⟩ := k1 _ rfl
      rw [e]; exact .bl _
def IsDD (M : Mem) (a : Addr) : Prop := (∃ kvs, M a = some (.dK kvs)) ∨ ∃ kvs, M a = some (.dT kvs)
theorem IsDD.of {a : Addr} (h : IsDD M a) (hm : RelM H M) : IsD H a := by
  rcases h with ⟨kvs, h⟩ | ⟨kvs, h⟩
  · obtain ⟨vs, h1, _⟩ := hm _ _ h
    exact .inl ⟨vs, .inl h1⟩
  · obtain ⟨vs, h1, _⟩ := hm _ _ h
    exact .inr ⟨vs, .inl h1⟩
theorem we_dget2 {f : Expr} {apos : Pos} (hu : X.A.units + 1 < cLine) (h : WE X o Γ M fun x M1 => ∃ a, x = .ref a ∧ IsDD M1 a ∧ WE X e Γ M1 fun y M2 => WE X f Γ M2 fun z M3 => ∃ r, DGetD M3 a y r ∧ P (r.getD z) M3)
    (m : M2 X o "get" apos e f pos := by exact ⟨rfl, rfl, rfl, rfl⟩) : WE X (.Call (.Attribute o "get" apos) [e, f] [] pos) Γ M P :=
  we_of (pe_dget2 hu pe_w pe_w pe_w m) fun σ H hs hm => tw h hs hm fun v H1 d M1 t r m ⟨a, ed, dd, p⟩ => by
    subst ed
    cases r
    refine ⟨a, rfl, dd.of m, tw p (hs.mono t) m fun v2 H2 d2 M2 t2 r2 m2 p2 => tw p2 ((hs.mono t).mono t2) m2 fun v3 H3 d3 M3 t3 r3 m3 ⟨o', g, p3⟩ => ?_⟩
    obtain ⟨ov, g', k1, k2⟩ := g.of m3 (r2.mono t3)
    refine ⟨ov, g', o'.getD d3, M3, (t.trans t2).trans t3, ?_, m3, p3⟩
    cases o' with
    | none => rw [k2 rfl]; exact r3
    | some d' =>
      obtain ⟨w, e, rw'⟩ := k1 _ rfl
      rw [e]; exact rw'
theorem we_dnewK (k : ∀ q, M q = none → P (.ref q) (put M q (.dK []))) : WE X (.Dict [] [] pos) Γ M P :=
  we_of pe_dnewK fun σ H hs hm => fun q hq => ⟨.ref q, _, Tx.new hq, .ref q, hm.new hq (show MOk _ _ (.dK []) from ⟨[], upd_same, .nil⟩), k q (hm.free hq)⟩
theorem we_dnewT (k : ∀ q, M q = none → P (.ref q) (put M q (.dT []))) : WE X (.Dict [] [] pos) Γ M P :=
  we_of pe_dnewT fun σ H hs hm => fun q hq => ⟨.ref q, _, Tx.new hq, .ref q, hm.new hq (show MOk _ _ (.dT []) from ⟨[], upd_same, .nil⟩), k q (hm.free hq)⟩
/-- the pairs of a display, one after another -/
def WPs (X : Cx) (Γ : Sl) : List (Option Expr) → List Expr → Mem → (List (D × D) → Mem → Prop) → Prop
  | some k :: ks, v :: vs, M, Q => WE X k Γ M fun x M1 => WE X v Γ M1 fun y M2 => WPs X Γ ks vs M2 fun r M3 => Q ((x, y) :: r) M3
  | [], [], M, Q => Q [] M
  | _, _, _, _ => False
def trsW (X : Cx) : List (Option Expr) → List Expr → List (TE × TE)
  | some k :: ks, v :: vs => (tW X k, tW X v) :: trsW X ks vs
  | _, _ => []
def allSome : List (Option Expr) → List Expr → Bool
  | some _ :: ks, _ :: vs => allSome ks vs
  | [], [] => true
  | _, _ => false
theorem pps_w : ∀ {ks : List (Option Expr)} {vs : List Expr}, allSome ks vs = true → PPs X pos ks vs (trsW X ks vs)
  | [], [], _ => pps_nil
  | some k :: ks, v :: vs, h => pps_cons pe_w pe_w (pps_w (ks := ks) (vs := vs) h)
  | [], _ :: _, h => by cases h
  | none :: _, _, h => by cases h
  | some _ :: _, [], h => by cases h
def IsLL (H : Hp) (l : List (D × D)) (xs : List (V × V)) : Prop := Paired (fun (p : D × D) (q : V × V) => Is H p.1 q.1 ∧ Is H p.2 q.2) l xs
theorem pairs_w {σ : L2.St} : ∀ {ks : List (Option Expr)} {vs : List Expr} {H : Hp} {M : Mem} {Q : List (D × D) → Mem → Prop} {Q' : List (V × V) → Hp → Prop}, WPs X Γ ks vs M Q → SIs H σ Γ → RelM H M →
    (∀ l xs H' M', Tx H H' → IsLL H' l xs → RelM H' M' → Q l M' → Q' xs H') → tPairs (trsW X ks vs) σ H Q'
  | [], [], H, M, Q, Q', h, hs, hm, k => k [] [] H M (Tx.refl H) .nil hm h
  | some e :: ks, v :: vs, H, M, Q, Q', h, hs, hm, k => tw h hs hm fun v1 H1 d1 M1 t1 r1 m1 p1 => tw p1 (hs.mono t1) m1 fun v2 H2 d2 M2 t2 r2 m2 p2 =>
    pairs_w p2 ((hs.mono t1).mono t2) m2 fun l xs H3 M3 t3 r3 m3 p3 => k _ _ H3 M3 ((t1.trans t2).trans t3) (.cons ⟨(r1.mono t2).mono t3, r2.mono t3⟩ r3) m3 p3
  | [], _ :: _, _, _, _, _, h, _, _, _ => False.elim h
  | none :: _, _, _, _, _, _, h, _, _, _ => by cases h
  | some _ :: _, [], _, _, _, _, h, _, _, _ => by cases h
def mergeD (kvs more : List (Key × D)) : List (Key × D) := more.foldl (fun acc kv => putD acc kv.1 kv.2) kvs
theorem merge_of {H : Hp} : ∀ {more : List (Key × D)} {ms : List (Key × V)} {kvs : List (Key × D)} {vs : List (Key × V)}, IsKV H kvs vs → IsKV H more ms → IsKV H (mergeD kvs more) (mergeK vs ms)
  | _, _, _, _, h, .nil => h
  | (k, d) :: more, (k2, v) :: ms, kvs, vs, h, .cons ⟨e, r⟩ t => by
    have e : k = k2 := e
    subst e
    exact merge_of (kvs := putD kvs k d) (vs := putK vs k v) (h.put r) t
theorem pairs_kv {H : Hp} : ∀ {kvs : List (Key × D)} {xs : List (V × V)}, IsLL H (kvs.map fun kv => (kD kv.1, kv.2)) xs → ∃ vs : List (Key × V), xs = vs.map (fun kv => (kV kv.1, kv.2)) ∧ IsKV H kvs vs
  | [], _, .nil => ⟨[], rfl, .nil⟩
  | (k, d) :: r, (a, b) :: xs, .cons ⟨h1, h2⟩ t => by
    obtain ⟨vs, e, q⟩ := pairs_kv t
    have e1 := kD_of (show Is H (kD k) a from h1)
    subst e e1
    exact ⟨(k, b) :: vs, rfl, .cons ⟨rfl, h2⟩ q⟩
/-- {k: v, ..} -/
theorem we_disp {keys : List (Option Expr)} {values : List Expr} (h : ∀ q, M q = none → WPs X Γ keys values (put M q (.dK [])) fun ps M2 => M2 q = some (.dK []) ∧ ∃ kvs : List (Key × D), ps = kvs.map (fun kv => (kD kv.1, kv.2)) ∧ kvs.length ≤ 15 ∧ P (.ref q) (put M2 q (.dK (mergeD [] kvs))))
    (ha : allSome keys values = true := by rfl) (hall : keys.all (·.isSome) = true := by rfl) (hl : keys.length = values.length := by rfl) (h0 : keys ≠ [] := by exact fun z => by cases z) (h15 : keys.length ≤ 15 := by decide) : WE X (.Dict keys values pos) Γ M P :=
  we_of (pe_disp (pps_w ha) hall hl h0 h15) fun σ H hs hm => fun q hq => by
    have m1 : RelM (upd H q (.dK [])) (put M q (.dK [])) := hm.new hq (show MOk _ _ (.dK []) from ⟨[], upd_same, .nil⟩)
    refine pairs_w (h q (hm.free hq)) (hs.mono (Tx.new hq)) m1 fun l xs H' M' t r m ⟨e, kvs, ek, hz, p⟩ => ?_
    subst ek
    obtain ⟨vs, e1, r1⟩ := pairs_kv r
    subst e1
    obtain ⟨ws, h1, h2⟩ := m q _ e
    cases h2
    have T : ∀ o, Tx H' (upd H' q o) := fun o => Tx.mut h1 (fun _ z => by cases z) (fun _ _ z => by cases z)
    refine ⟨h1, vs, rfl, by rw [← r1.length]; exact hz, .ref q, _, ((Tx.new hq).trans t).trans (T _), .ref q, m.set h1 (fun _ z => by cases z) (fun _ _ z => by cases z) (show MOk _ _ (.dK (mergeD [] kvs)) from ⟨_, upd_same, (merge_of .nil r1).mono (T _)⟩), p⟩
/-! ### targets -/
theorem wg_name (i : Nat) {x : Str} {d : D} {P : Sl → Mem → Prop} (nd : X.N.Nodup) (k : P (Γ.set i (some d)) M) (hi : X.N[i]? = some x := by rfl) (hx : Loc X.env.scope x := by first | exact Or.inl rfl | exact Or.inr rfl)
    (hf : X.fn x = true ∨ X.env.scope.names.lookup x = some .local := by first | exact .inl rfl | exact .inr rfl) : WG X (.Name x pos) d Γ M P :=
  wg_of (pg_name nd hi hx hf) fun v σ H r hs hm => ⟨_, M, Tx.refl H, hs.set r, hm, k⟩
theorem wgs_nil {P : Sl → Mem → Prop} (k : P Γ M) : WGs X [] [] Γ M P := wgs_of pgs_nil fun vs σ H r hs hm => by
  cases r
  exact ⟨rfl, Γ, M, Tx.refl H, hs, hm, k⟩
theorem wgs_cons {P : Sl → Mem → Prop} {d : D} {ds : List D} (h : WG X e d Γ M fun Γ1 M1 => WGs X es ds Γ1 M1 P) (hs : (assignEach (e :: es) X.env).map (·.2) = assign e X.env :: (assignEach es X.env).map (·.2) := by rfl) : WGs X (e :: es) (d :: ds) Γ M P :=
  wgs_of (pgs_cons pg_w pgs_w hs) fun vs σ H r hs hm => by
    cases r with
    | cons r1 r2 =>
      exact ⟨_, _, rfl, d, Γ, M, _, r1, hs, hm, h, fun σ1 H1 ⟨Γ1, M1, t1, s1, m1, p1⟩ => ⟨ds, Γ1, M1, P, r2.mono t1, s1, m1, p1, fun σ2 H2 ⟨Γ2, M2, t2, s2, m2, p2⟩ => ⟨Γ2, M2, t1.trans t2, s2, m2, p2⟩⟩⟩
theorem wg_tup {P : Sl → Mem → Prop} {ds : List D} {k : Nat} {n : Nat} (hc : X.calm = true) (hl : ds.length = n) (h : WGs X es ds Γ M P) (hn : (assignEach es X.env).length = n := by rfl) (hst : (assignEach es X.env).findIdx? (·.1) = none := by rfl) : WG X (.Tuple es k pos) (.tup ds) Γ M P :=
  wg_of (pg_tup hc pgs_w hn hst) fun v σ H r hs hm => by
    obtain ⟨a, xs, rfl, h1, h2⟩ := rI_t r
    exact ⟨a, xs, rfl, SqT.of h1, by rw [← h2.length]; exact hl, ds, Γ, M, P, h2, hs, hm, h, fun _ _ z => z⟩
theorem wg_lsub {P : Sl → Mem → Prop} {d : D} (h : WE X o Γ M fun x M1 => WE X i Γ M1 fun y M2 => ∃ a l j, x = .ref a ∧ M2 a = some (.lst l) ∧ y = .int (j : Nat) ∧ j < l.length ∧ P Γ (put M2 a (.lst (l.set j d))))
    (ha : ∀ v, assign (.Subscript o i pos) X.env v = (do
      let ov ← holding [v] (eval o X.env)
      let iv ← holding [v, ov] (eval i X.env)
      standAt pos
      holding [v, ov, iv] (setItem ov iv v)
      release [v, ov, iv] []) := by intro _; rfl) : WG X (.Subscript o i pos) d Γ M P :=
  wg_of (pg_sub pe_w pe_w set_list ha) fun v σ H r hs hm => tw h hs hm fun v1 H1 d1 M1 t1 r1 m1 p1 => tw p1 (hs.mono t1) m1 fun v2 H2 d2 M2 t2 r2 m2 ⟨a, l, j, e1, ha, e2, hj, p2⟩ => by
    subst e1 e2
    cases r1
    cases r2
    obtain ⟨xs, h1, h2⟩ := m2 a _ ha
    have T : ∀ o, Tx H2 (upd H2 a o) := fun o => Tx.mut h1 (fun _ z => by cases z) (fun _ _ z => by cases z)
    refine ⟨a, xs, j, j, rfl, rfl, h1, ?_, Γ, _, (t1.trans t2).trans (T _), ((hs.mono t1).mono t2).mono (T _), m2.set h1 (fun _ z => by cases z) (fun _ _ z => by cases z) (show MOk _ _ (.lst (l.set j d)) from ⟨_, upd_same, (h2.set ((r.mono t1).mono t2) j).mono (T _)⟩), p2⟩
    unfold ixN
    rw [← h2.length, if_pos (by omega), if_pos (by omega)]
    simp
theorem wg_dsub {P : Sl → Mem → Prop} {d : D} (hu : X.A.units + 1 < cLine) (h : WE X o Γ M fun x M1 => WE X i Γ M1 fun y M2 => ∃ a M3, x = .ref a ∧ DPutD M2 a y d M3 ∧ P Γ M3)
    (ha : ∀ v, assign (.Subscript o i pos) X.env v = (do
      let ov ← holding [v] (eval o X.env)
      let iv ← holding [v, ov] (eval i X.env)
      standAt pos
      holding [v, ov, iv] (setItem ov iv v)
      release [v, ov, iv] []) := by intro _; rfl) : WG X (.Subscript o i pos) d Γ M P :=
  wg_of (pg_sub pe_w pe_w (set_dict hu) ha) fun v σ H r hs hm => tw h hs hm fun v1 H1 d1 M1 t1 r1 m1 p1 => tw p1 (hs.mono t1) m1 fun v2 H2 d2 M2 t2 r2 m2 ⟨a, M3, e1, g, p2⟩ => by
    subst e1
    cases r1
    obtain ⟨H3, g', t3, m3⟩ := g.of m2 r2 ((r.mono t1).mono t2)
    exact ⟨a, H3, rfl, g', Γ, M3, (t1.trans t2).trans t3, ((hs.mono t1).mono t2).mono t3, m3, p2⟩
end
end DL

set_option Elab.async false
set_option linter.all false
set_option maxRecDepth 100000
set_option maxHeartbeats 4000000
/-! DLf: statements, what is walked, loops, comprehensions, defs, by data. -/
namespace DL
open PySem PySem.Spec PyProof.Rows L2
abbrev PS_ := Sl → Mem → Prop
/-- what is wanted behind a statement -/
structure DE where
  nx : PS_
  rt : PD
  bk : PS_ := fun _ _ => False
  ct : PS_ := fun _ _ => False
structure Lk (H : Hp) (E : DE) (Dn : Ends) : Prop where
  nx : ∀ σ' H' Γ' M', Tx H H' → SIs H' σ' Γ' → RelM H' M' → E.nx Γ' M' → Dn.nx σ' H'
  rt : ∀ v H' d M', Tx H H' → Is H' d v → RelM H' M' → E.rt d M' → Dn.rt v H'
  bk : ∀ σ' H' Γ' M', Tx H H' → SIs H' σ' Γ' → RelM H' M' → E.bk Γ' M' → Dn.bk σ' H'
  ct : ∀ σ' H' Γ' M', Tx H H' → SIs H' σ' Γ' → RelM H' M' → E.ct Γ' M' → Dn.ct σ' H'
theorem Lk.tr {H H1 : Hp} {E : DE} {Dn : Ends} (t : Tx H H1) (k : Lk H E Dn) : Lk H1 E Dn :=
  ⟨fun σ' H' Γ' M' t1 => k.nx σ' H' Γ' M' (t.trans t1), fun σ' H' Γ' M' t1 => k.rt σ' H' Γ' M' (t.trans t1), fun σ' H' Γ' M' t1 => k.bk σ' H' Γ' M' (t.trans t1), fun σ' H' Γ' M' t1 => k.ct σ' H' Γ' M' (t.trans t1)⟩
structure WS (X : Cx) (st : Stmt) (Γ : Sl) (M : Mem) (E : DE) : Prop where
  run : ∀ (pins : List (Addr × Obj)) (s : Shared) (σ : L2.St) (H : Hp) (Dn : Ends), Inv X pins σ H s → SIs H σ Γ → RelM H M → Lk H E Dn → wpAny (model X.prog X.w) X.A (exec st X.env) (SP X pins Dn) X.xe s
structure WSs (X : Cx) (st : List Stmt) (Γ : Sl) (M : Mem) (E : DE) : Prop where
  run : ∀ (pins : List (Addr × Obj)) (s : Shared) (σ : L2.St) (H : Hp) (Dn : Ends), Inv X pins σ H s → SIs H σ Γ → RelM H M → Lk H E Dn → wpAny (model X.prog X.w) X.A (execs st X.env) (SP X pins Dn) X.xe s
def tWS (X : Cx) (st : Stmt) : TS := fun Dn σ H => ∃ Γ M E, SIs H σ Γ ∧ RelM H M ∧ WS X st Γ M E ∧ Lk H E Dn
def tWSs (X : Cx) (st : List Stmt) : TS := fun Dn σ H => ∃ Γ M E, SIs H σ Γ ∧ RelM H M ∧ WSs X st Γ M E ∧ Lk H E Dn
section
variable {X : Cx} {st : Stmt} {sts rest a b : List Stmt} {Γ : Sl} {M : Mem} {E : DE} {pos p : Pos} {e o i c value : Expr} {es : List Expr} {x y z : Str}
theorem ps_w : PS X st (tWS X st) := ⟨fun pins s σ H Dn I ⟨Γ, M, E, hs, hm, h, k⟩ => h.run pins s σ H Dn I hs hm k⟩
theorem pss_w : PSs X sts (tWSs X sts) := ⟨fun pins s σ H Dn I ⟨Γ, M, E, hs, hm, h, k⟩ => h.run pins s σ H Dn I hs hm k⟩
theorem ws_of {t : TS} (h : PS X st t) (k : ∀ σ H Dn, SIs H σ Γ → RelM H M → Lk H E Dn → t Dn σ H) : WS X st Γ M E := ⟨fun pins s σ H Dn I hs hm lk => h.run pins s σ H Dn I (k σ H Dn hs hm lk)⟩
theorem wss_of {t : TS} (h : PSs X sts t) (k : ∀ σ H Dn, SIs H σ Γ → RelM H M → Lk H E Dn → t Dn σ H) : WSs X sts Γ M E := ⟨fun pins s σ H Dn I hs hm lk => h.run pins s σ H Dn I (k σ H Dn hs hm lk)⟩
theorem wss_nil (h : E.nx Γ M) : WSs X [] Γ M E := wss_of pss_nil fun σ H Dn hs hm lk => lk.nx σ H Γ M (Tx.refl H) hs hm h
theorem wss_cons (h : WS X st Γ M { E with nx := fun Γ1 M1 => WSs X rest Γ1 M1 E }) : WSs X (st :: rest) Γ M E := wss_of (pss_cons ps_w pss_w) fun σ H Dn hs hm lk =>
  ⟨Γ, M, _, hs, hm, h, ⟨fun σ' H' Γ' M' t s m p => ⟨Γ', M', E, s, m, p, lk.tr t⟩, lk.rt, lk.bk, lk.ct⟩⟩
theorem wss_one (h : WS X st Γ M E) : WSs X [st] Γ M E := wss_of (pss_one ps_w) fun σ H Dn hs hm lk => ⟨Γ, M, E, hs, hm, h, lk⟩
theorem ws_pass (h : E.nx Γ M) : WS X (.Pass pos) Γ M E := ws_of ps_pass fun σ H Dn hs hm lk => lk.nx σ H Γ M (Tx.refl H) hs hm h
theorem ws_break (h : E.bk Γ M) : WS X (.Break pos) Γ M E := ws_of ps_break fun σ H Dn hs hm lk => lk.bk σ H Γ M (Tx.refl H) hs hm h
theorem ws_continue (h : E.ct Γ M) : WS X (.Continue pos) Γ M E := ws_of ps_continue fun σ H Dn hs hm lk => lk.ct σ H Γ M (Tx.refl H) hs hm h
theorem ws_ret (h : WE X e Γ M E.rt) : WS X (.Return (some e) pos) Γ M E := ws_of (ps_ret pe_w) fun σ H Dn hs hm lk => tw h hs hm fun v H1 d M1 t r m p => lk.rt v H1 d M1 t r m p
theorem ws_retN (h : E.rt .non M) : WS X (.Return none pos) Γ M E := ws_of ps_retN fun σ H Dn hs hm lk => lk.rt .non H .non M (Tx.refl H) .non hm h
theorem ws_expr (h : WE X e Γ M fun _ M1 => E.nx Γ M1) (hs : swapsWith e none pos.line X.env = pure false := by rfl) : WS X (.Expr e pos) Γ M E := ws_of (ps_expr pe_w hs) fun σ H Dn hs hm lk => tw h hs hm fun v H1 d M1 t r m p => lk.nx σ H1 Γ M1 t (hs.mono t) m p
theorem ws_if (h : WT X c Γ M fun k M1 => (k = true → WSs X a Γ M1 E) ∧ (k = false → WSs X b Γ M1 E)) : WS X (.If c a b pos) Γ M E := ws_of (ps_if pt_w pss_w pss_w) fun σ H Dn hs hm lk => twt h hs hm fun k H1 M1 t m ⟨p, q⟩ => by
  cases k with
  | true => exact ⟨Γ, M1, E, hs.mono t, m, p rfl, lk.tr t⟩
  | false => exact ⟨Γ, M1, E, hs.mono t, m, q rfl, lk.tr t⟩
theorem ws_set (i : Nat) {pos' : Pos} (nd : X.N.Nodup) (h : WE X e Γ M fun d M1 => E.nx (Γ.set i (some d)) M1) (hi : X.N[i]? = some x := by rfl) (hx : Loc X.env.scope x := by first | exact Or.inl rfl | exact Or.inr rfl)
    (hs : swapsWith e (some (.Name x pos')) pos.line X.env = pure false := by rfl) (hf : X.fn x = true ∨ X.env.scope.names.lookup x = some .local := by first | exact .inl rfl | exact .inr rfl) : WS X (.Assign [.Name x pos'] e pos) Γ M E :=
  ws_of (ps_set nd hi hx pe_w hs hf) fun σ H Dn hs hm lk => tw h hs hm fun v H1 d M1 t r m p => lk.nx _ H1 _ M1 t ((hs.mono t).set r) m p
theorem ws_asg {tg : Expr} (h : WE X e Γ M fun d M1 => WG X tg d Γ M1 E.nx) (hs : swapsWithSole [tg] e pos.line X.env = pure false := by rfl) (hw : swappedStores [tg] e X.env = pure none := by rfl) (h1 : (assignEach [tg] X.env).map (·.2) = [assign tg X.env] := by rfl) : WS X (.Assign [tg] e pos) Γ M E :=
  ws_of (ps_asg pe_w pg_w hs hw h1) fun σ H Dn hs hm lk => tw h hs hm fun v H1 d M1 t r m p => ⟨d, Γ, M1, _, r, hs.mono t, m, p, fun σ' H' ⟨Γ', M', t', s', m', p'⟩ => lk.nx σ' H' Γ' M' (t.trans t') s' m' p'⟩
theorem ws_par (i j : Nat) {a b : Expr} {px py pt pt2 : Pos} {kt k2 : Nat} (hc : X.calm = true) (nd : X.N.Nodup) (h : WA X [a, b] Γ M fun ds M1 => ∃ d e, ds = [d, e] ∧ E.nx ((Γ.set i (some d)).set j (some e)) M1) (hi : X.N[i]? = some x := by rfl) (hj : X.N[j]? = some y := by rfl) (hij : i ≠ j := by decide)
    (hx : X.env.scope.names.lookup x = some .local := by rfl) (hy : X.env.scope.names.lookup y = some .local := by rfl) (hw : swappedStores [.Tuple [.Name x px, .Name y py] kt pt] (.Tuple [a, b] k2 pt2) X.env = pure (some [x, y]) := by rfl)
    (hs : swapsWithSole [.Tuple [.Name x px, .Name y py] kt pt] (.Tuple [a, b] k2 pt2) pos.line X.env = pure false := by rfl) : WS X (.Assign [.Tuple [.Name x px, .Name y py] kt pt] (.Tuple [a, b] k2 pt2) pos) Γ M E :=
  ws_of (ps_par hc nd hi hj hij hx hy pa_w hw hs) fun σ H Dn hs hm lk => twa h hs hm fun vs H1 ds M1 t r m ⟨d, e', ed, p⟩ => by
    subst ed
    obtain ⟨v, w, rfl, r1, r2⟩ := two_of r
    exact ⟨v, w, rfl, lk.nx _ H1 _ M1 t (((hs.mono t).set r1).set r2) m p⟩
/-- a, b, c = x, y, z with plain local names -/
def tPar3 (i j l : Nat) (ta : TA) : TS := fun D σ H => ta σ H fun vs H1 => ∃ v w u, vs = [v, w, u] ∧ D.nx (((σ.set i (some v)).set j (some w)).set l (some u)) H1
theorem ps_par3 {i j l : Nat} {a b c : Expr} {ta : TA} {px py pz pt pt2 : Pos} {kt k2 : Nat} (hc : X.calm = true) (hN : X.N.Nodup) (hi : X.N[i]? = some x) (hj : X.N[j]? = some y) (hl : X.N[l]? = some z) (hij : i ≠ j) (hil : i ≠ l) (hjl : j ≠ l)
    (hx : X.env.scope.names.lookup x = some .local) (hy : X.env.scope.names.lookup y = some .local) (hz : X.env.scope.names.lookup z = some .local) (ha : PA X [a, b, c] ta)
    (hw : swappedStores [.Tuple [.Name x px, .Name y py, .Name z pz] kt pt] (.Tuple [a, b, c] k2 pt2) X.env = pure (some [x, y, z]))
    (hs : swapsWithSole [.Tuple [.Name x px, .Name y py, .Name z pz] kt pt] (.Tuple [a, b, c] k2 pt2) pos.line X.env = pure false := by rfl) :
    PS X (.Assign [.Tuple [.Name x px, .Name y py, .Name z pz] kt pt] (.Tuple [a, b, c] k2 pt2) pos) (tPar3 i j l ta) := by
  refine ⟨fun pins s σ H D I h => ?_⟩
  rw [exec_Assign_arm]
  refine wpAny_bind (wpAny_standAt ?_)
  rw [hs]
  refine wpAny_bind (wpAny_pure ?_)
  rw [if_neg (by decide)]
  refine wpAny_bind (Tuple_ (thn (ha.run _ pins s σ H _ I h) fun us s1 ⟨vs, H1, I1, r1, q1⟩ => ?_))
  obtain ⟨v, w, u, e1, q1⟩ := q1
  subst e1
  obtain ⟨u1, u2, u3, rfl, rv, rw', ru⟩ : ∃ u1 u2 u3, us = [u1, u2, u3] ∧ RelV v u1 ∧ RelV w u2 ∧ RelV u u3 := by
    cases r1 with
    | cons p q =>
      cases q with
      | cons p' q' =>
        cases q' with
        | cons p2 q2 =>
          cases q2
          exact ⟨_, _, _, rfl, p, p', p2⟩
  refine wpAny_newObj_type ?_ (by show 3 ≤ sizeLine; decide)
  have I2 : Inv X pins σ H1 { s1 with heap := s1.heap.push { cls := .type "tuple", data := .seq [u1, u2, u3].toArray } } := I1.kept (t' := s1.toks) fun b o e => Heap.get?_push_of_some _ e
  rw [hw]
  refine wpAny_bind (wpAny_pure ?_)
  show wpAny (model X.prog X.w) X.A (do rule "assign.swapped-stores"; let items ← unpackItems (.ref s1.heap.objs.size) 3 none; assignInOrder [fun v => bindName X.env z v, fun v => bindName X.env y v, fun v => bindName X.env x v] items.reverse; pure Flow.next) _ _ _
  refine wpAny_bind (wpAny_rule (wpAny_bind (unpackItems_tuple (items := #[u1, u2, u3]) (I.ok.hd hc) (IsTup.new s1.heap _) fun h' hx' => ?_)))
  have I3 := I2.kept (h' := h') (t' := s1.toks) fun b o e => hx' b o (Nat.ne_of_lt (Heap.lt_size e)) e
  show wpAny _ _ (assignInOrder [fun v => bindName X.env z v, fun v => bindName X.env y v, fun v => bindName X.env x v] [u3, u2, u1] >>= fun _ => pure Flow.next) _ _ _
  refine wpAny_bind (assignInOrder_cons (wpAny_bindName (store_ok I3 hN hl (.inl hz) ru (fun s2 I4 => ?_) (.inr hz))))
  refine assignInOrder_cons (wpAny_bindName (store_ok I4 hN hj (.inl hy) rw' (fun s3 I5 => ?_) (.inr hy)))
  refine assignInOrder_cons (wpAny_bindName (store_ok I5 hN hi (.inl hx) rv (fun s4 I6 => assignInOrder_nil (wpAny_pure ?_)) (.inr hx)))
  have e : ((σ.set l (some u)).set j (some w)).set i (some v) = ((σ.set i (some v)).set j (some w)).set l (some u) := by
    rw [List.set_comm _ _ (Ne.symm hij), List.set_comm (some u) (some v) (Ne.symm hil), List.set_comm (some u) (some w) (Ne.symm hjl)]
  rw [e] at I6
  exact ⟨_, H1, I6, q1⟩
theorem three_of {H : Hp} {d e f : D} {xs : List V} (r : IsL H [d, e, f] xs) : ∃ v w u, xs = [v, w, u] ∧ Is H d v ∧ Is H e w ∧ Is H f u := by
  cases r with
  | cons r1 r2 =>
    obtain ⟨w, u, rfl, r3, r4⟩ := two_of r2
    exact ⟨_, w, u, rfl, r1, r3, r4⟩
theorem ws_par3 (i j l : Nat) {a b c : Expr} {px py pz pt pt2 : Pos} {kt k2 : Nat} (hc : X.calm = true) (nd : X.N.Nodup) (h : WA X [a, b, c] Γ M fun ds M1 => ∃ d e f, ds = [d, e, f] ∧ E.nx (((Γ.set i (some d)).set j (some e)).set l (some f)) M1) (hi : X.N[i]? = some x := by rfl) (hj : X.N[j]? = some y := by rfl) (hl : X.N[l]? = some z := by rfl) (hij : i ≠ j := by decide) (hil : i ≠ l := by decide) (hjl : j ≠ l := by decide)
    (hx : X.env.scope.names.lookup x = some .local := by rfl) (hy : X.env.scope.names.lookup y = some .local := by rfl) (hz : X.env.scope.names.lookup z = some .local := by rfl)
    (hw : swappedStores [.Tuple [.Name x px, .Name y py, .Name z pz] kt pt] (.Tuple [a, b, c] k2 pt2) X.env = pure (some [x, y, z]) := by rfl)
    (hs : swapsWithSole [.Tuple [.Name x px, .Name y py, .Name z pz] kt pt] (.Tuple [a, b, c] k2 pt2) pos.line X.env = pure false := by rfl) : WS X (.Assign [.Tuple [.Name x px, .Name y py, .Name z pz] kt pt] (.Tuple [a, b, c] k2 pt2) pos) Γ M E :=
  ws_of (ps_par3 hc nd hi hj hl hij hil hjl hx hy hz pa_w hw hs) fun σ H Dn hs hm lk => twa h hs hm fun vs H1 ds M1 t r m ⟨d, e', f, ed, p⟩ => by
    subst ed
    obtain ⟨v, w, u, rfl, r1, r2, r3⟩ := three_of r
    exact ⟨v, w, u, rfl, lk.nx _ H1 _ M1 t ((((hs.mono t).set r1).set r2).set r3) m p⟩
/-- name op= e -/
theorem ws_aug (i : Nat) {op : Operator} {B : B2} {pos' : Pos} {d0 : D} (nd : X.N.Nodup) (ho : OpD X (inplaceOp op) B) (h0 : Γ[i]? = some (some d0)) (h : WE X e Γ M fun d M1 => B d0 d M1 fun z M2 => E.nx (Γ.set i (some z)) M2) (hi : X.N[i]? = some x := by rfl) (hx : Loc X.env.scope x := by first | exact Or.inl rfl | exact Or.inr rfl)
    (hf : X.fn x = true ∨ X.env.scope.names.lookup x = some .local := by first | exact .inl rfl | exact .inr rfl) : WS X (.AugAssign (.Name x pos') op e pos) Γ M E :=
  ws_of (ps_aug nd hi hx pe_w ho.r hf) fun σ H Dn hs hm lk => by
    obtain ⟨v0, e0, r0⟩ := hs.2 i d0 h0
    exact ⟨v0, e0, tw h hs hm fun v H1 d M1 t r m p => ⟨d0, d, M1, _, r0.mono t, r, m, p, fun z H2 ⟨dz, M2, t2, r2, m2, p2⟩ => lk.nx _ H2 _ M2 (t.trans t2) (((hs.mono t).mono t2).set r2) m2 p2⟩⟩
/-! ### attributes stored -/
def putS (f : Str) (d : D) : List (Str × D) → List (Str × D)
  | [] => [(f, d)]
  | (g, x) :: r => if g = f then (g, d) :: r else (g, x) :: putS f d r
theorem IsKV.putF {H : Hp} {f : Str} {d : D} {v : V} (r : Is H d v) : ∀ {l : List (Str × D)} {xs : List (Str × V)}, IsKV H l xs → IsKV H (putS f d l) (L2.putF f v xs)
  | _, _, .nil => .cons ⟨rfl, r⟩ .nil
  | (g, x) :: l, (g2, y) :: xs, .cons ⟨e, r1⟩ t => by
    have e : g = g2 := e
    subst e
    show IsKV H (if g = f then (g, d) :: l else (g, x) :: putS f d l) (if g = f then (g, v) :: xs else (g, y) :: L2.putF f v xs)
    by_cases h : g = f
    · rw [if_pos h, if_pos h]
      exact .cons ⟨rfl, r⟩ t
    · rw [if_neg h, if_neg h]
      exact .cons ⟨rfl, r1⟩ (IsKV.putF r t)
theorem ws_fld {f : Str} {pos' : Pos} (h : WE X value Γ M fun y M1 => WE X o Γ M1 fun d M2 => ∃ a C fs, d = .ref a ∧ M2 a = some (.ins C fs) ∧ Cls X.K C ∧ NoAttr X.K C f ∧ fs.length < 1000 ∧ E.nx Γ (put M2 a (.ins C (putS f y fs))))
    (hs : swapsWith value (some (.Attribute o f pos')) pos.line X.env = pure false := by rfl) : WS X (.Assign [.Attribute o f pos'] value pos) Γ M E :=
  ws_of (ps_fld pe_w pe_w hs) fun σ H Dn hs hm lk => tw h hs hm fun v H1 d M1 t r m p => tw p (hs.mono t) m fun v2 H2 d2 M2 t2 r2 m2 ⟨a, C, fs, ed, ha, cl, na, hl, p2⟩ => by
    subst ed
    cases r2
    obtain ⟨dx, us, h1, h2⟩ := m2 a _ ha
    have T : ∀ o, Tx H2 (upd H2 a o) := fun o => Tx.mut h1 (fun _ z => by cases z) (fun _ _ z => by cases z)
    exact ⟨a, C, dx, us, rfl, h1, cl, na, by rw [← h2.length]; exact hl, lk.nx σ _ Γ _ ((t.trans t2).trans (T _)) (((hs.mono t).mono t2).mono (T _)) (m2.set h1 (fun _ z => by cases z) (fun _ _ z => by cases z) (show MOk _ _ (.ins C _) from ⟨dx, _, upd_same, ((h2.putF (r.mono t2)).mono (T _))⟩)) p2⟩
theorem ws_dput {pos' : Pos} (hu : X.A.units + 1 < cLine) (h : WE X value Γ M fun v M1 => WE X o Γ M1 fun d M2 => WE X i Γ M2 fun y M3 => ∃ a M4, d = .ref a ∧ DPutD M3 a y v M4 ∧ E.nx Γ M4)
    (hs : swapsWith value (some (.Subscript o i pos')) pos.line X.env = pure false := by rfl) : WS X (.Assign [.Subscript o i pos'] value pos) Γ M E :=
  ws_of (ps_dput hu pe_w pe_w pe_w hs) fun σ H Dn hs hm lk => tw h hs hm fun v H1 d M1 t r m p => tw p (hs.mono t) m fun v2 H2 d2 M2 t2 r2 m2 p2 => tw p2 ((hs.mono t).mono t2) m2 fun v3 H3 d3 M3 t3 r3 m3 ⟨a, M4, ed, g, p3⟩ => by
    subst ed
    cases r2
    obtain ⟨H4, g', t4, m4⟩ := g.of m3 r3 ((r.mono t2).mono t3)
    exact ⟨a, H4, rfl, g', lk.nx σ H4 Γ M4 (((t.trans t2).trans t3).trans t4) ((((hs.mono t).mono t2).mono t3).mono t4) m4 p3⟩
/-- a way that cannot be -/
theorem wss_never (h : False) : WSs X sts Γ M E := h.elim
/-! ### while -/
theorem ws_while (hp : PassesOwn (model X.prog X.w) X.A X.env X.xe) (W : Nat → PS_) (m0 : Nat) (h0 : W m0 Γ M) (h : ∀ m Γ M, W m Γ M → WT X c Γ M fun k M1 => (k = true → ∃ N : PS_, (∀ Γ2 M2, N Γ2 M2 → ∃ m', m' < m ∧ W m' Γ2 M2) ∧ WSs X sts Γ M1 { nx := N, ct := N, bk := E.nx, rt := E.rt }) ∧ (k = false → E.nx Γ M1)) : WS X (.While c sts [] pos) Γ M E :=
  ws_of (ps_while hp pt_w pss_w) fun σ H Dn hs hm lk => by
    refine ⟨fun m σ' H' => ∃ Γ M, Tx H H' ∧ SIs H' σ' Γ ∧ RelM H' M ∧ W m Γ M, ⟨m0, Γ, M, Tx.refl H, hs, hm, h0⟩, fun m σ' H' ⟨Γ1, M1, t1, s1, m1, w1⟩ => ?_⟩
    refine twt (h m Γ1 M1 w1) s1 m1 fun k H2 M2 t2 m2 ⟨p, q⟩ => ?_
    cases k with
    | true =>
      obtain ⟨N, hN, hb⟩ := p rfl
      rw [if_pos rfl]
      refine ⟨fun σ3 H3 => ∃ Γ M, Tx H H3 ∧ SIs H3 σ3 Γ ∧ RelM H3 M ∧ N Γ M, fun σ3 H3 ⟨Γ3, M3, t3, s3, m3, n3⟩ => ?_, Γ1, M2, _, s1.mono t2, m2, hb, ?_⟩
      · obtain ⟨m', hl, w'⟩ := hN Γ3 M3 n3
        exact ⟨m', hl, Γ3, M3, t3, s3, m3, w'⟩
      · have T := t1.trans t2
        exact ⟨fun σ3 H3 Γ3 M3 t3 s3 m3 n3 => ⟨Γ3, M3, T.trans t3, s3, m3, n3⟩, (lk.tr T).rt, (lk.tr T).nx, fun σ3 H3 Γ3 M3 t3 s3 m3 n3 => ⟨Γ3, M3, T.trans t3, s3, m3, n3⟩⟩
    | false =>
      rw [if_neg Bool.false_ne_true]
      exact lk.nx σ' H2 Γ1 M2 (t1.trans t2) (s1.mono t2) m2 (q rfl)
/-! ### what is walked -/
/-- J walks the data ds while keep stands -/
def WalkD (H0 : Hp) (J : It) (ds : List D) (keep : Mem → Prop) : Prop := ∃ (G : Hp → Prop) (Y : Nat → Hp → V → Hp → Prop), Walk J ds.length G Y ∧ (∀ H M, Tx H0 H → RelM H M → keep M → G H) ∧
  ∀ i H x H', i < ds.length → G H → Y i H x H' → ∃ d, ds[i]? = some d ∧ Is H' d x ∧ Tx H H' ∧ ∀ M, RelM H M → RelM H' M
structure WI (X : Cx) (tg iter : Expr) (Γ : Sl) (M : Mem) (P : List D → (Mem → Prop) → Mem → Prop) : Prop where
  run : ∀ (pins : List (Addr × Obj)) (s : Shared) (σ : L2.St) (H : Hp), Inv X pins σ H s → SIs H σ Γ → RelM H M →
    wpAny (model X.prog X.w) X.A (eval iter X.env) (fun v s1 => wpAny (model X.prog X.w) X.A (pyIter v) (PIE X pins σ tg fun J H' => ∃ ds keep M', Tx H H' ∧ RelM H' M' ∧ P ds keep M' ∧ WalkD H' J ds keep) X.xe s1) X.xe s
def tWI (X : Cx) (tg iter : Expr) : TI := fun σ H R => ∃ Γ M P, SIs H σ Γ ∧ RelM H M ∧ WI X tg iter Γ M P ∧ ∀ J H' ds keep M', Tx H H' → RelM H' M' → P ds keep M' → WalkD H' J ds keep → R J H'
theorem PIE.imp {pins : List (Addr × Obj)} {σ : L2.St} {tg : Expr} {R R' : It → Hp → Prop} {v : Value} {s : Shared} (h : PIE X pins σ tg R v s) (k : ∀ J H', R J H' → R' J H') : PIE X pins σ tg R' v s := let ⟨it, fp, tn, J, H', e, I, T, a, b, q⟩ := h; ⟨it, fp, tn, J, H', e, I, T, a, b, k J H' q⟩
theorem pi_w {tg iter : Expr} : PI X tg iter (tWI X tg iter) := ⟨fun pins s σ H R I ⟨Γ, M, P, hs, hm, h, k⟩ => thn (h.run pins s σ H I hs hm) fun v s1 h1 => thn h1 fun u s2 h2 => PIE.imp h2 fun J H' ⟨ds, keep, M', t, m, p, w⟩ => k J H' ds keep M' t m p w⟩
theorem wi_of {tg iter : Expr} {P : List D → (Mem → Prop) → Mem → Prop} {wi : TI} (h : PI X tg iter wi) (k : ∀ σ H, SIs H σ Γ → RelM H M → wi σ H fun J H' => ∃ ds keep M', Tx H H' ∧ RelM H' M' ∧ P ds keep M' ∧ WalkD H' J ds keep) : WI X tg iter Γ M P :=
  ⟨fun pins s σ H I hs hm => h.run pins s σ H _ I (k σ H hs hm)⟩
abbrev kAll : Mem → Prop := fun _ => True
theorem walkD_tup {K : PySem.W.Frag} {H : Hp} {a : Addr} {l : List D} {xs : List V} (h1 : H a = some (.tup xs)) (h2 : IsL H l xs) : WalkD H (Itt K a) l kAll := by
  refine ⟨fun H' => Tx H H', YAt xs, ?_, fun H' M t _ _ => t, fun i H1 x H2 hi t ⟨e, q⟩ => ?_⟩
  · rw [h2.length]
    exact walk_tup.mono (fun H' t => SqT.of (t.t _ _ h1)) fun _ _ _ _ _ _ y => y
  · subst e
    obtain ⟨d, hd, r⟩ := h2.back q
    exact ⟨d, hd, r.mono t, Tx.refl _, fun _ z => z⟩
theorem walkD_rol {K : PySem.W.Frag} {H : Hp} {a : Addr} {l : List D} {xs : List V} (h1 : FzL H a xs) (h2 : IsL H l xs) : WalkD H (Itl K a) l kAll := by
  refine ⟨fun H' => Tx H H', YAt xs, ?_, fun H' M t _ _ => t, fun i H1 x H2 hi t ⟨e, q⟩ => ?_⟩
  · rw [h2.length]
    exact walk_list.mono (fun H' t => (t.l _ _ h1).sq) fun _ _ _ _ _ _ y => y
  · subst e
    obtain ⟨d, hd, r⟩ := h2.back q
    exact ⟨d, hd, r.mono t, Tx.refl _, fun _ z => z⟩
theorem walkD_lst {K : PySem.W.Frag} {H : Hp} {a : Addr} {l : List D} : WalkD H (Itl K a) l (fun M => M a = some (.lst l)) := by
  refine ⟨fun H' => ∃ xs, H' a = some (.lst xs) ∧ IsL H' l xs, fun i H x H' => H' = H ∧ ∀ xs, SqL K H a xs → xs[i]? = some x, ?_, fun H' M t m k => m a _ k, fun i H1 x H2 hi ⟨xs, h1, h2⟩ ⟨e, q⟩ => ?_⟩
  · refine ⟨fun i H' hi ⟨xs, h1, h2⟩ => ?_, fun H' ⟨xs, h1, h2⟩ => ⟨xs, SqL.of h1, by rw [h2.length]; exact Nat.le_refl _⟩, fun i H' x H2 hi _ y => y⟩
    obtain ⟨v, hv, _⟩ := h2.get (List.getElem?_eq_getElem hi)
    exact ⟨xs, v, SqL.of h1, hv⟩
  · subst e
    obtain ⟨d, hd, r⟩ := h2.back (q xs (SqL.of h1))
    exact ⟨d, hd, r, Tx.refl _, fun _ z => z⟩
theorem walkD_range {H : Hp} {lo : Int} {n : Nat} : WalkD H (Itr lo n) ((List.range n).map fun i => D.int (lo + (i : Nat))) kAll := by
  refine ⟨fun _ => True, YFn fun i => .int (lo + i), ?_, fun _ _ _ _ _ => trivial, fun i H1 x H2 hi _ ⟨e, q⟩ => ?_⟩
  · rw [List.length_map, List.length_range]
    exact walk_range
  · subst e
    subst q
    rw [List.length_map, List.length_range] at hi
    refine ⟨.int (lo + (i : Nat)), ?_, .int _, Tx.refl _, fun _ z => z⟩
    rw [List.getElem?_map, List.getElem?_range hi]
    rfl
/-- for x in e, e a tuple | a list -/
theorem wi_tup {tg : Expr} {P : List D → (Mem → Prop) → Mem → Prop} (h : WE X e Γ M fun d M1 => ∃ l, d = .tup l ∧ P l kAll M1) : WI X tg e Γ M P :=
  wi_of (pi_tup pe_w) fun σ H hs hm => tw h hs hm fun v H1 d M1 t r m ⟨l, ed, p⟩ => by
    subst ed
    obtain ⟨a, xs, rfl, h1, h2⟩ := rI_t r
    exact ⟨a, rfl, ⟨xs, SqT.of h1⟩, l, kAll, M1, t, m, p, walkD_tup h1 h2⟩
theorem wi_rol {tg : Expr} {P : List D → (Mem → Prop) → Mem → Prop} (h : WE X e Γ M fun d M1 => ∃ l, d = .rol l ∧ P l kAll M1) : WI X tg e Γ M P :=
  wi_of (pi_list pe_w) fun σ H hs hm => tw h hs hm fun v H1 d M1 t r m ⟨l, ed, p⟩ => by
    subst ed
    obtain ⟨a, xs, rfl, h1, h2⟩ := rI_l r
    exact ⟨a, rfl, ⟨xs, h1.sq⟩, l, kAll, M1, t, m, p, walkD_rol h1 h2⟩
theorem wi_lst {tg : Expr} {P : List D → (Mem → Prop) → Mem → Prop} (h : WE X e Γ M fun d M1 => ∃ a l, d = .ref a ∧ M1 a = some (.lst l) ∧ P l (fun M => M a = some (.lst l)) M1) : WI X tg e Γ M P :=
  wi_of (pi_list pe_w) fun σ H hs hm => tw h hs hm fun v H1 d M1 t r m ⟨a, l, ed, ha, p⟩ => by
    subst ed
    cases r
    obtain ⟨xs, h1, h2⟩ := m a _ ha
    exact ⟨a, rfl, ⟨xs, SqL.of h1⟩, l, _, M1, t, m, p, walkD_lst⟩
def rg1 (n : Int) : List D := (List.range n.toNat).map fun i => D.int (0 + (i : Nat))
def rg2 (a b : Int) : List D := (List.range (b - a).toNat).map fun i => D.int (a + (i : Nat))
theorem wi_range1 {tg : Expr} {P : List D → (Mem → Prop) → Mem → Prop} (hr : X.mg "range" = none) (h : WE X e Γ M fun d M1 => ∃ n, d = .int n ∧ -(2 ^ 62) ≤ n ∧ n < 2 ^ 62 ∧ P (rg1 n) kAll M1) (hg : Gl X "range" := by rfl)
    (hs : starEach [e] X.env = (false, eval e X.env) :: starEach [] X.env := by rfl) (hs2 : starEach [e] X.env = [(false, eval e X.env)] := by rfl) : WI X tg (.Call (.Name "range" p) [e] [] pos) Γ M P :=
  wi_of (pi_range1 hg hr (pa_cons pe_w pa_nil hs) hs2) fun σ H hs hm => tw h hs hm fun v H1 d M1 t r m ⟨n, ed, h1, h2, p⟩ => by
    subst ed
    cases r
    exact ⟨n, rfl, h1, h2, rg1 n, kAll, M1, t, m, p, walkD_range⟩
theorem wi_range2 {tg : Expr} {P : List D → (Mem → Prop) → Mem → Prop} (hr : X.mg "range" = none) (h : WE X e Γ M fun d M1 => WE X i Γ M1 fun d2 M2 => ∃ a b, d = .int a ∧ d2 = .int b ∧ (-(2 ^ 62) ≤ a ∧ a < 2 ^ 62 ∧ -(2 ^ 62) ≤ b ∧ b < 2 ^ 62) ∧ P (rg2 a b) kAll M2) (hg : Gl X "range" := by rfl)
    (hs : starEach [e, i] X.env = (false, eval e X.env) :: starEach [i] X.env := by rfl) (hs1 : starEach [i] X.env = (false, eval i X.env) :: starEach [] X.env := by rfl) (hs2 : starEach [e, i] X.env = [(false, eval e X.env), (false, eval i X.env)] := by rfl) (hs3 : starEach [i] X.env = [(false, eval i X.env)] := by rfl) : WI X tg (.Call (.Name "range" p) [e, i] [] pos) Γ M P :=
  wi_of (pi_range2 hg hr (pa_cons pe_w (pa_cons pe_w pa_nil hs1) hs) hs2 hs3) fun σ H hs hm => tw h hs hm fun v H1 d M1 t r m p => tw p (hs.mono t) m fun v2 H2 d2 M2 t2 r2 m2 ⟨a, b, ed, ed2, hb, p2⟩ => by
    subst ed ed2
    cases r
    cases r2
    exact ⟨a, b, rfl, hb, rg2 a b, kAll, M2, t.trans t2, m2, p2, walkD_range⟩
/-- pairs of two lists -/
def zipD (l m : List D) : List D := (l.zip m).map fun p => D.tup [p.1, p.2]
theorem walkD_zip {K : PySem.W.Frag} {H : Hp} {a b : Addr} {l m : List D} : WalkD H (Itz K a b) (zipD l m) (fun M => M a = some (.lst l) ∧ M b = some (.lst m)) := by
  have hlen : (zipD l m).length = min l.length m.length := by unfold zipD; rw [List.length_map, List.length_zip]
  refine ⟨fun H' => (∃ xs, H' a = some (.lst xs) ∧ IsL H' l xs) ∧ ∃ ys, H' b = some (.lst ys) ∧ IsL H' m ys, fun i H x H' => (Itz K a b).yld i H x H', ?_, fun H' M t r k => ⟨r a _ k.1, r b _ k.2⟩, fun i H1 x H2 hi ⟨⟨xs, h1, h2⟩, ys, h3, h4⟩ y => ?_⟩
  · refine ⟨fun i H' hi ⟨⟨xs, h1, h2⟩, ys, h3, h4⟩ => ?_, fun H' ⟨⟨xs, h1, h2⟩, ys, h3, h4⟩ => ?_, fun i H' x H2 hi _ y => y⟩
    · rw [hlen, h2.length, h4.length] at hi
      exact (walk_zip (K := K) (a := a) (b := b) (xs := xs) (ys := ys) rfl).goes i H' hi ⟨SqL.of h1, SqL.of h3⟩
    · rw [hlen, h2.length, h4.length]
      exact (walk_zip (K := K) (a := a) (b := b) (xs := xs) (ys := ys) rfl).stops H' ⟨SqL.of h1, SqL.of h3⟩
  · have hi' : i < min xs.length ys.length := by rw [hlen, h2.length, h4.length] at hi; exact hi
    obtain ⟨T, u, w, e, hT, eH, hu, hw⟩ := (walk_zip (K := K) (a := a) (b := b) (xs := xs) (ys := ys) rfl).yields i H1 x H2 hi' ⟨SqL.of h1, SqL.of h3⟩ y
    subst e eH
    obtain ⟨d1, q1, r1⟩ := h2.back hu
    obtain ⟨d2, q2, r2⟩ := h4.back hw
    refine ⟨.tup [d1, d2], ?_, .tup upd_same (.cons (r1.mono (Tx.new hT)) (.cons (r2.mono (Tx.new hT)) .nil)), Tx.new hT, fun M r => r.fresh hT⟩
    unfold zipD
    rw [List.getElem?_map, show (l.zip m)[i]? = some (d1, d2) from List.getElem?_zip_eq_some.mpr ⟨q1, q2⟩]
    rfl
theorem wi_zip {elts : List Expr} {kk : Nat} {tpos : Pos} {P : List D → (Mem → Prop) → Mem → Prop} (hz : X.mg "zip" = none) (h : WE X e Γ M fun d M1 => WE X i Γ M1 fun d2 M2 => ∃ a b l m, d = .ref a ∧ d2 = .ref b ∧ M2 a = some (.lst l) ∧ M2 b = some (.lst m) ∧ P (zipD l m) (fun M => M a = some (.lst l) ∧ M b = some (.lst m)) M2) (hg : Gl X "zip" := by rfl)
    (hs : starEach [e, i] X.env = (false, eval e X.env) :: starEach [i] X.env := by rfl) (hs1 : starEach [i] X.env = (false, eval i X.env) :: starEach [] X.env := by rfl) (hpl : (backTo pos (starEach [i] X.env)).any (·.1) = false := by rfl) : WI X (.Tuple elts kk tpos) (.Call (.Name "zip" p) [e, i] [] pos) Γ M P :=
  wi_of (pi_zip hg hz (pa_cons pe_w (pa_cons pe_w pa_nil hs1) hs) hs hpl) fun σ H hs hm => tw h hs hm fun v H1 d M1 t r m p => tw p (hs.mono t) m fun v2 H2 d2 M2 t2 r2 m2 ⟨a, b, l, l2, ed, ed2, h1, h2, p2⟩ => by
    subst ed ed2
    cases r
    cases r2
    obtain ⟨xs, q1, q2⟩ := m2 a _ h1
    obtain ⟨ys, q3, q4⟩ := m2 b _ h2
    exact ⟨a, b, xs, ys, rfl, SqL.of q1, SqL.of q3, zipD l l2, _, M2, t.trans t2, m2, p2, walkD_zip⟩
/-! ### for -/
theorem ws_for {tg iter : Expr} (hp : PassesOwn (model X.prog X.w) X.A X.env X.xe) (hc : X.calm = true) (h : WI X tg iter Γ M fun ds keep M1 => ∃ J : Nat → PS_, J 0 Γ M1 ∧ (∀ i Γ' M', i ≤ ds.length → J i Γ' M' → keep M') ∧
      (∀ i d Γ' M', ds[i]? = some d → J i Γ' M' → WG X tg d Γ' M' fun Γ2 M2 => WSs X sts Γ2 M2 { nx := J (i + 1), ct := J (i + 1), bk := E.nx, rt := E.rt }) ∧ ∀ Γ' M', J ds.length Γ' M' → E.nx Γ' M')
    (hs : ∀ x, foldedSetIterable iter X.env x = pure x := by intro _; rfl) : WS X (.For tg iter sts [] pos) Γ M E :=
  ws_of (ps_for hp hc pi_w pg_w pss_w hs) fun σ H Dn hs hm lk => ⟨Γ, M, _, hs, hm, h, fun J H1 ds keep M1 t m ⟨Jv, j0, jk, jt, jd⟩ ⟨G, Y, w, wg, wy⟩ => by
    refine for_it w (fun i σ' H' => ∃ Γ' M', Tx H1 H' ∧ SIs H' σ' Γ' ∧ RelM H' M' ∧ Jv i Γ' M') ⟨Γ, M1, Tx.refl H1, hs.mono t, m, j0⟩ (fun i σ' H' hi ⟨Γ', M', t', s', m', j'⟩ => wg H' M' t' m' (jk i Γ' M' hi j')) (fun i x σ' H' H2 hi ⟨Γ', M', t', s', m', j'⟩ y => ?_) fun σ' H' ⟨Γ', M', t', s', m', j'⟩ => lk.nx σ' H' Γ' M' (t.trans t') s' m' (jd Γ' M' j')
    obtain ⟨d, hd, r, t2, k2⟩ := wy i H' x H2 hi (wg H' M' t' m' (jk i Γ' M' (Nat.le_of_lt hi) j')) y
    refine ⟨d, Γ', M', _, r, s'.mono t2, k2 M' m', jt i d Γ' M' hd j', fun σ3 H3 ⟨Γ3, M3, t3, s3, m3, b3⟩ => ⟨Γ3, M3, _, s3, m3, b3, ?_⟩⟩
    have T := (t'.trans t2).trans t3
    have L := lk.tr (t.trans T)
    exact ⟨fun σ4 H4 Γ4 M4 t4 s4 m4 p4 => ⟨Γ4, M4, T.trans t4, s4, m4, p4⟩, L.rt, L.nx, fun σ4 H4 Γ4 M4 t4 s4 m4 p4 => ⟨Γ4, M4, T.trans t4, s4, m4, p4⟩⟩⟩
end
end DL

set_option Elab.async false
set_option linter.all false
set_option maxRecDepth 100000
set_option maxHeartbeats 4000000
/-! DLg: comprehensions, defs, by data. -/
namespace DL
open PySem PySem.Spec PyProof.Rows L2
/-- a word said in every block of the comprehension -/
abbrev Blks (X : Cx) (scope : Scope) (W : Cx → Prop) : Prop := ∀ (s : Shared) (H : Hp) (C : Addr) (cl : List (Str × Addr)) (fp : List Addr), W (X.blk s H scope (compEnvC scope cl C X.env) fp)
def tB (X : Cx) (scope : Scope) (e : Expr) : TE := fun σ H Q => ∃ Γ M P, SIs H σ Γ ∧ RelM H M ∧ Blks X scope (fun Y => WE Y e Γ M P) ∧ ∀ v H', PostE H P v H' → Q v H'
def tBT (X : Cx) (scope : Scope) (c : Expr) : TT := fun σ H Q => ∃ Γ M P, SIs H σ Γ ∧ RelM H M ∧ Blks X scope (fun Y => WT Y c Γ M P) ∧ ∀ v H', PostT H P v H' → Q v H'
theorem wipe1 {σ : L2.St} {i : Nat} {x : V} : wipe ((wipe σ [i]).set i (some x)) [i] = wipe σ [i] := by
  show (((σ.set i none).set i (some x)).set i none) = σ.set i none
  rw [List.set_set, List.set_set]
theorem wipe2 {σ : L2.St} {i j : Nat} {x y : V} (h : i ≠ j) : wipe (((wipe σ [i, j]).set i (some x)).set j (some y)) [i, j] = wipe σ [i, j] := by
  show (((((σ.set j none).set i none).set i (some x)).set j (some y)).set j none).set i none = (σ.set j none).set i none
  rw [List.set_set, List.set_comm _ _ (Ne.symm h), List.set_set, List.set_set, List.set_comm _ _ h, List.set_set, List.set_comm _ _ (Ne.symm h)]
section
variable {X : Cx} {scope : Scope} {elt iter c : Expr} {Γ : Sl} {M : Mem} {P : PD} {pos px spos : Pos} {E : DE} {x y : Str}
theorem pe_b {s : Shared} {H : Hp} {C : Addr} {cl : List (Str × Addr)} {fp : List Addr} : PE (X.blk s H scope (compEnvC scope cl C X.env) fp) elt (tB X scope elt) := ⟨fun pins s σ H Q I ⟨Γ, M, P, hs, hm, h, k⟩ => thn ((h _ _ _ _ _).run pins s σ H I hs hm) fun u s' ⟨v, H', I', r, q⟩ => ⟨v, H', I', r, k v H' q⟩⟩
theorem pt_b {s : Shared} {H : Hp} {C : Addr} {cl : List (Str × Addr)} {fp : List Addr} : PT (X.blk s H scope (compEnvC scope cl C X.env) fp) c (tBT X scope c) := ⟨fun pins s σ H Q I ⟨Γ, M, P, hs, hm, h, k⟩ => thn ((h _ _ _ _ _).run pins s σ H I hs hm) fun u s' ⟨H', I', q⟩ => ⟨H', I', k u H' q⟩⟩
/-- the words of a comprehension over ds, its new list at p; Γ1 d: the slots at an item d -/
def LcJ (X : Cx) (scope : Scope) (elt : Expr) (ok : D → Prop) (Γ1 : D → Sl) (ds : List D) (keep : Mem → Prop) (p : Addr) (M1 : Mem) (P : PD) : Prop := (∀ d ∈ ds, ok d) ∧ ∃ J : Nat → Mem → Prop, J 0 (put M1 p (.lst [])) ∧ (∀ k M', k ≤ ds.length → J k M' → keep M') ∧
  (∀ (k : Nat) (d : D) (M' : Mem), ds[k]? = some d → J k M' → Blks X scope fun Y => WE Y elt (Γ1 d) M' fun y M3 => ∃ acc, M3 p = some (.lst acc) ∧ acc.length < sizeLine ∧ J (k + 1) (put M3 p (.lst (acc ++ [y])))) ∧ ∀ M', J ds.length M' → P (.ref p) M'
def LcJT (X : Cx) (scope : Scope) (c elt : Expr) (ok : D → Prop) (Γ1 : D → Sl) (ds : List D) (keep : Mem → Prop) (p : Addr) (M1 : Mem) (P : PD) : Prop := (∀ d ∈ ds, ok d) ∧ ∃ J : Nat → Mem → Prop, J 0 (put M1 p (.lst [])) ∧ (∀ k M', k ≤ ds.length → J k M' → keep M') ∧
  (∀ (k : Nat) (d : D) (M' : Mem), ds[k]? = some d → J k M' → Blks X scope fun Y => WT Y c (Γ1 d) M' fun b M2 => (b = true → Blks X scope fun Y => WE Y elt (Γ1 d) M2 fun y M3 => ∃ acc, M3 p = some (.lst acc) ∧ acc.length < sizeLine ∧ J (k + 1) (put M3 p (.lst (acc ++ [y])))) ∧ (b = false → J (k + 1) M2)) ∧
  ∀ M', J ds.length M' → P (.ref p) M'
/-- the item's elements go to slots -/
structure Gt (ok : D → Prop) (g : TG) (vs : List Nat) (Γ : Sl) (Γ1 : D → Sl) : Prop where
  go : ∀ (d : D) (v : V) (σ : L2.St) (H : Hp) (Q : L2.St → Hp → Prop), ok d → Is H d v → SIs H σ Γ → (∀ σ2, SIs H σ2 (Γ1 d) → wipe σ2 vs = wipe σ vs → Q σ2 H) → g v (wipe σ vs) H Q
theorem wipeD_set1 {Γ : Sl} {i : Nat} {d : D} : (wipeD Γ [i]).set i (some d) = Γ.set i (some d) := by
  show (Γ.set i none).set i (some d) = _
  rw [List.set_set]
theorem gt_name {i : Nat} : Gt (fun _ => True) (gName i) [i] Γ (fun d => Γ.set i (some d)) := ⟨fun d v σ H Q _ r hs k => k _ (by
  have z := (hs.wipe [i]).set (i := i) r
  rw [wipeD_set1] at z
  exact z) wipe1⟩
section
variable {wi : TI} {tg : Expr} {g : TG} {ok : D → Prop} {vs : List Nat} {Γ1 : D → Sl}
theorem wipeD_set2 {Γ : Sl} {i j : Nat} {d e : D} (h : i ≠ j) : ((wipeD Γ [i, j]).set i (some d)).set j (some e) = (Γ.set i (some d)).set j (some e) := by
  show ((((Γ.set j none).set i none).set i (some d)).set j (some e)) = _
  rw [List.set_set, List.set_comm _ _ (Ne.symm h), List.set_set, List.set_comm _ _ h]
def dPair (f : D → D → Sl) (z : Sl) : D → Sl
  | .tup [a, b] => f a b
  | _ => z
def isPair (d : D) : Prop := ∃ a b, d = .tup [a, b]
theorem gt_pair {K : PySem.W.Frag} {i j : Nat} (h : i ≠ j) : Gt isPair (gTup K 2 (gCons (gName i) (gCons (gName j) gNil))) [i, j] Γ (dPair (fun a b => (Γ.set i (some a)).set j (some b)) Γ) := ⟨fun d v σ H Q ⟨a, b, e⟩ r hs k => by
  subst e
  obtain ⟨p, xs, rfl, h1, h2⟩ := rI_t r
  cases h2 with
  | cons r1 t =>
    cases t with
    | cons r2 t =>
      cases t
      refine ⟨p, _, rfl, SqT.of h1, rfl, _, _, rfl, _, _, rfl, rfl, k _ ?_ (wipe2 h)⟩
      have z := ((hs.wipe [i, j]).set (i := i) r1).set (i := j) r2
      rw [wipeD_set2 h] at z
      exact z⟩
theorem lc_read {σ : L2.St} {H H1 : Hp} {J : It} {ds : List D} {keep : Mem → Prop} {M1 : Mem} (gt : Gt ok g vs Γ Γ1) (hs : SIs H σ Γ) (t : Tx H H1) (m : RelM H1 M1) (w : WalkD H1 J ds keep) (p : ∀ p, M1 p = none → LcJ X scope elt ok Γ1 ds keep p M1 P) :
    ∀ D, H1 D = none → ∃ W : Nat → Nat → Hp → Prop, (∃ m, W 0 m (upd H1 D (.lst []))) ∧ ∀ i m H', W i m H' →
      (J.stop i H' ∧ PostE H P (.ref D) H') ∨ (J.go i H' ∧ ∃ Nx : Hp → Prop, (∀ H', Nx H' → ∃ m', m' < m ∧ W (i + 1) m' H') ∧ ∀ x H2, J.yld i H' x H2 → g x (wipe σ vs) H2 fun σ2 H2 => wipe σ2 vs = wipe σ vs ∧ tYes σ2 H2 fun b H3 =>
        if b = true then tB X scope elt σ2 H3 fun y H4 => ∃ acc, H4 D = some (.lst acc) ∧ acc.length < sizeLine ∧ Nx (upd H4 D (.lst (acc ++ [y]))) else Nx H3) := by
  intro Dl hD
  obtain ⟨G, Y, w, wg, wy⟩ := w
  obtain ⟨okd, Jv, j0, jk, jt, jd⟩ := p Dl (m.free hD)
  refine lc_it w (fun i H' => ∃ M', Tx H1 H' ∧ RelM H' M' ∧ Jv i M') ⟨_, Tx.new hD, m.new hD (show MOk _ _ (.lst []) from ⟨[], upd_same, .nil⟩), j0⟩ (fun i H' hi ⟨M', t', m', j'⟩ => wg H' M' t' m' (jk i M' hi j')) (fun i x H' H2 hi ⟨M', t', m', j'⟩ y => ?_) fun H' ⟨M', t', m', j'⟩ => ⟨.ref Dl, M', t.trans t', .ref Dl, m', jd M' j'⟩
  obtain ⟨d, hd, r, t2, k2⟩ := wy i H' x H2 hi (wg H' M' t' m' (jk i M' (Nat.le_of_lt hi) j')) y
  have T := (t.trans t').trans t2
  refine gt.go d x σ H2 _ (okd d (List.mem_of_getElem? hd)) r (hs.mono T) fun σ2 hs2 hw => ⟨hw, ?_⟩
  show tB X scope elt σ2 H2 _
  refine ⟨Γ1 d, M', _, hs2, k2 M' m', jt i d M' hd j', fun v H4 ⟨y, M4, t4, r4, m4, acc, ha, hz, jn⟩ => ?_⟩
  obtain ⟨xs, h1, h2⟩ := m4 Dl _ ha
  have T4 : ∀ o, Tx H4 (upd H4 Dl o) := fun o => Tx.mut h1 (fun _ z => by cases z) (fun _ _ z => by cases z)
  exact ⟨xs, h1, by rw [← h2.length]; exact hz, _, ((t'.trans t2).trans t4).trans (T4 _), m4.set h1 (fun _ z => by cases z) (fun _ _ z => by cases z) (show MOk _ _ (.lst (acc ++ [y])) from ⟨_, upd_same, (h2.append (.cons r4 .nil)).mono (T4 _)⟩), jn⟩
theorem lc_readT {σ : L2.St} {H H1 : Hp} {J : It} {ds : List D} {keep : Mem → Prop} {M1 : Mem} (gt : Gt ok g vs Γ Γ1) (hs : SIs H σ Γ) (t : Tx H H1) (m : RelM H1 M1) (w : WalkD H1 J ds keep) (p : ∀ p, M1 p = none → LcJT X scope c elt ok Γ1 ds keep p M1 P) :
    ∀ D, H1 D = none → ∃ W : Nat → Nat → Hp → Prop, (∃ m, W 0 m (upd H1 D (.lst []))) ∧ ∀ i m H', W i m H' →
      (J.stop i H' ∧ PostE H P (.ref D) H') ∨ (J.go i H' ∧ ∃ Nx : Hp → Prop, (∀ H', Nx H' → ∃ m', m' < m ∧ W (i + 1) m' H') ∧ ∀ x H2, J.yld i H' x H2 → g x (wipe σ vs) H2 fun σ2 H2 => wipe σ2 vs = wipe σ vs ∧ tBT X scope c σ2 H2 fun b H3 =>
        if b = true then tB X scope elt σ2 H3 fun y H4 => ∃ acc, H4 D = some (.lst acc) ∧ acc.length < sizeLine ∧ Nx (upd H4 D (.lst (acc ++ [y]))) else Nx H3) := by
  intro Dl hD
  obtain ⟨G, Y, w, wg, wy⟩ := w
  obtain ⟨okd, Jv, j0, jk, jt, jd⟩ := p Dl (m.free hD)
  refine lc_it w (fun i H' => ∃ M', Tx H1 H' ∧ RelM H' M' ∧ Jv i M') ⟨_, Tx.new hD, m.new hD (show MOk _ _ (.lst []) from ⟨[], upd_same, .nil⟩), j0⟩ (fun i H' hi ⟨M', t', m', j'⟩ => wg H' M' t' m' (jk i M' hi j')) (fun i x H' H2 hi ⟨M', t', m', j'⟩ y => ?_) fun H' ⟨M', t', m', j'⟩ => ⟨.ref Dl, M', t.trans t', .ref Dl, m', jd M' j'⟩
  obtain ⟨d, hd, r, t2, k2⟩ := wy i H' x H2 hi (wg H' M' t' m' (jk i M' (Nat.le_of_lt hi) j')) y
  have T := (t.trans t').trans t2
  refine gt.go d x σ H2 _ (okd d (List.mem_of_getElem? hd)) r (hs.mono T) fun σ2 hs2 hw => ⟨hw, ?_⟩
  refine ⟨Γ1 d, M', _, hs2, k2 M' m', jt i d M' hd j', fun b H3 ⟨M3, t3, m3, pt, pf⟩ => ?_⟩
  cases b with
  | false => exact ⟨M3, (t'.trans t2).trans t3, m3, pf rfl⟩
  | true =>
    show tB X scope elt σ2 H3 _
    refine ⟨Γ1 d, M3, _, hs2.mono t3, m3, pt rfl, fun v H4 ⟨y, M4, t4, r4, m4, acc, ha, hz, jn⟩ => ?_⟩
    obtain ⟨xs, h1, h2⟩ := m4 Dl _ ha
    have T4 : ∀ o, Tx H4 (upd H4 Dl o) := fun o => Tx.mut h1 (fun _ z => by cases z) (fun _ _ z => by cases z)
    exact ⟨xs, h1, by rw [← h2.length]; exact hz, _, (((t'.trans t2).trans t3).trans t4).trans (T4 _), m4.set h1 (fun _ z => by cases z) (fun _ _ z => by cases z) (show MOk _ _ (.lst (acc ++ [y])) from ⟨_, upd_same, (h2.append (.cons r4 .nil)).mono (T4 _)⟩), jn⟩
/-- [elt for tg in iter] -/
theorem we_lcG {own : List (Str × Nat)} (hc : X.calm = true) (nd : X.N.Nodup) (bk : BlkOk X.N X.env.scope scope own) (hown : own.map (·.2) = vs) (gt : Gt ok g vs Γ Γ1)
    (hg : ∀ (s : Shared) (H : Hp) (C : Addr) (cl : List (Str × Addr)) (fp : List Addr), PG (X.blk s H scope (compEnvC scope cl C X.env) fp) tg g)
    (h : WI X tg iter Γ M fun ds keep M1 => ∀ p, M1 p = none → LcJ X scope elt ok Γ1 ds keep p M1 P) (hs : ∀ x, foldedSetIterable iter X.env x = pure x := by intro _; rfl) : WE X (.ListComp elt [⟨tg, iter, [], 0⟩] scope pos) Γ M P := by
  subst hown
  exact we_of (pe_lc hc nd pi_w bk hg (fun _ _ _ _ _ => pts_nil) (fun _ _ _ _ _ => pe_b) hs) fun σ H hs hm => ⟨Γ, M, _, hs, hm, h, fun J H1 ds keep M1 t m p w => lc_read gt hs t m w p⟩
theorem we_lcTG {own : List (Str × Nat)} (hc : X.calm = true) (nd : X.N.Nodup) (bk : BlkOk X.N X.env.scope scope own) (hown : own.map (·.2) = vs) (gt : Gt ok g vs Γ Γ1)
    (hg : ∀ (s : Shared) (H : Hp) (C : Addr) (cl : List (Str × Addr)) (fp : List Addr), PG (X.blk s H scope (compEnvC scope cl C X.env) fp) tg g)
    (h : WI X tg iter Γ M fun ds keep M1 => ∀ p, M1 p = none → LcJT X scope c elt ok Γ1 ds keep p M1 P) (hs : ∀ x, foldedSetIterable iter X.env x = pure x := by intro _; rfl) : WE X (.ListComp elt [⟨tg, iter, [c], 0⟩] scope pos) Γ M P := by
  subst hown
  exact we_of (pe_lc hc nd pi_w bk hg (fun _ _ _ _ _ => pts_one pt_b) (fun _ _ _ _ _ => pe_b) hs) fun σ H hs hm => ⟨Γ, M, _, hs, hm, h, fun J H1 ds keep M1 t m p w => lc_readT gt hs t m w p⟩
/-- y = [elt for tg in iter] -/
theorem ws_lcG (i : Nat) {own : List (Str × Nat)} {py : Pos} (hc : X.calm = true) (nd : X.N.Nodup) (hsw : swapsWith (.ListComp elt [⟨tg, iter, [], 0⟩] scope pos) (some (.Name y py)) spos.line X.env = pure true) (bk : BlkOk X.N X.env.scope scope own) (hown : own.map (·.2) = vs) (gt : Gt ok g vs Γ Γ1)
    (hg : ∀ (s : Shared) (H : Hp) (C : Addr) (cl : List (Str × Addr)) (fp : List Addr), PG (X.blk s H scope (compEnvC scope cl C X.env) fp) tg g)
    (h : WI X tg iter Γ M fun ds keep M1 => ∀ p, M1 p = none → LcJ X scope elt ok Γ1 ds keep p M1 fun d M' => E.nx (Γ.set i (some d)) M') (hy : X.N[i]? = some y := by rfl) (hyl : X.env.scope.names.lookup y = some .local := by rfl)
    (hs : ∀ x, foldedSetIterable iter X.env x = pure x := by intro _; rfl) : WS X (.Assign [.Name y py] (.ListComp elt [⟨tg, iter, [], 0⟩] scope pos) spos) Γ M E := by
  subst hown
  exact ws_of (ps_setLc hc nd hy hyl hsw pi_w bk hg (fun _ _ _ _ _ => pts_nil) (fun _ _ _ _ _ => pe_b) hs) fun σ H Dn hs hm lk => ⟨Γ, M, _, hs, hm, h, fun J H1 ds keep M1 t m p w Dl hD => by
    obtain ⟨W, w0, wt⟩ := lc_read (P := fun d M' => E.nx (Γ.set i (some d)) M') gt hs t m w p Dl hD
    refine ⟨W, w0, fun i' m' H' hw => ?_⟩
    rcases wt i' m' H' hw with ⟨st, d, M', t', r', m', p'⟩ | go
    · exact .inl ⟨st, lk.nx _ H' _ M' t' ((hs.mono t').set r') m' p'⟩
    · exact .inr go⟩
theorem ws_lcTG (i : Nat) {own : List (Str × Nat)} {py : Pos} (hc : X.calm = true) (nd : X.N.Nodup) (hsw : swapsWith (.ListComp elt [⟨tg, iter, [c], 0⟩] scope pos) (some (.Name y py)) spos.line X.env = pure true) (bk : BlkOk X.N X.env.scope scope own) (hown : own.map (·.2) = vs) (gt : Gt ok g vs Γ Γ1)
    (hg : ∀ (s : Shared) (H : Hp) (C : Addr) (cl : List (Str × Addr)) (fp : List Addr), PG (X.blk s H scope (compEnvC scope cl C X.env) fp) tg g)
    (h : WI X tg iter Γ M fun ds keep M1 => ∀ p, M1 p = none → LcJT X scope c elt ok Γ1 ds keep p M1 fun d M' => E.nx (Γ.set i (some d)) M') (hy : X.N[i]? = some y := by rfl) (hyl : X.env.scope.names.lookup y = some .local := by rfl)
    (hs : ∀ x, foldedSetIterable iter X.env x = pure x := by intro _; rfl) : WS X (.Assign [.Name y py] (.ListComp elt [⟨tg, iter, [c], 0⟩] scope pos) spos) Γ M E := by
  subst hown
  exact ws_of (ps_setLc hc nd hy hyl hsw pi_w bk hg (fun _ _ _ _ _ => pts_one pt_b) (fun _ _ _ _ _ => pe_b) hs) fun σ H Dn hs hm lk => ⟨Γ, M, _, hs, hm, h, fun J H1 ds keep M1 t m p w Dl hD => by
    obtain ⟨W, w0, wt⟩ := lc_readT (P := fun d M' => E.nx (Γ.set i (some d)) M') gt hs t m w p Dl hD
    refine ⟨W, w0, fun i' m' H' hw => ?_⟩
    rcases wt i' m' H' hw with ⟨st, d, M', t', r', m', p'⟩ | go
    · exact .inl ⟨st, lk.nx _ H' _ M' t' ((hs.mono t').set r') m' p'⟩
    · exact .inr go⟩
end
/-- a pure comprehension's words: each item's element is f of it, the memory as it was -/
theorem lcj_map {ok : D → Prop} {Γ1 : D → Sl} {ds : List D} {keep : Mem → Prop} {p : Addr} {M1 : Mem} (f : D → D) (hz : ds.length ≤ 1000000) (hk : ∀ l, keep (put M1 p (.lst l))) (hok : ∀ d ∈ ds, ok d)
    (h : ∀ (k : Nat) (d : D), ds[k]? = some d → ∀ l, Blks X scope fun Y => WE Y elt (Γ1 d) (put M1 p (.lst l)) fun y M3 => y = f d ∧ M3 = put M1 p (.lst l)) (q : P (.ref p) (put M1 p (.lst (ds.map f)))) : LcJ X scope elt ok Γ1 ds keep p M1 P := by
  refine ⟨hok, fun k M' => M' = put M1 p (.lst ((ds.take k).map f)), rfl, fun k M' _ e => by rw [e]; exact hk _, fun k d M' hd e => ?_, fun M' e => by rw [e, List.take_length]; exact q⟩
  subst e
  intro s H C cl fp
  have z := h k d hd ((ds.take k).map f) s H C cl fp
  refine ⟨fun pins s σ H I hs hm => thn (z.run pins s σ H I hs hm) fun u s' ⟨v, H', I', r, y, M', t, r', m, ey, em⟩ => ⟨v, H', I', r, y, M', t, r', m, (ds.take k).map f, ?_, ?_, ?_⟩⟩
  · rw [em, put_same]
  · have e0 := List.length_take_le' k ds
    have e1 : sizeLine = 16777216 := sizeLine_eq
    rw [List.length_map]
    omega
  · show put M' p _ = put M1 p _
    rw [em, put_put, ey, List.take_add_one, hd]
    simp
end
/-! ### a weaker wish -/
theorem WE.imp {X : Cx} {e : Expr} {Γ : Sl} {M : Mem} {P P' : PD} (h : WE X e Γ M P) (k : ∀ d M', P d M' → P' d M') : WE X e Γ M P' := ⟨fun pins s σ H I hs hm => thn (h.run pins s σ H I hs hm) fun u s' ⟨v, H', I', r, d, M', t, r', m, p⟩ => ⟨v, H', I', r, d, M', t, r', m, k d M' p⟩⟩
theorem WE.sub {X : Cx} {e : Expr} {Γ : Sl} {M M0 : Mem} {P : PD} (h : WE X e Γ M P) (k : Sub M M0) : WE X e Γ M0 P := ⟨fun pins s σ H I hs hm => h.run pins s σ H I hs (hm.sub k)⟩
theorem WSs.sub {X : Cx} {e : List Stmt} {Γ : Sl} {M M0 : Mem} {E : DE} (h : WSs X e Γ M E) (k : Sub M M0) : WSs X e Γ M0 E := ⟨fun pins s σ H Dn I hs hm lk => h.run pins s σ H Dn I hs (hm.sub k) lk⟩
/-! ### the same heap under another telling -/
def Re (M M0 : Mem) : Prop := ∀ H, RelM H M → RelM H M0
theorem Re.refl (M : Mem) : Re M M := fun _ h => h
theorem Re.trans {M M1 M2 : Mem} (a : Re M M1) (b : Re M1 M2) : Re M M2 := fun H h => b H (a H h)
theorem Re.sub {M M1 : Mem} (h : Sub M1 M) : Re M M1 := fun H r => r.sub h
theorem WE.re {X : Cx} {e : Expr} {Γ : Sl} {M M0 : Mem} {P : PD} (k : Re M M0) (h : WE X e Γ M0 P) : WE X e Γ M P := ⟨fun pins s σ H I hs hm => h.run pins s σ H I hs (k H hm)⟩
theorem WG.re {X : Cx} {e : Expr} {d : D} {Γ : Sl} {M M0 : Mem} {P : Sl → Mem → Prop} (k : Re M M0) (h : WG X e d Γ M0 P) : WG X e d Γ M P := ⟨fun pins s σ H v u I r hd hs hm => h.run pins s σ H v u I r hd hs (k H hm)⟩
theorem WS.re {X : Cx} {e : Stmt} {Γ : Sl} {M M0 : Mem} {E : DE} (k : Re M M0) (h : WS X e Γ M0 E) : WS X e Γ M E := ⟨fun pins s σ H Dn I hs hm lk => h.run pins s σ H Dn I hs (k H hm) lk⟩
theorem WSs.re {X : Cx} {e : List Stmt} {Γ : Sl} {M M0 : Mem} {E : DE} (k : Re M M0) (h : WSs X e Γ M0 E) : WSs X e Γ M E := ⟨fun pins s σ H Dn I hs hm lk => h.run pins s σ H Dn I hs (k H hm) lk⟩
theorem re_put {M : Mem} {a : Addr} {m m' : MO} (h : M a = some m) (k : ∀ H, MOk H a m → MOk H a m') : Re M (put M a m') := fun H r b u e => by
  by_cases q : b = a
  · subst q
    rw [put_same] at e
    cases e
    exact k H (r b m h)
  · rw [put_ne q] at e
    exact r b u e
theorem re_pin {M : Mem} {a : Addr} {l : List D} (h : M a = some (.lst l)) : Re M (put M a (.pin l)) := re_put h fun _ z => z
theorem re_lst {M : Mem} {a : Addr} {l : List D} (h : M a = some (.pin l)) : Re M (put M a (.lst l)) := re_put h fun _ z => z
/-- back again -/
theorem re_back {M : Mem} {a : Addr} {l : List D} (h : M a = some (.pin l)) : Re (put M a (.lst l)) M := by
  have e : put (put M a (.lst l)) a (.pin l) = M := by
    funext b
    by_cases q : b = a
    · subst q; rw [put_same, h]
    · rw [put_ne q, put_ne q]
  have := re_pin (M := put M a (.lst l)) put_same
  rw [e] at this
  exact this
/-! ### defs -/
def start (N : List Str) (ds : List D) : Sl := ds.map some ++ List.replicate (N.length - ds.length) none
section
variable {P : Program} {w : World} {K : PySem.W.Frag} {mg : Str → Option Value} {base : Heap}
/-- THE RULE of a def, by data: its body from the arguments; nothing is raised -/
theorem fn_ok {x qual : Str} {params : Arguments} {body : List Stmt} {scope : Scope} {f : Addr} {fd : FuncData} {N ps : List Str} {k : Nat} {sp : DSp} (F : FunD K x qual params body scope [] [] f fd) (S : FnScope N ps scope) (len : ∀ ds M P R, sp ds M P R → ds.length = ps.length)
    (hbody : ∀ (cdv : Value) (A : Around) (outer : List Env) (s : Shared) (H : Hp) (E : XK) (ds : List D) (M : Mem) (Q : PD) (R : XD), Room k (cxOf CX0 P w K mg base N qual scope f cdv A outer s H E).nox.A → sp ds M Q R →
      WSs (cxOf CX0 P w K mg base N qual scope f cdv A outer s H E).nox body (start N ds) M { nx := fun _ M' => ∃ M2, Sub M2 M' ∧ Q .non M2, rt := fun d M' => ∃ M2, Sub M2 M' ∧ Q d M2 }) : FnOk P w K mg base CX0 (k + 1) f fd ps (lift sp) := by
  refine F.ok S (fun vs H Q E ⟨ds, M, P, R, r, hm, h, _⟩ => by rw [← r.length]; exact len _ _ _ _ h) fun cdv A outer s H vs Q E hr ⟨ds, M, P', R, r, hm, h, k1, k2⟩ => ?_
  refine ⟨_, PSs.nox pss_w, start N ds, M, _, SIs.start r N, hm, hbody cdv A outer s H E ds M P' R hr h, ?_⟩
  exact ⟨fun σ' H' Γ' M' t s' m' ⟨M2, su, q⟩ => k1 .non H' ⟨.non, M2, t, .non, m'.sub su, q⟩, fun v H' d M' t r' m' ⟨M2, su, q⟩ => k1 v H' ⟨d, M2, t, r', m'.sub su, q⟩, fun _ _ _ _ _ _ _ z => z.elim, fun _ _ _ _ _ _ _ z => z.elim⟩
end
end DL

set_option Elab.async false
set_option linter.all false
set_option maxRecDepth 100000
set_option maxHeartbeats 4000000
/-! DLh: enumerate over a tuple; keyword calls; repr; pairs as targets of a comprehension. -/
namespace DL
open PySem PySem.Spec PyProof.Rows L2
theorem newCall_enum1 (v : Value) : checkBuiltinCall "enumerate.__new__" ⟨[.type "enumerate", v], []⟩ = pure () := by kernel_rfl
set_option maxHeartbeats 1000000 in
theorem meets_enum1 {v : Value} {o : Obj} {H : Heap → Prop} (B : Begins v o H) :
    Meets (Builtin.«enumerate.__new__» ⟨[.type "enumerate", v], []⟩) (fun _ R s => H s.heap ∧
      R (.ok (.ret (.ref (s.heap.push o).objs.size))) { s with heap := (s.heap.push o).push { cls := .type "enumerate", data := .fields #[.none, .bool false, .ref s.heap.objs.size, rawInt 0, .none, .none] } }) :=
  .of_wp fun prog w A R s h => by
    obtain ⟨hp, g, d, tk, os⟩ := s; obtain ⟨h1, h⟩ := h
    have hsub := sub_enumerate
    have q1 : ∀ {A' : Around} {E : Value → Shared → Prop} {Q : Value → Shared → Prop}, Q (.ref hp.objs.size) ⟨hp.push o, g, d, tk, os⟩ → wpAny (model prog w) A' (pyIter v) Q E ⟨hp, g, d, tk, os⟩ :=
      fun q => B.iter prog w _ _ ⟨hp, g, d, tk, os⟩ _ h1 q
    wp_walk using q1
    refine wpAny_stack_any fun st => wpAny_pure ?_
    split
    · rename_i c _ _ _ _ _
      cases (c == Value.type "enumerate")
      · wp_walk using q1
        exact ⟨_, rfl, h⟩
      · wp_walk using q1
        exact ⟨_, rfl, h⟩
    · wp_walk using q1
      exact ⟨_, rfl, h⟩
section
variable {prog : Program} {w : World} {A : Around} {E : Value → Shared → Prop} {s : Shared}
theorem enum_begins1 {v : Value} {o : Obj} {H : Heap → Prop} {Q : Value → Shared → Prop} (B : Begins v o H) (h1 : H s.heap)
    (h : ∀ h', IsEnum h' (s.heap.objs.size + 1) s.heap.objs.size 0 .none → h'.get? s.heap.objs.size = some o → h'.objs.size = s.heap.objs.size + 2 →
      (∀ b o, s.heap.get? b = some o → h'.get? b = some o) → Q (.ref (s.heap.objs.size + 1)) { s with heap := h' }) :
    wpAny (model prog w) A (call (.type "enumerate") [v]) Q E s := by
  refine callType_new F.called_enumerate (by decide) (F.typeCall_enumerate_1 _) (newCall_enum1 _) (fun obj => F.args_object_init_2 obj _) F.entry_enumerate_new
    (meets_enum1 B) ⟨h1, ?_⟩
  have hz : (s.heap.push o).objs.size = s.heap.objs.size + 1 := Heap.size_push ..
  show _ ∧ _
  rw [hz]
  have he : IsEnum ((s.heap.push o).push { cls := .type "enumerate", data := .fields #[.none, .bool false, .ref s.heap.objs.size, rawInt 0, .none, .none] }) (s.heap.objs.size + 1) s.heap.objs.size 0 .none := by
    have := Heap.get?_push_size (s.heap.push o) (o := { cls := .type "enumerate", data := .fields #[.none, .bool false, .ref s.heap.objs.size, rawInt 0, .none, .none] }) rfl
    rw [hz] at this; exact this
  refine ⟨⟨_, he, rfl⟩, h _ he (Heap.get?_push_of_some _ (Heap.get?_push_size _ B.free)) (by rw [Heap.size_push, hz]) fun b o x => Heap.get?_push_of_some _ (Heap.get?_push_of_some _ x)⟩
end
/-- the tuple at a, each item in a new pair -/
def IteT (K : PySem.W.Frag) (a : Addr) : It :=
  ⟨fun i H => ∃ (xs : List V) (x : V), SqT K H a xs ∧ xs[i]? = some x, fun i H v H' => ∃ T x, v = .ref T ∧ H T = none ∧ H' = upd H T (.tup [.int (i : Nat), x]) ∧ ∀ xs, SqT K H a xs → xs[i]? = some x, fun i H => ∃ xs : List V, SqT K H a xs ∧ xs.length ≤ i⟩
theorem turn_enumT {P : Program} {w : World} {K : PySem.W.Frag} {elts : List Expr} {kk : Nat} {tpos : Pos} (a e it : Addr) :
    Turn P w K (.Tuple elts kk tpos) (IteT K a) [e, it] e (fun i h => (∃ old, IsEnum h e it ((i : Nat) : Int) old) ∧ h.IsTupleIter it a i ∧ e ≠ it ∧ a ≠ it ∧ a ≠ e) where
  mem := by simp
  obj := fun i h st b hb => by
    obtain ⟨⟨old, he⟩, ⟨o, ho, hc, hd⟩, _⟩ := st
    have e' : b = e ∨ b = it := by simpa using hb
    rcases e' with z | z
    · rw [z]; exact ⟨_, he, fun v q => nomatch q⟩
    · rw [z]; exact ⟨o, ho, fun v q => by rw [hd] at q; cases q⟩
  keep := fun i h h' st k => let ⟨⟨old, he⟩, hi, hne⟩ := st; ⟨⟨old, k e (by simp) _ he⟩, hi.at fun o q => k it (by simp) o q, hne⟩
  item := by
    intro X hP hw hK hc i pins s σ H E I hf st hg
    subst hP hw hK
    obtain ⟨⟨old, he⟩, hit, hne, ha, hae⟩ := st
    obtain ⟨xs, x, hq, hx⟩ := hg
    obtain ⟨its, rv, p, hz⟩ := I.tuple hq
    obtain ⟨u, hu, ru⟩ := rv.get hx
    have hel : e < s.heap.objs.size := Heap.lt_size he
    have hil : it < s.heap.objs.size := by obtain ⟨_, q, _⟩ := hit; exact Heap.lt_size q
    have p' : s.heap.IsTuple a its.toArray := p
    have hlt : i < its.toArray.size := by
      have := (List.getElem?_eq_some_iff.mp hu).1
      simpa using this
    refine wpAny_pyNext_enum_itemD (Draws.tuple (prog := X.prog) (w := X.w) (A := X.A.in1) (I.ok.hd hc) it a ha its.toArray) he ⟨hit, p'⟩ hlt hne (fun hm => ?_) fun y h' tk hP ho st' hT hsz hk => ?_
    · have e' : e = it ∨ e = a := by simpa using hm
      rcases e' with z | z
      · exact hne z
      · exact hae z.symm
    obtain ⟨hit', _⟩ := st'
    have ey : y = u := by
      have hu' : its.toArray[i]? = some u := by simpa using hu
      rw [hu'] at hP
      exact (Option.some.inj hP).symm
    subst ey
    refine ⟨_, rfl, wpAny_letOwnedTupleGo_enum (s := { s with heap := h', toks := tk + 1 }) ho fun h'' he' sb => ?_⟩
    have hT2 : h''.get? s.heap.objs.size = some { cls := .type "tuple", data := .seq #[.int i tk, y] } := (sb.2 _ (Nat.ne_of_gt hel)).trans hT
    have new : ObjOk X.prog X.w (upd H s.heap.objs.size (.tup [.int (i : Nat), x])) h'' s.heap.objs.size (.tup [.int (i : Nat), x]) :=
      ⟨by show 2 ≤ sizeLine; decide, [.int i tk, y], .cons ⟨_, rfl⟩ (.cons ru .nil), ⟨_, hT2, rfl, _, rfl⟩⟩
    have I1 : Inv X pins σ (upd H s.heap.objs.size (.tup [.int (i : Nat), x])) { s with heap := h'', toks := tk + 1 } :=
      I.turnedNew (ch := [e, it]) (fun b ob hb q => (sb.2 b (fun z => hb (by simp [z]))).trans (hk b ob (fun z => hb (by simp [z])) (fun z => hb (by simp [z])) q)) hf (Nat.le_refl _) new
    refine ⟨.ref s.heap.objs.size, _, I1, rfl, ⟨_, x, rfl, I.hok.fresh (Nat.le_refl _), rfl, fun ys hy => by rw [I.tuple_inj hy hq]; exact hx⟩, ⟨⟨y, ?_⟩, hit'.at fun o q => (sb.2 it (Ne.symm hne)).trans q, hne, ha, hae⟩, fun b hb => ?_⟩
    · have e1 : ((i + 1 : Nat) : Int) = (i : Int) + 1 := by omega
      rw [e1]; exact he'
    · have hb' : b < s.heap.objs.size := by
        have e' : b = e ∨ b = it := by simpa using hb
        rcases e' with z | z
        · rw [z]; exact hel
        · rw [z]; exact hil
      rw [upd_ne (Nat.ne_of_lt hb')]
      exact (hf b hb).1
  done := by
    intro X hP hw hK hc i pins s σ H E I hf st hg
    subst hP hw hK
    obtain ⟨⟨old, he⟩, hit, hne, ha, hae⟩ := st
    obtain ⟨xs, hq, hx⟩ := hg
    obtain ⟨its, rv, p, hz⟩ := I.tuple hq
    obtain ⟨f0, f1, f2, f3, f4, f5⟩ := hf it (by simp)
    have hl := rv.length
    have D : Draws X.prog X.w X.A.in1 it [it, a] i (fun _ _ => True) (fun j h => j = i ∧ h.IsTupleIter it a i ∧ h.IsTuple a its.toArray) := {
      live := fun _ _ st => let ⟨o, ho, _⟩ := st.2.1; ⟨o, ho⟩
      frame := fun _ _ _ st hk => ⟨st.1, st.2.1.at fun o e => hk it (by simp) o e, st.2.2.at fun o e => hk a (by simp) o e⟩
      item := fun j s Q E hj st hQ => (Nat.lt_irrefl _ (st.1 ▸ hj)).elim
      done := fun s Q E st hE => wpAny_nextOf_tuple_end (I.ok.hd hc) st.2.1 st.2.2 (by simp; omega) hE }
    exact wpAny_pyNext_enum_endD D he ⟨rfl, hit, p⟩ fun h' eb => ⟨rfl, I.turned (t' := s.toks) (fun b o hb q => eb b o hb q) f0 f1 f3 f4 f5⟩
  self := fun A i s Q E st h => let ⟨⟨_, he⟩, _⟩ := st; wpAny_pyIter_enum he h
theorem pi_enumT {X : Cx} {e : Expr} {ta : TA} {p pos tpos : Pos} {elts : List Expr} {kk : Nat} (hg : Gl X "enumerate") (hm : X.mg "enumerate" = none) (ha : PA X [e] ta) (hs : starEach [e] X.env = [(false, eval e X.env)] := by rfl) :
    PI X (.Tuple elts kk tpos) (.Call (.Name "enumerate" p) [e] [] pos) (fun σ H R => ta σ H fun vs H1 => ∃ a xs, vs = [.ref a] ∧ SqT X.K H1 a xs ∧ R (IteT X.K a) H1) := by
  refine ⟨fun pins s σ H R I h => ?_⟩
  refine Call_ (ld_blt I hg hm boot_enumerate (PyProof.Rows.callWith_type1 (thn (ha.run pos pins s σ H _ I h) fun us s1 ⟨vs, H1, I1, r1, q1⟩ => ?_) hs rfl))
  obtain ⟨a, xs, ex, hq, q⟩ := q1
  subst ex
  cases r1 with
  | cons r rr =>
    cases rr
    cases r
    obtain ⟨its, rv, p', hz⟩ := I1.tuple hq
    have pt : s1.heap.IsTuple a its.toArray := p'
    refine enum_begins1 (begins_tuple a its.toArray) pt fun h' he hit hsz hk => wpAny_pyIter_enum he ?_
    have I2 : Inv X pins σ H1 { s1 with heap := h' } := I1.kept (t' := s1.toks) hk
    have hal : a < s1.heap.objs.size := by obtain ⟨o, ho, _⟩ := pt; exact Heap.lt_size ho
    refine ⟨s1.heap.objs.size + 1, [s1.heap.objs.size + 1, s1.heap.objs.size], _, _, H1, rfl, I2, turn_enumT a (s1.heap.objs.size + 1) s1.heap.objs.size, ⟨⟨.none, he⟩, ⟨_, hit, rfl, rfl⟩, Nat.succ_ne_self _, Nat.ne_of_lt hal, Nat.ne_of_lt (Nat.lt_succ_of_lt hal)⟩, fun b hb => ?_, q⟩
    have e' : b = s1.heap.objs.size + 1 ∨ b = s1.heap.objs.size := by simpa using hb
    have hle : s1.heap.objs.size ≤ b := by
      rcases e' with z | z
      · rw [z]; exact Nat.le_add_right _ _
      · rw [z]; exact Nat.le_refl _
    exact I1.fpOk hle (I1.hok.fresh hle)
def enumD (l : List D) : List D := (List.range l.length).map fun i => D.tup [.int (i : Nat), l.getD i .non]
theorem enumD_at {l : List D} {i : Nat} {d : D} (h : l[i]? = some d) : (enumD l)[i]? = some (.tup [.int (i : Nat), d]) := by
  have hi : i < l.length := (List.getElem?_eq_some_iff.mp h).1
  unfold enumD
  rw [List.getElem?_map, List.getElem?_range hi]
  simp [List.getD, h]
theorem enumD_len {l : List D} : (enumD l).length = l.length := by unfold enumD; rw [List.length_map, List.length_range]
theorem walkD_enumT {K : PySem.W.Frag} {H : Hp} {a : Addr} {l : List D} {xs : List V} (h1 : H a = some (.tup xs)) (h2 : IsL H l xs) : WalkD H (IteT K a) (enumD l) kAll := by
  refine ⟨fun H' => Tx H H', fun i H x H' => (IteT K a).yld i H x H', ?_, fun H' M t _ _ => t, fun i H1 x H2 hi t y => ?_⟩
  · rw [enumD_len]
    refine ⟨fun i H' hi t => ?_, fun H' t => ⟨xs, SqT.of (t.t _ _ h1), by rw [h2.length]; exact Nat.le_refl _⟩, fun i H' x H2 hi _ y => y⟩
    obtain ⟨v, hv, _⟩ := h2.get (List.getElem?_eq_getElem hi)
    exact ⟨xs, v, SqT.of (t.t _ _ h1), hv⟩
  · obtain ⟨T, v, e, hT, eH, q⟩ := y
    subst e eH
    obtain ⟨d, hd, r⟩ := h2.back (q xs (SqT.of (t.t _ _ h1)))
    exact ⟨_, enumD_at hd, .tup upd_same (.cons (.int _) (.cons ((r.mono t).mono (Tx.new hT)) .nil)), Tx.new hT, fun M r => r.fresh hT⟩
section
variable {X : Cx} {Γ : Sl} {M : Mem} {e : Expr} {p pos : Pos}
theorem wi_enumT {elts : List Expr} {kk : Nat} {tpos : Pos} {P : List D → (Mem → Prop) → Mem → Prop} (hz : X.mg "enumerate" = none) (h : WE X e Γ M fun d M1 => ∃ l, d = .tup l ∧ P (enumD l) kAll M1) (hg : Gl X "enumerate" := by rfl)
    (hs : starEach [e] X.env = (false, eval e X.env) :: starEach [] X.env := by rfl) (hs2 : starEach [e] X.env = [(false, eval e X.env)] := by rfl) : WI X (.Tuple elts kk tpos) (.Call (.Name "enumerate" p) [e] [] pos) Γ M P :=
  wi_of (pi_enumT hg hz (pa_cons pe_w pa_nil hs) hs2) fun σ H hs hm => tw h hs hm fun v H1 d M1 t r m ⟨l, ed, p⟩ => by
    subst ed
    obtain ⟨a, xs, rfl, h1, h2⟩ := rI_t r
    exact ⟨a, xs, rfl, SqT.of h1, enumD l, kAll, M1, t, m, p, walkD_enumT h1 h2⟩
end
end DL

set_option Elab.async false
set_option linter.all false
set_option maxRecDepth 100000
set_option maxHeartbeats 4000000
/-! DLi: repr of nested data; calls by keywords; the law's own entry (no repr under way there). -/
namespace DL
open PySem PySem.Spec PyProof.Rows L2
/-! ### repr -/
mutual
def toP : D → Option PyData
  | .non => some .none
  | .bl b => some (.bool b)
  | .int i => some (.int i)
  | .str x => some (.str x)
  | .tup l => (toPs l).map PyData.tuple
  | .ref _ => none
  | .ty _ => none
  | .rol _ => none
def toPs : List D → Option (List PyData)
  | [] => some []
  | d :: l => (toP d).bind fun p => (toPs l).map fun ps => p :: ps
end
section
variable {X : Cx} {pins : List (Addr × Obj)} {σ : L2.St} {H : Hp} {s : Shared}
mutual
theorem reads_of (I : Inv X pins σ H s) : ∀ {d : D} {v : V} {u : Value} {p : PyData}, Is H d v → RelV v u → toP d = some p → ∃ as, Reads s.heap u p as
  | .non, _, _, _, .non, r, e => by
    rw [toP] at e
    cases e
    cases r
    exact ⟨_, .none⟩
  | .bl b, _, _, _, .bl _, r, e => by
    rw [toP] at e
    cases e
    cases r
    exact ⟨_, .bool b⟩
  | .int b, _, _, _, .int _, r, e => by
    rw [toP] at e
    cases e
    obtain ⟨t, r⟩ := r
    subst r
    exact ⟨_, .int b t⟩
  | .str b, _, _, _, .str _, r, e => by
    rw [toP] at e
    cases e
    obtain ⟨t, r⟩ := r
    subst r
    exact ⟨_, .str b t⟩
  | .tup l, _, _, _, .tup h1 h2, r, e => by
    rw [toP] at e
    cases q : toPs l with
    | none => rw [q] at e; cases e
    | some ps =>
      rw [q] at e
      cases e
      cases r
      obtain ⟨its, rv, ht, hz⟩ := I.tuple (SqT.of h1)
      obtain ⟨as, ra⟩ := readsAll_of I h2 rv q
      obtain ⟨o, ho, hc, n, hd⟩ := ht
      exact ⟨as, .tuple ho hc hd (by simpa using ra)⟩
  | .ref _, _, _, _, _, _, e => by rw [toP] at e; cases e
  | .ty _, _, _, _, _, _, e => by rw [toP] at e; cases e
  | .rol _, _, _, _, _, _, e => by rw [toP] at e; cases e
theorem readsAll_of (I : Inv X pins σ H s) : ∀ {l : List D} {vs : List V} {us : List Value} {ps : List PyData}, IsL H l vs → Vals vs us → toPs l = some ps → ∃ as, ReadsAll s.heap us ps as
  | [], _, _, _, .nil, r, e => by
    rw [toPs] at e
    cases e
    cases r
    exact ⟨_, .nil⟩
  | d :: l, _, _, _, .cons h1 h2, r, e => by
    rw [toPs] at e
    cases q1 : toP d with
    | none => rw [q1] at e; cases e
    | some p =>
      rw [q1] at e
      cases q2 : toPs l with
      | none => rw [q2] at e; cases e
      | some ps =>
        rw [q2] at e
        cases e
        cases r with
        | cons r1 r2 =>
          obtain ⟨as, ra⟩ := reads_of I h1 r1 q1
          obtain ⟨bs, rb⟩ := readsAll_of I h2 r2 q2
          exact ⟨_, .cons ra rb⟩
end
end
/-- repr of a list of tuples and scalars -/
def BRepr : BC := fun ds M P => ∃ (a : Addr) (l : List D) (ps : List PyData), ds = [.ref a] ∧ M a = some (.lst l) ∧ toPs l = some ps ∧ (PyData.list ps).showable = true ∧ (PyData.list ps).hasDict = false ∧ (PyData.list ps).depth ≤ 60 ∧ (PyData.list ps).shown.length ≤ sizeLine ∧ P (.str (PyData.list ps).shown) M
theorem cd_repr {X : Cx} (hg : X.A.guards = some []) (hu : X.A.units + 64 < cLine) : CaD X (.builtin "repr") BRepr := by
  intro pins s σ H ds xs us M P I r hd hm ⟨a, l, ps, e, ha, hp, h1, h2, h3, h4, p⟩
  subst e
  obtain ⟨v, rfl, q1⟩ := one_of hd
  cases q1
  obtain ⟨ys, g1, g2⟩ := hm a _ ha
  rw [Vals.ref1 r]
  obtain ⟨its, rv, hl, hz⟩ := I.list (SqL.of g1)
  obtain ⟨as, ra⟩ := readsAll_of I g2 rv hp
  obtain ⟨o, ho, hc, n, hdt⟩ := hl.isList
  exact repr_of_reads' (.list ho hc hdt (by simpa using ra)) h1 (PyData.noDict_hsm h2) hg (by omega) (fun _ _ e => e) (fun h' u tk hk => ⟨.str _, H, I.kept hk, ⟨u, rfl⟩, fin (.str _) hm p⟩) h4
/-! ### calls by keywords alone -/
structure KDefOk (P : Program) (w : World) (K : PySem.W.Frag) (mg : Str → Option Value) (base : Heap) (CX : CXT) (k : Nat) (x : Str) (ps ks : List Str) (perm : List D → List D) (sp : DSp) : Prop where
  ex : ∃ (f : Addr) (fd : FuncData) (g : List Value → List Value → List Value) (gV : List V → List V → List V), mg x = some (.ref f) ∧ PySem.W.keepIn K (.ref f) = true ∧ KBn K fd ps 0 ks g gV ∧ FnOk P w K mg base CX k f fd ps (lift sp) ∧
    ∀ (H : Hp) (ds : List D) (vs : List V), ds.length = ks.length → IsL H ds vs → IsL H (perm ds) (gV [] vs)
section
variable {X : Cx} {Γ : Sl} {M : Mem} {P : PD} {x : Str} {p pos kpos : Pos} {e : Expr} {kws : List Keyword} {nm : Option Str}
/-- the keywords' values -/
structure WK (X : Cx) (kws : List Keyword) (Γ : Sl) (M : Mem) (P : List D → Mem → Prop) : Prop where
  run : ∀ (pos : Pos) (pins : List (Addr × Obj)) (s : Shared) (σ : L2.St) (H : Hp), Inv X pins σ H s → SIs H σ Γ → RelM H M →
    wpAny (model X.prog X.w) X.A (evalAll ((backToKw pos (keywordEach kws X.env)).map (·.2))) (AP X pins σ (PostA H P)) X.xe s
def tWK (X : Cx) (kws : List Keyword) : TA := fun σ H Q => ∃ Γ M P, SIs H σ Γ ∧ RelM H M ∧ WK X kws Γ M P ∧ ∀ vs H', PostA H P vs H' → Q vs H'
theorem pk_w : PK X kws (tWK X kws) := ⟨fun pos pins s σ H Q I ⟨Γ, M, P, hs, hm, h, k⟩ => thn (h.run pos pins s σ H I hs hm) fun us s' ⟨vs, H', I', r, q⟩ => ⟨vs, H', I', r, k vs H' q⟩⟩
theorem wk_of {P : List D → Mem → Prop} {t : TA} (h : PK X kws t) (k : ∀ σ H, SIs H σ Γ → RelM H M → t σ H (PostA H P)) : WK X kws Γ M P := ⟨fun pos pins s σ H I hs hm => h.run pos pins s σ H _ I (k σ H hs hm)⟩
theorem twk {P : List D → Mem → Prop} {σ : L2.St} {H : Hp} {Q : List V → Hp → Prop} (h : WK X kws Γ M P) (hs : SIs H σ Γ) (hm : RelM H M) (k : ∀ v H' d M', Tx H H' → IsL H' d v → RelM H' M' → P d M' → Q v H') : tWK X kws σ H Q := ⟨Γ, M, P, hs, hm, h, fun v H' ⟨d, M', t, r, m, p⟩ => k v H' d M' t r m p⟩
theorem wk_nil {P : List D → Mem → Prop} (k : P [] M) : WK X [] Γ M P := wk_of pk_nil fun σ H hs hm => ⟨[], M, Tx.refl H, .nil, hm, k⟩
theorem wk_cons {P : List D → Mem → Prop} (h : WE X e Γ M fun x M1 => WK X kws Γ M1 fun xs M2 => P (x :: xs) M2) : WK X (⟨nm, e, kpos⟩ :: kws) Γ M P :=
  wk_of (pk_cons pe_w pk_w) fun σ H hs hm => tw h hs hm fun v H1 d M1 t r m p => twk p (hs.mono t) m fun vs H2 ds M2 t2 r2 m2 p2 => ⟨d :: ds, M2, t.trans t2, .cons (r.mono t2) r2, m2, p2⟩
theorem pe_callK0 {CX : CXT} {k : Nat} {f : Addr} {fd : FuncData} {ps ks : List Str} {sp : Sp} {E : XK} {tk : TA} {g : List Value → List Value → List Value} {gV : List V → List V → List V} (F : FnOk X.prog X.w X.K X.mg X.base CX k f fd ps sp) (hr : Room k X.A) (hg : Gl X x) (hm : X.mg x = some (.ref f)) (hk : PySem.W.keepIn X.K (.ref f) = true) (hb : KBn X.K fd ps 0 ks g gV) (hx : Passes CX X E)
    (hkw : PK X kws tk) (hall : (backToKw pos (keywordEach kws X.env)).all (·.1.isSome) = true) (hks : (backToKw pos (keywordEach kws X.env)).filterMap (·.1) = ks) (hdb : (x == ("__debug__" : Str)) = false)
    (hpl : ((backTo pos (starEach [] X.env)).any (·.1) || (backToKw pos (keywordEach kws X.env)).any (·.1.isNone)) = false) :
    PE X (.Call (.Name x p) [] kws pos) (tCallN 0 ks.length sp gV E tNil tk) := by
  refine ⟨fun pins s σ H Q I h => ?_⟩
  refine wpAny_Call_Name_kw (ld_glob I hg hm ?_ hdb)
  refine PySem.W.callWith_KW0 (h₀ := X.base) I.ok.mod.kin hk hall ?_ hpl
  refine thn (hkw.run pos pins s σ H _ I h) fun ws s2 ⟨zs, H2, I2, rz, l1, l2, q2⟩ => ⟨I2.kIn, ?_⟩
  rw [hks]
  exact run_fnN F hr hb hx I2 .nil rz l1 l2 q2
theorem we_callK {k j : Nat} {ps ks : List Str} {perm : List D → List D} {sp : DSp} (G : KDefOk X.prog X.w X.K X.mg X.base CX0 k x ps ks perm sp) (hr : Room j X.A) (h : WK X kws Γ M fun ds M1 => ds.length = ks.length ∧ sp (perm ds) M1 P R0) (hk : k ≤ j := by decide) (hg : Gl X x := by rfl)
    (hall : (backToKw pos (keywordEach kws X.env)).all (·.1.isSome) = true := by rfl) (hks : (backToKw pos (keywordEach kws X.env)).filterMap (·.1) = ks := by rfl) (hdb : (x == ("__debug__" : Str)) = false := by decide)
    (hpl : ((backTo pos (starEach [] X.env)).any (·.1) || (backToKw pos (keywordEach kws X.env)).any (·.1.isNone)) = false := by rfl) : WE X (.Call (.Name x p) [] kws pos) Γ M P := by
  obtain ⟨f, fd, g, gV, g1, g2, g3, g4, g5⟩ := G.ex
  refine we_of (pe_callK0 (E := E0) g4 (hr.mono hk) hg g1 g2 g3 pass0 pk_w hall hks hdb hpl) fun σ H hs hm => ?_
  show tWK X kws σ H _
  refine twk h hs hm fun vs H1 ds M1 t r m ⟨hl, p⟩ => ⟨rfl, by rw [← r.length]; exact hl, ?_⟩
  exact liftE _ t (g5 H1 ds vs hl r) m p fun _ _ z => z
end
/-! ### the script -/
/-- the law's argument: a list of ints that nobody changes -/
def Scr (K : PySem.W.Frag) (d : D) (ns : List Int) : Prop := d = .rol (ns.map D.int) ∨ ∃ a, d = .ref a ∧ ∀ H, SqL K H a (ns.map V.int)
section
variable {X : Cx} {Γ : Sl} {M : Mem} {P : PD} {x : Str} {p pos : Pos} {e i : Expr} {H : Hp}
theorem Scr.at {K : PySem.W.Frag} {d : D} {ns : List Int} {v : V} (h : Scr K d ns) (r : Is H d v) : ∃ a, v = .ref a ∧ SqL K H a (ns.map V.int) ∧ ∀ H', Tx H H' → SqL K H' a (ns.map V.int) := by
  rcases h with e | ⟨a, e, q⟩
  · subst e
    obtain ⟨a, xs, rfl, h1, h2⟩ := rI_l r
    have e4 := IsL.of_ints h2
    subst e4
    exact ⟨a, rfl, h1.sq, fun H' t => (t.l _ _ h1).sq⟩
  · subst e
    cases r
    exact ⟨a, rfl, q H, fun H' _ => q H'⟩
def BLenS (K : PySem.W.Frag) : BC := fun ds M P => ∃ d ns, ds = [d] ∧ Scr K d ns ∧ P (.int ns.length) M
theorem cd_lenS : CaD X (.builtin "len") (BLenS X.K) := .of call_len fun H ds xs M P r hm ⟨d, ns, e, hl, p⟩ => by
  subst e
  obtain ⟨v, rfl, q1⟩ := one_of r
  obtain ⟨a, rfl, hq, _⟩ := hl.at q1
  exact ⟨.ref a, ns.length, rfl, .inl ⟨_, hq, by rw [List.length_map]⟩, fin (.int _) hm p⟩
def BListS (K : PySem.W.Frag) : BC := fun ds M P => ∃ d ns, ds = [d] ∧ Scr K d ns ∧ ∀ p, M p = none → P (.ref p) (put M p (.lst (ns.map D.int)))
theorem cd_listS : CaD X (.type "list") (BListS X.K) := .of call_list_of fun H ds xs M P r hm ⟨d, ns, e, h, p⟩ => by
  subst e
  obtain ⟨v, rfl, q1⟩ := one_of r
  obtain ⟨a, rfl, hq, _⟩ := h.at q1
  exact ⟨a, _, rfl, .inl hq, fun q hq => fin_new hq (IsL.ints ns) hm p⟩
theorem we_subS {a b : Expr} (h : WE X a Γ M fun x M1 => WE X b Γ M1 fun y M2 => ∃ ns i n, Scr X.K x ns ∧ y = .int i ∧ atI ns i = some n ∧ P (.int n) M2) (hs : PlainIx b := by exact fun _ _ => rfl) : WE X (.Subscript a b pos) Γ M P :=
  we_of (pe_ix ix_seq pe_w pe_w hs) fun σ H hs hm => tw h hs hm fun v H1 d M1 t r m p => tw p (hs.mono t) m fun v2 H2 d2 M2 t2 r2 m2 ⟨ns, i, n, hsc, e, hn, p2⟩ => by
    subst e
    cases r2
    obtain ⟨a, rfl, hq, _⟩ := hsc.at (r.mono t2)
    refine .inl ⟨a, _, i, .int n, rfl, rfl, hq, ?_, .int n, M2, t.trans t2, .int _, m2, p2⟩
    unfold atI at hn ⊢
    rw [List.length_map]
    cases q : ixN ns.length i with
    | none => rw [q] at hn; cases hn
    | some j =>
      rw [q] at hn
      show (ns.map V.int)[j]? = _
      rw [List.getElem?_map, show ns[j]? = some n from hn]
      rfl
theorem wi_scr {tg : Expr} {P : List D → (Mem → Prop) → Mem → Prop} (h : WE X e Γ M fun d M1 => ∃ ns, Scr X.K d ns ∧ P (ns.map D.int) kAll M1) : WI X tg e Γ M P :=
  wi_of (pi_list pe_w) fun σ H hs hm => tw h hs hm fun v H1 d M1 t r m ⟨ns, hsc, p⟩ => by
    obtain ⟨a, rfl, hq, hk⟩ := hsc.at r
    refine ⟨a, rfl, ⟨_, hq⟩, ns.map D.int, kAll, M1, t, m, p, fun H' => Tx H1 H', YAt (ns.map V.int), ?_, fun H' M t _ _ => t, fun i H2 x H3 hi t ⟨e, q⟩ => ?_⟩
    · have e : (ns.map D.int).length = (ns.map V.int).length := by rw [List.length_map, List.length_map]
      rw [e]
      exact walk_list.mono (fun H' t => hk H' t) fun _ _ _ _ _ _ y => y
    · subst e
      have i1 : IsL H3 (ns.map D.int) (ns.map V.int) := IsL.ints ns
      obtain ⟨d, hd, r⟩ := i1.back q
      exact ⟨d, hd, r, Tx.refl _, fun _ z => z⟩
end
/-! ### the law's own entry: no repr is under way there -/
structure LawFn (P : Program) (w : World) (K : PySem.W.Frag) (mg : Str → Option Value) (base : Heap) (f : Addr) (fd : FuncData) (x : Str) (sp : Sp) : Prop where
  run : ∀ (s : Shared) (H : Hp) (args : Args) (u : Value) (v : V) (Q : VK) (E : XK), Env0 P w K mg base callerA [] s H → BindsTo s fd args [(x, u)] → RelV v u → sp [v] H Q E → codeAny (model P w) callerA (.call (.ref f) args) (CR CX0 [] P w H s Q E) s
end DL

set_option Elab.async false
set_option linter.all false
set_option maxRecDepth 100000
set_option maxHeartbeats 4000000
/-! DLj: a law's def at its own entry, and the walk's end for it. -/
namespace DL
open PySem PySem.Spec PyProof.Rows L2
/-- a law: it gives True for each script of at most n ints -/
def spLaw (K : PySem.W.Frag) (n : Nat) : V → Hp → VK → Prop := fun v H Q => ∃ (d : D) (ns : List Int), Is H d v ∧ Scr K d ns ∧ ns.length ≤ n ∧ ∀ H', Q (.bl true) H'
theorem law_fn {P : Program} {w : World} {K : PySem.W.Frag} {mg : Str → Option Value} {base : Heap} {n k : Nat} {x y qual : Str} {params : Arguments} {body : List Stmt} {scope : Scope} {f : Addr} {fd : FuncData} {N : List Str} (F : FunD K y qual params body scope [] [] f fd) (S : FnScope N [x] scope) (hr : Room (k + 1) callerA)
    (hbody : ∀ (cdv : Value) (s : Shared) (H : Hp) (E : XK) (d : D) (ns : List Int), Room k (cxOf CX0 P w K mg base N qual scope f cdv callerA [] s H E).nox.A → (cxOf CX0 P w K mg base N qual scope f cdv callerA [] s H E).nox.A.guards = some [] → Scr K d ns → ns.length ≤ n →
      WSs (cxOf CX0 P w K mg base N qual scope f cdv callerA [] s H E).nox body (start N [d]) (fun _ => none) { nx := fun _ _ => False, rt := fun d _ => d = .bl true }) :
    LawFn P w K mg base f fd x (fun vs H Q _ => ∃ v, vs = [v] ∧ spLaw K n v H Q) := by
  obtain ⟨oc, od, dV, kV, doc, pm, an, cdv, ct, osl, rfl, lk, hcd, _, _⟩ := F.ex
  refine ⟨fun s H args u v Q E e0 hb r ⟨v', ev, hsp⟩ => ?_⟩
  cases ev
  have KX : K.In s.heap := e0.mod.kin.keeps fun b o e => (e0.bs b o e).1
  have lim : s.heap.NoLimit := e0.mod.nolimit.keeps fun b o e => (e0.bs b o e).1
  have hkind : ∀ z ∈ [(x, u)], scope.names.lookup z.1 = some .local ∨ (scope.names.lookup z.1 = some .cell ∧ ((cellsFrom (s.heap.objs.size + 1) scope.names []).lookup z.1).isSome = true) := fun z hz => by
    obtain rfl := List.mem_singleton.mp hz
    rcases S.par x (List.mem_singleton.mpr rfl) with q | q
    · exact .inl q
    · exact .inr ⟨q, PySem.W.cellsFrom_some _ _ _ (.inl q)⟩
  refine codeAny_call_function hr.depth (KX _ _ lk) rfl S.co S.gen rfl (PySem.W.codeRec_of KX hcd) (hb _ _ _ _ ?_)
  refine wpAny_newFunctionEnv_cells S.kind hkind fun env he s1 x1 => ?_
  subst he
  refine ⟨lim.keeps x1.toInCall.keep, codeAny_func ?_⟩
  obtain ⟨d, ns, hd, hsc, hn, hq⟩ := hsp
  have hb2 : PSs (cxOf CX0 P w K mg base N qual scope f cdv callerA [] s H E) body (tWSs (cxOf CX0 P w K mg base N qual scope f cdv callerA [] s H E).nox body) := PSs.nox pss_w
  have I : Inv (cxOf CX0 P w K mg base N qual scope f cdv callerA [] s H E) [] (L2.start N [v]) H s1 := inv_start (ps := [x]) (us := [u]) S hr.hd e0 rfl (.cons r .nil) x1
  have hw := hbody cdv s H E d ns (hr.deeper _) rfl hsc hn
  have lnk : tWSs (cxOf CX0 P w K mg base N qual scope f cdv callerA [] s H E).nox body { nx := fun _ H' => Q .non H', rt := Q } (L2.start N [v]) H := by
    refine ⟨start N [d], fun _ => none, _, SIs.start (.cons hd .nil) N, fun a m (e : (none : Option MO) = some m) => (nomatch e), hw, ?_⟩
    exact ⟨fun σ' H' Γ' M' t s' m' z => z.elim, fun v H' d' M' t r' m' e => by
      subst e
      cases r'
      exact hq H', fun _ _ _ _ _ _ _ z => z.elim, fun _ _ _ _ _ _ _ z => z.elim⟩
  refine wpAny_mono (hb2.run [] s1 (L2.start N [v]) H _ I lnk) (fun fl s' hs => ?_) fun e s' hs => hs
  have fin : ∀ {σ' : L2.St} {H' : Hp} {v : V} {u : Value}, Inv (cxOf CX0 P w K mg base N qual scope f cdv callerA [] s H E) [] σ' H' s' → RelV v u → Q v H' → CE [] P w H s Q u s' :=
    fun {σ' H' v u} J rv q => ⟨v, H', J.os, J.bare, J.base, J.hok, rv, q⟩
  cases fl with
  | ret u =>
    obtain ⟨v, σ', H', J, rv, q⟩ := hs
    exact fin J rv q
  | next =>
    obtain ⟨σ', H', J, q⟩ := hs
    exact fin (v := V.non) (u := Value.none) J rfl q
  | brk =>
    obtain ⟨_, _, _, q⟩ := hs
    exact False.elim q
  | cont =>
    obtain ⟨_, _, _, q⟩ := hs
    exact False.elim q
/-- what the script is at the entry -/
theorem scr_of {K : PySem.W.Frag} {H : Hp} {a : Addr} {ns : List Int} (ho : Only H) (h : SqL K H a (ns.map V.int)) : ∃ d, Is H d (.ref a) ∧ Scr K d ns := by
  rcases h with (h | ⟨o, h⟩) | h
  · rcases ho a with e | ⟨o, xs, e⟩
    · rw [h] at e; cases e
    · rw [h] at e; cases e
  · exact ⟨.rol (ns.map D.int), .rol ⟨o, h⟩ (IsL.ints ns), .inl rfl⟩
  · exact ⟨.ref a, .ref a, .inr ⟨a, rfl, fun _ => .inr h⟩⟩
/-- the call of the law, from the heap behind the top: nothing but the script may be tracked -/
theorem law_run {P : Program} {w : World} {K : PySem.W.Frag} {mg mb : Str → Option Value} {fa a : Addr} {fd : FuncData} {n : Nat} {x : Str} {s₁ : Shared} {vs : List Value} {ns : List Int}
    (KX : K.In s₁.heap) (hns : s₁.heap.Ns mainGlobals mg) (hb : s₁.heap.Ns builtinsNs mb) (hbb : ∀ x : Str, x ≠ "__name__" → mb x = bootBuiltins x) (hlim : s₁.heap.NoLimit) (hg : s₁.gens = #[])
    (ha : s₁.heap.get? a = some { cls := .type "list", data := .seq vs.toArray }) (hi : IntsAre vs ns) (hl : ns.length ≤ n) (hl2 : ns.length ≤ sizeLine)
    (F : ∀ base : Heap, K.In base → base.Ns mainGlobals mg → LawFn P w K mg base fa fd x (fun vs H Q _ => ∃ v, vs = [v] ∧ spLaw K n v H Q)) (hbind : ∀ (s : Shared) (u : Value), BindsTo s fd ⟨[u], []⟩ [(x, u)]) :
    codeAny (model P w) callerA (.call (.ref fa) ⟨[.ref a], []⟩) (fun r s' => r = .ok (.ret (.bool true)) ∧ OldK s₁.heap s'.heap ∧ s'.os = s₁.os ∧ AllBare s'.gens) s₁ := by
  have main : ∀ H : Hp, Only H → SqL K H a (ns.map V.int) → HOk P w H s₁.heap → (∀ b, b ≠ a → H b = none) → (H a = none ∨ K.lookup a = none) →
      codeAny (model P w) callerA (.call (.ref fa) ⟨[.ref a], []⟩) (fun r s' => r = .ok (.ret (.bool true)) ∧ OldK s₁.heap s'.heap ∧ s'.os = s₁.os ∧ AllBare s'.gens) s₁ := by
    intro H hO hS hok hA hK
    have old : ∀ {b : Addr} {o : Obj}, s₁.heap.get? b = some o → (b = a → H a = none) → (hidT s₁.heap H).get? b = some o := fun {b o} e z => hidT_get e (by
      by_cases q : b = a
      · subst q; exact z rfl
      · exact hA b q)
    have ns_ : ∀ {b : Addr} {m : Str → Option Value}, s₁.heap.Ns b m → (hidT s₁.heap H).Ns b m := fun {b m} ⟨o, es, ep, e, d, r⟩ => ⟨o, es, ep, old e (fun q => by
      subst q
      rw [ha] at e
      cases e
      exact absurd (show Data.seq vs.toArray _ = Data.dict es ep from d) (fun z => by cases z)), d, r⟩
    have kin : K.In (hidT s₁.heap H) := fun b o e => old (KX b o e) fun q => by
      subst q
      rcases hK with z | z
      · exact z
      · rw [z] at e; cases e
    have env0 : Env0 P w K mg (hidT s₁.heap H) callerA [] s₁ H :=
      ⟨rfl, ⟨kin, ns_ hns, ⟨mb, ns_ hb, hbb⟩, let ⟨mc, h1, h2⟩ := hlim; ⟨mc, ns_ h1, h2⟩⟩, fun b o e => of_hidT e, Nat.le_of_eq (hidT_size _ _), trivial, fun b hb => (nomatch (show b ∈ ([] : List Addr) from hb)), hok, .of_eq hg⟩
    obtain ⟨d, hd, hsc⟩ := scr_of hO hS
    refine codeAny_mono ((F _ kin (ns_ hns)).run s₁ H ⟨[.ref a], []⟩ (.ref a) (.ref a) (fun v _ => v = .bl true) (fun _ _ _ => False) env0 (hbind s₁ (.ref a)) rfl ⟨_, rfl, d, ns, hd, hsc, hl, fun _ => rfl⟩) fun r s' h => ?_
    cases r with
    | error e => exact False.elim h
    | ok fl =>
      cases fl with
      | next => exact False.elim h
      | brk => exact False.elim h
      | cont => exact False.elim h
      | ret u =>
        obtain ⟨v, H', os, bare, un, hok', r', q⟩ := h
        cases (show v = .bl true from q)
        cases (show u = Value.bool true from r')
        refine ⟨rfl, OldK.of_keep fun b o e => ?_, os, bare⟩
        cases q : H b with
        | none => exact un.keep b o e q (fun z => nomatch (show b ∈ ([] : List Addr) from z)) (by simp)
        | some u =>
          rcases hO b with z | ⟨ob, xs, z⟩
          · rw [q] at z; cases z
          · have g1 := (hok b _ z).1
            rw [e] at g1
            cases g1
            exact (hok' b _ (un.frzs b _ _ z)).1
  have rv := vals_ints hi
  have lenV := hi.length
  cases hk : K.lookup a with
  | some o =>
    have e := KX a o hk
    rw [ha] at e
    cases e
    exact main (fun _ => none) (fun _ => .inl rfl) (.inr ⟨_, vs.toArray, _, hk, rfl, rfl, rfl, by rw [List.size_toArray, lenV]; exact hl2, by simpa using rv⟩) (fun b u z => nomatch (show (none : Option HO) = some u from z)) (fun _ _ => rfl) (.inl rfl)
  | none =>
    have at_ : ∀ {b : Addr} {u : HO}, (if b = a then some (HO.frz { cls := .type "list", data := .seq vs.toArray } (.lst (ns.map V.int))) else none) = some u → b = a ∧ u = .frz { cls := .type "list", data := .seq vs.toArray } (.lst (ns.map V.int)) := fun {b u} z => by
      by_cases q : b = a
      · rw [if_pos q] at z
        cases z
        exact ⟨q, rfl⟩
      · rw [if_neg q] at z
        cases z
    refine main (fun b => if b = a then some (.frz { cls := .type "list", data := .seq vs.toArray } (.lst (ns.map V.int))) else none) (fun b => ?_) (.inl (.inr ⟨_, if_pos rfl⟩)) (fun b u z => ?_) (fun b q => if_neg q) (.inr hk)
    · by_cases q : b = a
      · exact .inr ⟨_, _, if_pos q⟩
      · exact .inl (if_neg q)
    · obtain ⟨rfl, rfl⟩ := at_ z
      exact ⟨ha, by rw [List.length_map]; exact hl2, vs, _, rv, ha⟩
/-- the walk's end over a head by facts -/
theorem walk_ofG {l : PySem.W.OpenLaw} {n : Nat} {q : Program} {loose : List Str} {XP : (Str → Option Value) → Heap → Prop} {YP : World → Heap → Prop} {d : DefRec} {x : Str}
    (hn : l.most = some n) (hn2 : n ≤ sizeLine) (hdf : d.params.defaults = [])
    (F : ∀ (w : World) (mg : Str → Option Value) (fa : Addr) (h : Heap), YP w h → h.Ns mainGlobals mg → mg d.name = some (.ref fa) →
      ∃ (K : PySem.W.Frag) (fd : FuncData), K.In h ∧ (∀ (s : Shared) (u : Value), BindsTo s fd ⟨[u], []⟩ [(x, u)]) ∧
        ∀ base : Heap, K.In base → base.Ns mainGlobals mg → LawFn l.prog w K mg base fa fd x (fun vs H Q _ => ∃ v, vs = [v] ∧ spLaw K n v H Q)) :
    PySem.W.WalkO q loose XP YP l.row.toRowW d [] (fun f vs => PySem.call f vs) := by
  refine Att.attach_call hn hdf fun w s₀ s₁ mg mb fa o pm cd doc a vs ns G Y ho hd hcd hmg hobj hints hlen hg => ?_
  obtain ⟨K, fd, KX, hb, hF⟩ := F w mg fa _ Y G.T.g hmg
  exact law_run KX G.T.g G.T.b G.T.builtins G.T.nolimit hg hobj hints hlen (Nat.le_trans hlen hn2) hF hb
end DL

set_option Elab.async false
set_option linter.all false
set_option maxRecDepth 100000
set_option maxHeartbeats 4000000
/-! DLs: an own exception over ValueError whose init's first row is super().__init__(..). -/
namespace DL
open PySem PySem.Spec PyProof.Rows L2 NdefX
section
open PySem.W PySem.Calls PyProof.Rows
variable {prog : Program} {w : World} {A : Around} {E : Value → Shared → Prop} {h : Heap} {g : Array GenState} {d : Drawn} {t : Nat} {os : OsState}
variable {nm q : Str} {C N : Addr} {bs bm : List Value} {hdct : Bool} {sn : List Str} {sub : List Value} {ab : Bool} {col : Option Bool} {dd : Option Addr} {k0 k1 k2 k3 k5 : Option Value}
theorem call_veW {u e t0 : Addr} {rest : List Value} {Q : Value → Shared → Prop}
    (hC : h.get? C = some (excClassObj nm q C N bs bm hdct sn sub ab col dd k0 k1 k2 k3 k5 "ValueError.__new__")) (he : h.get? e = some (HandSPX.excO C t0)) (hu : h.get? u = some (kxs_mw "ValueError.__init__" e)) (hrest : rest.length ≤ sizeLine)
    (hq : ∀ h' t1, (∀ b o, b ≠ e → h.get? b = some o → h'.get? b = some o) → h'.get? e = some (HandSPX.excO C t1) → Q .none ⟨h', g, d, t, os⟩) :
    wpAny (model prog w) A (call (.ref u) rest) Q E ⟨h, g, d, t, os⟩ := by
  refine wpAny_call (codeAny_of_tree ?_)
  show wpAny _ A.in1 (callAny (.ref u) ⟨rest, []⟩) _ _ _
  simp only [callAny]
  refine wpAny_bind (wpAny_load hu ?_)
  simp only [kxs_mw, show (Value.type "method-wrapper" == Value.type "method" || Value.type "method-wrapper" == Value.type "builtin_function_or_method" || Value.type "method-wrapper" == Value.type "method-wrapper") = true by decide, if_true]
  refine KFB.if_so (by decide) ?_
  refine wpAny_bind (ESX.check_bound F.excBase_ValueError hC he rfl ?_)
  refine wpAny_bind (wpAny_pure (wpAny_pure ?_))
  refine ⟨Code.quiet_builtin _ (by decide +kernel), codeAny_builtin F.excBase_ValueError.initEntry ?_⟩
  rw [Around.under_plainId F.excBase_ValueError.init.plain _]
  wp_walk
  refine hq _ h.objs.size (fun b o hb ho => ?_) ?_
  · rw [Heap.get?_update_other _ _ (Ne.symm hb)]
    exact Heap.get?_push_of_some _ ho
  · rw [Heap.get?_update_self _ (Heap.get?_push_of_some _ he) rfl]
    rfl
theorem callWith_mw {M : Model} {s : Shared} {i : String} {pos : Pos} {u x : Addr} {env : Env} {e : Expr} {rest : List Expr} {Q : Value → Shared → Prop}
    (h : wpAny M A (spliced (backTo pos (starEach (e :: rest) env))) (fun vs s₁ => KxsAt i u x s₁.heap ∧ wpAny M A (call (.ref u) vs) Q E s₁) E s)
    (he : starEach (e :: rest) env = (false, eval e env) :: starEach rest env := by rfl) (hplain : (backTo pos (starEach rest env)).any (·.1) = false := by rfl) :
    wpAny M A (callWith pos (.ref u) [] (backTo pos (starEach (e :: rest) env)) []) Q E s := by
  rw [he] at h ⊢
  refine kxs_callWith (i := i) (x := x) (by show (false || (backTo pos (starEach rest env)).any (·.1)) = false; rw [hplain]; rfl) ?_
  exact evalArgs_plain h
end
/-- what the written part says of an init with super -/
structure SupF (X : Cx) (D : Addr) (slf : Str) : Prop where
  ks : X.env.kindOf "super" = some .globalImplicit
  kc : X.env.kindOf "__class__" = some .free
  ka : X.env.kindOf slf = some .local
  fn : ∃ f oc od osl fd ar, X.env.func = some f ∧ X.K.lookup f = some ⟨oc, od, .func fd, osl⟩ ∧ (fd.params.posonlyargs ++ fd.params.args).head? = some ar ∧ ar.arg = slf
  code : ∃ cda ccl cdd vs ccs file tf, X.env.code = .ref cda ∧ X.K.lookup cda = some ⟨ccl, cdd, .fields vs, ccs⟩ ∧ vs[2]? = some (.str file tf) ∧ ((X.prog.main.file : Str) == file) = true
  top : (X.prog.main.scope.names.lookup ("super" : Str)).isSome = false
  mg : X.mg "super" = none
  cell : ∃ cc cl cld csl, X.env.cells.lookup ("__class__" : Str) = some cc ∧ X.K.lookup cc = some ⟨cl, cld, .cell (some (.ref D)), csl⟩
  cls : ∃ cd, PySem.W.clsIn X.K D = some cd
  sup : PySem.W.ks_superIn X.K D D "__init__" = some (some (.builtin "ValueError.__init__"))
  tp : PySem.W.nsIn X.K cStatics "thirdparty.any" = some none
  ve : PySem.W.subIn X.K (.ref D) (.type "ValueError") = some true
  me : PySem.W.mroIn X.K D (.ref D) = some true
  ex : OexC X.K D
section
variable {X : Cx} {D : Addr} {slf : Str} {σ : L2.St} {H : Hp} {s : Shared}
/-- super().__init__(e, ..) as a statement -/
theorem sup_stmt {body : List Stmt} {a : Addr} {e : Expr} {es : List Expr} {p0 p1 p2 p3 p4 : Pos} {ta : TA} {R : Hp → Prop} {pl : Sem Bool} (S : SupF X D slf) (I : Inv X [] σ H s) (h0 : X.N[0]? = some slf) (hσ : σ[0]? = some (some (.ref a))) (ea : H a = some (exo a D none))
    (ha : PA X (e :: es) ta) (h : ta σ H fun vs H1 => vs.length ≤ 1000 ∧ H1 a = some (exo a D none) ∧ R H1)
    (hi : interactive X.env = false := by rfl) (hs : swapsWith (.Call (.Attribute (.Call (.Name "super" p0) [] [] p1) "__init__" p2) (e :: es) [] p3) none p4.line X.env = pure false := by rfl)
    (hm : eval (.Call (.Attribute (.Call (.Name "super" p0) [] [] p1) "__init__" p2) (e :: es) [] p3) X.env = (do
      let ov ← attributeBase (.Call (.Name "super" p0) [] [] p1) "__init__" X.env (eval (.Call (.Name "super" p0) [] [] p1) X.env)
      standAt p2.atName
      let (f, first) ← holding [ov] (getMethod ov "__init__" pl)
      callWith p3 f first (backTo p3 (starEach (e :: es) X.env)) []) := by rfl)
    (hst : starEach (e :: es) X.env = (false, eval e X.env) :: starEach es X.env := by rfl) (hpl : (backTo p3 (starEach es X.env)).any (·.1) = false := by rfl) :
    _root_.PySem.wpAt (model X.prog X.w) X.A (.func body X.env) (exec (.Expr (.Call (.Attribute (.Call (.Name "super" p0) [] [] p1) "__init__" p2) (e :: es) [] p3) p4) X.env) (fun f s' => f = .next ∧ ∃ H', Inv X [] σ H' s' ∧ R H') X.xe s := by
  obtain ⟨f, oc, od, osl, fd, ar, hfu, hf, hp, rfl⟩ := S.fn
  obtain ⟨cda, ccl, cdd, vs, ccs, file, tf, hco, hcc, hvs, hfile⟩ := S.code
  obtain ⟨cc, cl, cld, csl, hcl, hcell⟩ := S.cell
  obtain ⟨cd, hcd⟩ := S.cls
  have KX := I.kIn
  obtain ⟨t1, ho⟩ := exo_at I.hok ea
  obtain ⟨m, hns, hlk⟩ := I.loc
  have hma : m ar.arg = some (.ref a) := by
    obtain ⟨u, ru, q⟩ := hlk 0 _ _ h0 hσ (.inl S.ka)
    obtain rfl : u = .ref a := ru
    rcases q with ⟨_, q⟩ | ⟨q | q, _⟩
    · exact q
    · rw [S.ka] at q; cases q
    · rw [S.ka] at q; cases q
  obtain ⟨mb, hb1, hb2⟩ := I.mod.blt
  obtain ⟨oD, hD1, hD2⟩ : ∃ oD, s.heap.get? D = some oD ∧ oD.data = .cls cd := by
    have hcd' := hcd
    unfold PySem.W.clsIn at hcd'
    split at hcd'
    · rename_i c d cd' sl ho
      cases hcd'
      exact ⟨_, KX _ _ ho, rfl⟩
    · cases hcd'
  have hxD : a ≠ D := fun z => by
    subst z
    rw [ho] at hD1
    cases hD1
    cases hD2
  refine PySem.ks_wpAt_Expr_any ?_ hi hs
  refine PySem.ks_wpAt_MethodCall ?_ hm
  refine PySem.ks_wpAt_super_base S.ks S.kc (by decide) hfu (KX _ _ hf) rfl hp hco (KX _ _ hcc) rfl hvs hfile S.top ?_
  refine W.ks_loadName_global I.ok.kind S.ks (PySem.Calls.loadGlobal_builtin (by rw [I.ok.glob]; exact I.mod.glob.keeps I.bk) S.mg (by rw [I.ok.blt]; exact hb1.keeps I.bk) ((hb2 _ (by decide)).trans (by decide +kernel)) ⟨rfl, ?_⟩)
  refine wpAny_loadName_free I.ok.kind S.kc hcl ⟨_, KX _ _ hcell, rfl⟩ ?_
  refine wpAny_loadName_local I.ok.kind S.ka hns hma ?_
  obtain ⟨hh, g, d, t, os⟩ := s
  refine PySem.ks_wpAny_isType_cls hD1 hD2 ⟨rfl, ?_⟩
  refine PySem.ks_wpAny_call_super hD1 hD2 ho rfl (fun c z => by cases z) (W.looks_mroIn KX S.me) (fun h1 e1 k1 => ?_)
  have I1 : Inv X [] σ H ⟨h1, g, d, t, os⟩ := I.kept (t' := t) k1
  have ho1 := k1 _ _ ho
  have hsup := S.sup
  unfold W.ks_superIn at hsup
  rw [hcd] at hsup
  refine W.kxs_getMethod W.kxs_ValueError e1 (W.looks_opaque I1.kIn S.tp) (l₀ := cd.mro) (fun A Q E s k q => wpAny_bind ((W.looks_clsIn I1.kIn hcd) A _ E s k (wpAny_pure q))) rfl I1.kIn hsup
    ((W.Looks.andThen (show W.Looks _ h1 (typeOf (.ref a)) (.ref D) from fun A Q E s k q => wpAny_typeOf_ref (k _ _ ho1) q)) (W.looks_subIn I1.kIn S.ve)) hxD (by decide) ?_
  have k2 : ∀ b o, h1.get? b = some o → (h1.push (W.kxs_mw "ValueError.__init__" a)).get? b = some o := fun b o e => Heap.get?_push_of_some _ e
  have I2 : Inv X [] σ H ⟨h1.push (W.kxs_mw "ValueError.__init__" a), g, d, t + 1, os⟩ := I1.kept (t' := t + 1) k2
  have hmw : (h1.push (W.kxs_mw "ValueError.__init__" a)).get? h1.objs.size = some (W.kxs_mw "ValueError.__init__" a) := Heap.get?_push_at rfl rfl
  have I3 : Inv X [(h1.objs.size, W.kxs_mw "ValueError.__init__" a)] σ H ⟨h1.push (W.kxs_mw "ValueError.__init__" a), g, d, t + 1, os⟩ := I2.pins_of fun p hp => by
    obtain rfl := List.mem_singleton.mp hp
    exact ⟨hmw, I1.hok.fresh (Nat.le_refl _), fun z => absurd I1.lt (by rw [← z]; exact Nat.lt_irrefl _), I1.nofs (Nat.le_refl _), fun v z => by cases z⟩
  refine callWith_mw (i := "ValueError.__init__") (x := a) (thn (ha.run p3 _ _ σ H _ I3 h) fun us s2 ⟨ws, H2, J, r, hl, ea2, hR⟩ => ?_) hst hpl
  obtain ⟨hm2, _⟩ := J.pin _ (List.mem_append_right _ (List.mem_singleton.mpr rfl))
  refine ⟨hm2, ?_⟩
  obtain ⟨nm, q, N, bs, bm, sn, sub, ab, col, dd, k0, k1', k2', k3, k5, hC, hbm⟩ := S.ex.cls
  obtain ⟨t2, ho2⟩ := exo_at J.hok ea2
  obtain ⟨hp2, g2, d2, tk2, os2⟩ := s2
  have hus : us.length ≤ sizeLine := by
    rw [← Paired.length r, sizeLine_eq]
    omega
  refine call_veW (J.kIn _ _ hC) ho2 hm2 hus fun h' t3 k hx => ?_
  have J2 : Inv X [] σ H2 ⟨hp2, g2, d2, tk2, os2⟩ := J.pins_of fun p hp => by cases hp
  have J3 := J2.write (t' := tk2) (x := a) (e := a) (o := exo a D none) (by rw [ea2]; exact True.intro) (.inl rfl) k ⟨_, hx⟩ (exo_ok hx)
  have eu : upd H2 a (exo a D none) = H2 := by
    funext b
    by_cases hb : b = a
    · rw [hb, upd_same, ea2]
    · rw [upd_ne hb]
  rw [eu] at J3
  exact ⟨rfl, H2, J3, hR⟩
end
end DL

set_option Elab.async false
set_option linter.all false
set_option maxRecDepth 100000
set_option maxHeartbeats 4000000
/-! DLt: the def rule of an init with super; own exceptions made, by values. -/
namespace DL
open PySem PySem.Spec PyProof.Rows L2 NdefX
/-- what the written part says of an own exception's init with super -/
structure SupK (P : Program) (K : PySem.W.Frag) (mg : Str → Option Value) (F : NF) (f D : Addr) (slf : Str) : Prop where
  ks : F.scope.names.lookup ("super" : Str) = some .globalImplicit
  kc : F.scope.names.lookup ("__class__" : Str) = some .free
  ka : F.scope.names.lookup slf = some .local
  lk : ∃ oc od osl doc pm ctv, K.lookup f = some ⟨oc, od, .func (F.fd doc pm ctv), osl⟩
  hd : ∃ ar, (F.params.posonlyargs ++ F.params.args).head? = some ar ∧ ar.arg = slf
  code : ∃ ccl cdd vs ccs file tf, K.lookup F.c = some ⟨ccl, cdd, .fields vs, ccs⟩ ∧ vs[2]? = some (.str file tf) ∧ ((P.main.file : Str) == file) = true
  cq : PySem.W.codeIn K (.ref F.c) F.qual = true
  top : (P.main.scope.names.lookup ("super" : Str)).isSome = false
  mg : mg "super" = none
  cell : ∃ cc cl cld csl, F.cl = [(("__class__" : Str), cc)] ∧ K.lookup cc = some ⟨cl, cld, .cell (some (.ref D)), csl⟩
  cls : ∃ cd, PySem.W.clsIn K D = some cd
  sup : PySem.W.ks_superIn K D D "__init__" = some (some (.builtin "ValueError.__init__"))
  tp : PySem.W.nsIn K cStatics "thirdparty.any" = some none
  ve : PySem.W.subIn K (.ref D) (.type "ValueError") = some true
  me : PySem.W.mroIn K D (.ref D) = some true
  ex : OexC K D
section
variable {CX : CXT} {P : Program} {w : World} {K : PySem.W.Frag} {mg : Str → Option Value} {base : Heap} {N ps : List Str} {F : NF} {f D : Addr} {slf : Str} {k : Nat} {sp : Sp}
theorem fn_sup {e : Expr} {es : List Expr} {rest : List Stmt} {p0 p1 p2 p3 p4 : Pos} (S : SupK P K mg F f D slf) (SC : NScope N (slf :: ps) ["__class__"] F.scope) (hB : F.body = .Expr (.Call (.Attribute (.Call (.Name "super" p0) [] [] p1) "__init__" p2) (e :: es) [] p3) p4 :: rest)
    (len : ∀ vs H Q E, sp vs H Q E → vs.length = (slf :: ps).length)
    (hbody : ∀ (A : Around) (outer : List Env) (s : Shared) (H : Hp) (vs : List V) (Q : VK) (E : XK), sp vs H Q E → ∃ (a : Addr) (ta : TA) (t2 : TS), vs[0]? = some (.ref a) ∧ H a = some (exo a D none) ∧
      PA (ncx CX P w K mg base N F f A outer s H E) (e :: es) ta ∧ PSs (ncx CX P w K mg base N F f A outer s H E) rest t2 ∧
      ta (startF N vs [none]) H fun ws H1 => ws.length ≤ 1000 ∧ H1 a = some (exo a D none) ∧ t2 { nx := fun _ H' => Q .non H', rt := Q } (startF N vs [none]) H1)
    (hi : ∀ (L : Addr), interactive (envF F f L) = false := by intro _; rfl) (hs : ∀ L, swapsWith (.Call (.Attribute (.Call (.Name "super" p0) [] [] p1) "__init__" p2) (e :: es) [] p3) none p4.line (envF F f L) = pure false := by intro _; rfl)
    (hst : ∀ L, starEach (e :: es) (envF F f L) = (false, eval e (envF F f L)) :: starEach es (envF F f L) := by intro _; rfl) (hpl : ∀ L, (backTo p3 (starEach es (envF F f L))).any (·.1) = false := by intro _; rfl)
    {pl : Addr → Sem Bool} (hm : ∀ L, eval (.Call (.Attribute (.Call (.Name "super" p0) [] [] p1) "__init__" p2) (e :: es) [] p3) (envF F f L) = (do
      let ov ← attributeBase (.Call (.Name "super" p0) [] [] p1) "__init__" (envF F f L) (eval (.Call (.Name "super" p0) [] [] p1) (envF F f L))
      standAt p2.atName
      let (fv, first) ← holding [ov] (getMethod ov "__init__" (pl L))
      callWith p3 fv first (backTo p3 (starEach (e :: es) (envF F f L))) []) := by intro _; rfl) :
    ∃ fd : FuncData, (∃ doc pm ctv, fd = F.fd doc pm ctv) ∧ FnOk P w K mg base CX (k + 1) f fd (slf :: ps) sp := by
  obtain ⟨oc, od, osl, doc, pm, ctv, lk⟩ := S.lk
  refine ⟨_, ⟨doc, pm, ctv, rfl⟩, ⟨len, fun A outer s H args us vs Q E hr e0 hb r hsp => ?_⟩⟩
  have hl := len _ _ _ _ hsp
  have KX : K.In s.heap := e0.mod.kin.keeps fun b o e => (e0.bs b o e).1
  have lim : s.heap.NoLimit := e0.mod.nolimit.keeps fun b o e => (e0.bs b o e).1
  obtain ⟨cc, cl, cld, csl, hcl, hcell⟩ := S.cell
  have hcs : s.heap.IsCell cc (some (.ref D)) := ⟨_, KX _ _ hcell, rfl⟩
  have hcb : base.get? cc = some ⟨cl, cld, .cell (some (.ref D)), csl⟩ := e0.mod.kin _ _ hcell
  have C : CellsAt F.cl ["__class__"] [none] s.heap H := by
    have only : ∀ {y : Str} {c : Addr}, F.cl.lookup y = some c → y = "__class__" ∧ c = cc := fun {y c} h => by
      rw [hcl] at h
      have m := PySem.mem_of_lookup h
      simp only [List.mem_singleton, Prod.mk.injEq] at m
      exact m
    refine ⟨rfl, fun y c h => ?_, fun x y c h1 h2 => by rw [(only h1).1, (only h2).1], fun i y hy => ?_⟩
    · rw [(only h).2]
      exact ⟨(e0.bs _ _ hcb).2, _, hcs⟩
    · cases i with
      | zero =>
        cases hy
        exact ⟨cc, by rw [hcl]; rfl, fun v h => by cases h⟩
      | succ i => simp at hy
  refine codeAny_call_function hr.depth (KX _ _ lk) rfl SC.co SC.gen rfl (PySem.W.codeRec_of KX S.cq) (hb _ _ _ _ ?_)
  refine wpAny_newFunctionEnv SC.nocell (fun ⟨n, _⟩ hy => SC.par n (List.of_mem_zip hy).1) (fun h₁ hns hsb => ⟨lim.fresh _ hsb, ?_⟩) SC.kind
  show codeAny _ _ (.func F.body (envF F f s.heap.objs.size)) _ _
  refine PySem.ks_codeAny_funcAt ?_
  have kp : ∀ b o, s.heap.get? b = some o → h₁.get? b = some o := fun b o e => hsb.extBut b o (Nat.ne_of_lt (Heap.lt_size e)) (Heap.get?_push_of_some _ e)
  obtain ⟨a, ta, t2, h0, ea, ha, h2, hq⟩ := hbody A outer s H vs Q E hsp
  have I : Inv (ncx CX P w K mg base N F f A outer s H E) [] (startF N vs [none]) H { s with heap := h₁, toks := s.toks + ((slf :: ps).zip us).length } := inv_startN SC hr.hd e0 hl r C hns kp
  obtain ⟨ar, hd1, hd2⟩ := S.hd
  obtain ⟨ccl, cdd, vs', ccs, file, tf, hc1, hc2, hc3⟩ := S.code
  have SF : SupF (ncx CX P w K mg base N F f A outer s H E) D slf := ⟨S.ks, S.kc, S.ka, ⟨f, oc, od, osl, F.fd doc pm ctv, ar, rfl, lk, hd1, hd2⟩, ⟨F.c, ccl, cdd, vs', ccs, file, tf, rfl, hc1, hc2, hc3⟩, S.top, S.mg, ⟨cc, cl, cld, csl, by
    show F.cl.lookup _ = _
    rw [hcl]
    rfl, hcell⟩, S.cls, S.sup, S.tp, S.ve, S.me, S.ex⟩
  have hN0 : N[0]? = some slf := by
    have q := congrArg (fun l : List Str => l[0]?) SC.pre
    simp only [List.length_cons, List.cons_append, List.getElem?_cons_zero] at q
    rw [List.getElem?_take_of_lt (by omega)] at q
    exact q
  have hσ : (startF N vs [none])[0]? = some (some (.ref a)) := by
    unfold startF
    cases vs with
    | nil => cases h0
    | cons v vs =>
      cases h0
      rfl
  rw [hB]
  refine PySem.ks_wpAt_execs_cons (PySem.ks_wpAt_mono (sup_stmt (X := ncx CX P w K mg base N F f A outer s H E) SF I hN0 hσ ea ha hq (hi _) (hs _) (hm _) (hst _) (hpl _)) (fun fl s2 ⟨ef, H2, I2, q2⟩ => ?_) fun _ _ x => x)
  subst ef
  refine _root_.PySem.wpAt_of_wpAny (wpAny_mono (h2.run [] s2 _ H2 _ I2 q2) (fun fl s' hs => ?_) fun e s' hs => hs)
  have fin : ∀ {σ' : L2.St} {H' : Hp} {v : V} {u : Value}, Inv (ncx CX P w K mg base N F f A outer s H E) [] σ' H' s' → L2.RelV v u → Q v H' → CE outer P w H s Q u s' :=
    fun {σ' H' v u} J rv q => ⟨v, H', J.os, J.bare, J.base, J.hok, rv, q⟩
  cases fl with
  | ret u =>
    obtain ⟨v, σ', H', J, rv, q⟩ := hs
    exact fin J rv q
  | next =>
    obtain ⟨σ', H', J, q⟩ := hs
    exact fin (v := V.non) (u := Value.none) J rfl q
  | brk =>
    obtain ⟨_, _, _, q⟩ := hs
    exact False.elim q
  | cont =>
    obtain ⟨_, _, _, q⟩ := hs
    exact False.elim q
/-- what an own exception's init does: its fields in order -/
def excF (names : List Str) (ws : List V) : List (Str × V) := (names.zip ws).reverse
def spExc (D : Addr) (names : List Str) : Sp := fun vs H Q _ => ∃ (a : Addr) (ws : List V), vs = .ref a :: ws ∧ ws.length = names.length ∧ H a = some (exo a D none) ∧
  ∀ (d : Addr) (H' : Hp), H d = none → d ≠ a → H' a = some (exo a D (some d)) → H' d = some (exd d (excF names ws)) → (∀ b, b ≠ a → b ≠ d → H' b = H b) → Q .non H'
/-- C(e, ..), C's own init keeping sp; the exception has no context -/
theorem pmk_oexN {X : Cx} {CX : CXT} {x : Str} {C fI : Addr} {k : Nat} {fd : FuncData} {ps : List Str} {sp : Sp} {e : Expr} {es : List Expr} {ta : TA} {p pos : Pos} (T : OexC X.K C) (iC : PySem.W.findIn X.K (.ref C) "__init__" = some (some (.ref fI))) (tI : PySem.W.typeIn X.K (.ref fI) = some (.type "function"))
    (F1 : FnOk X.prog X.w X.K X.mg X.base CX k fI fd ps sp) (hr : Room (k + 1) X.A) (hb : Binds X.K fd ps []) (hx : Passes CX X (fun _ _ _ => False)) (hg : Gl X x) (hm : X.mg x = some (.ref C)) (ha : PA X (e :: es) ta)
    (hdb : (x == ("__debug__" : Str)) = false := by decide) (he : starEach (e :: es) X.env = (false, eval e X.env) :: starEach es X.env := by rfl) (hpl : (backTo pos (starEach es X.env)).any (·.1) = false := by rfl) :
    L2N.PMk X (.Call (.Name x p) (e :: es) [] pos) (tMkO C sp [] ta) := by
  intro pins s σ H Q I h
  obtain ⟨nm, q, N, bs, bm, sn, sub, ab, col, dd, k0, k1, k2, k3, k5, hC, hbm⟩ := T.cls
  refine wpAny_Call_Name_kw (ld_glob I hg hm ?_ hdb)
  refine PySem.W.callWith_K (h₀ := X.base) I.ok.mod.kin T.kC (thn (ha.run pos pins s σ H _ I h) fun us s1 ⟨vs, H1, I1, r1, hz, q1⟩ => ⟨I1.kIn, ?_⟩) he hpl
  show wpAny _ _ (call (.ref C) us) _ _ _
  obtain ⟨hp, g, dr, tk, os⟩ := s1
  generalize hA : hp.objs.size + 1 = A1 at *
  have hsz : hp.objs.size ≤ A1 := by omega
  have hq := q1 A1 (I1.hok.fresh hsz)
  rw [List.append_nil] at hq
  generalize hG : (hp.push (PySem.W.kdv_tup us)).push (PySem.HandSPX.excO C hp.objs.size) = G1
  have kk : ∀ b o, hp.get? b = some o → G1.get? b = some o := fun b o e => by
    rw [← hG]
    exact Heap.get?_push_of_some _ (Heap.get?_push_of_some _ e)
  have hget : G1.get? A1 = some (PySem.HandSPX.excO C hp.objs.size) := by
    rw [← hG, ← hA]
    heap_get
  have I2 : Inv X pins σ (upd H1 A1 (exo A1 C none)) ⟨G1, g, dr, tk, os⟩ := I1.laid (t' := tk) (h' := G1) kk hsz (exo_ok hget)
  have r2 : Vals (V.ref A1 :: vs) (Value.ref A1 :: us) := .cons rfl r1
  have hl : (Value.ref A1 :: us).length = ps.length := by rw [← r2.length]; exact F1.len _ _ _ _ hq
  have hus : us.length ≤ sizeLine := by
    rw [← Paired.length r1, sizeLine_eq]
    omega
  have bb := hb ⟨G1, g, dr, tk, os⟩ (Value.ref A1 :: us) I2.kIn (by rw [List.append_nil]; exact hl)
  rw [List.append_nil] at bb
  have run := F1.run _ X.stack ⟨G1, g, dr, tk, os⟩ _ ⟨Value.ref A1 :: us, []⟩ _ _ _ _ (hr.make C us []) (I2.env0.make C us []) bb r2 hq
  refine wpAny_call (PySem.HandSPX.call_own F.excBase_ValueError (fun Y => PySem.HandSPX.refsVE_contains Y bm hbm) (I1.kIn _ _ hC) (PySem.W.looks_findIn I1.kIn iC) (fun self => PySem.W.bind_fn I1.kIn self tI) hus ?_)
  rw [hG, hA]
  refine codeAny_mono run fun r s' hq' => ?_
  cases r with
  | error er => exact hx pins σ _ _ er s' I2 hq'
  | ok fl =>
    cases fl with
    | next => exact hq'.elim
    | brk => exact hq'.elim
    | cont => exact hq'.elim
    | ret u =>
      obtain ⟨v, H2, os2, bare2, un2, hok2, rv, ev, d, fs, ea, ed, hd1, q2⟩ := hq'
      subst ev
      obtain ⟨h2, g2, d2, t2, os'⟩ := s'
      obtain ⟨t0, G, J, kG, ge, hoe, na⟩ := mk_end0 (d2 := d2) (t2 := t2) I1 hsz kk un2 hok2 os2 bare2 ea ed hd1
      exact ⟨rv, A1, _, _, ⟨G, g2, d2, t2, os'⟩, _, .ref C, some d, rfl, J, kG, ge, hoe, ⟨rfl, rfl, fun vs' e' => by cases e'; rfl⟩, rfl, rfl, na, rfl, bare2, raises_own T.exC T.tyC, q2⟩
end
end DL

set_option Elab.async false
set_option linter.all false
set_option maxRecDepth 100000
set_option maxHeartbeats 4000000
/-! DLw: facts of own exceptions and of properties in the head. -/
namespace DL
open PySem PySem.Spec PyProof.Rows L2 NdefX
abbrev FnV : Type := Option (Str × Str × Arguments × FuncBody × Scope × Addr × List Str × Addr)
def fnV (K : PySem.W.Frag) (a : Addr) : FnV := match K.lookup a with
  | some ⟨_, _, .func fd, _⟩ => some (fd.name, fd.qualname, fd.params, fd.body, fd.scope, fd.globals, fd.closure.map (·.1), fd.builtins)
  | _ => none
def initA (K : PySem.W.Frag) (x : Str) : Addr := He.ma K (He.ga K x) "__init__"
def strB (mf : Str) : Option Value → Bool
  | some (.str file _) => mf == file
  | _ => false
def codeB (mf : Str) (K : PySem.W.Frag) (q : Str) : Value → Bool
  | .ref c => PySem.W.codeIn K (.ref c) q && (match K.lookup c with
    | some ⟨_, _, .fields vs, _⟩ => strB mf vs[2]?
    | _ => false)
  | _ => false
def cellB (K : PySem.W.Frag) (D : Addr) : List (Str × Addr) → Bool
  | [(_, cc)] => (match K.lookup cc with
    | some ⟨_, _, .cell (some (.ref D')), _⟩ => decide (D' = D)
    | _ => false)
  | _ => false
def initB (mf : Str) (K : PySem.W.Frag) (x : Str) : Bool := match K.lookup (initA K x) with
  | some ⟨_, _, .func fd, _⟩ => decide (fd.defaults = .none) && (decide (fd.kwdefaults = .none) && (decide (fd.annotations = none) && (codeB mf K fd.qualname fd.code && cellB K (He.ga K x) fd.closure)))
  | _ => false
def oexB (K : PySem.W.Frag) (C : Addr) : Bool := match K.lookup C with
  | some ⟨.type "type", _, .cls cd, sl⟩ => (match cd.mro, sl.toList with
    | .ref C' :: bm, [_, _, _, _, some (.builtin n), _] => decide (C' = C) && (decide (n = "ValueError.__new__") && (!cd.hasDel && (cd.hasDict && HandSPX.refsVE bm)))
    | _, _ => false)
  | _ => false
def excB (mf : Str) (K : PySem.W.Frag) (x : Str) : Bool := initB mf K x && (oexB K (He.ga K x) && (decide (PySem.W.findIn K (.ref (He.ga K x)) "__init__" = some (some (.ref (initA K x)))) && (decide (PySem.W.typeIn K (.ref (initA K x)) = some (.type "function")) && (decide (PySem.W.ks_superIn K (He.ga K x) (He.ga K x) "__init__" = some (some (.builtin "ValueError.__init__"))) && (decide (PySem.W.nsIn K cStatics "thirdparty.any" = some none) && (decide (PySem.W.subIn K (.ref (He.ga K x)) (.type "ValueError") = some true) && (decide (PySem.W.mroIn K (He.ga K x) (.ref (He.ga K x)) = some true) && (decide (PySem.W.findIn K (.ref (He.ga K x)) "__setattr__" = some (some (.builtin "object.__setattr__"))) && (decide (PySem.W.subIn K (.ref (He.ga K x)) (.type "BaseException") = some true) && (decide (PySem.W.typeIn K (.ref (He.ga K x)) = some (.type "type")) && (PySem.W.keepIn K (.ref (He.ga K x)) && (xfB K (He.ga K x) && (decide (PySem.W.nsIn K mainGlobals x = some (some (.ref (He.ga K x)))))))))))))))))
/-- what isinstance asks of a caught one -/
def iscB (K : PySem.W.Frag) (D : Addr) : Bool := decide (PySem.W.findIn K (.ref D) "__class__" = some (some (.builtin "object.__class__"))) && (decide (PySem.W.specialIn K (.builtin "object.__class__") "__get__" = some (some (.builtin "getset_descriptor.__get__"))) &&
  (decide (PySem.W.takesIn K (.builtin "object.__class__") = some true) && decide (PySem.W.mroIn K D (.type "object") = some true)))
theorem oexB_ok {K : PySem.W.Frag} {C : Addr} (q : oexB K C = true) : ∃ nm qq N bs bm sn sub ab col dd k0 k1 k2 k3 k5, K.lookup C = some (excClassObj nm qq C N bs bm true sn sub ab col dd k0 k1 k2 k3 k5 "ValueError.__new__") ∧ PySem.HandSPX.refsVE bm = true := by
  unfold oexB at q
  split at q
  · rename_i dd cd sl ho
    split at q
    · rename_i C' bm k0 k1 k2 k3 n k5 hm hs
      simp only [Bool.and_eq_true, decide_eq_true_eq, Bool.not_eq_true'] at q
      obtain ⟨rfl, rfl, hdel, hd, ht⟩ := q
      obtain ⟨nm, bs, mro, ns, qn, hd', sn, sub, ab, col, del⟩ := cd
      dsimp only at hm hdel hd
      subst hm hdel hd
      have hsl : sl = #[k0, k1, k2, k3, some (.builtin "ValueError.__new__"), k5] := by
        obtain ⟨l⟩ := sl
        simp only at hs
        rw [hs]
      subst hsl
      exact ⟨nm, qn, ns, bs, bm, sn, sub, ab, col, dd, k0, k1, k2, k3, k5, ho, ht⟩
    · cases q
  · cases q
/-- what excB tells -/
structure ExcK (mf : Str) (K : PySem.W.Frag) (x : Str) : Prop where
  i : initB mf K x = true
  o : OexC K (He.ga K x)
  fi : PySem.W.findIn K (.ref (He.ga K x)) "__init__" = some (some (.ref (initA K x)))
  ti : PySem.W.typeIn K (.ref (initA K x)) = some (.type "function")
  su : PySem.W.ks_superIn K (He.ga K x) (He.ga K x) "__init__" = some (some (.builtin "ValueError.__init__"))
  tp : PySem.W.nsIn K cStatics "thirdparty.any" = some none
  ve : PySem.W.subIn K (.ref (He.ga K x)) (.type "ValueError") = some true
  me : PySem.W.mroIn K (He.ga K x) (.ref (He.ga K x)) = some true
  xf : XfC K (He.ga K x)
  gl : PySem.W.nsIn K mainGlobals x = some (some (.ref (He.ga K x)))
theorem excB_ok {mf : Str} {K : PySem.W.Frag} {x : Str} (h : excB mf K x = true) : ExcK mf K x := by
  unfold excB at h
  simp only [Bool.and_eq_true, decide_eq_true_eq] at h
  obtain ⟨h1, h2, h3, h4, h5, h6, h7, h8, h9, h10, h11, h12, h13, h14⟩ := h
  exact ⟨h1, ⟨oexB_ok h2, h9, h10, h11, h12⟩, h3, h4, h5, h6, h7, h8, xfB_ok h13, h14⟩
theorem iscB_ok {K : PySem.W.Frag} {D : Addr} (X : XfC K D) (h : iscB K D = true) : ExcC K D := by
  unfold iscB at h
  simp only [Bool.and_eq_true, decide_eq_true_eq] at h
  exact ⟨X.ga, X.gg, X.exC, X.hdC, h.1, h.2.1, h.2.2.1, h.2.2.2⟩
/-- the init's words, its cell -/
theorem ExcK.sup {mf : Str} {K : PySem.W.Frag} {x name qual : Str} {params : Arguments} {body : List Stmt} {scope : Scope} {P : Program} {mg : Str → Option Value} {slf : Str} {ar : Arg} (E : ExcK mf K x)
    (e : fnV K (initA K x) = (some (name, qual, params, .stmts body, scope, mainGlobals, [("__class__" : Str)], builtinsNs) : FnV)) (hmf : P.main.file = mf) (ks : scope.names.lookup ("super" : Str) = some .globalImplicit) (kc : scope.names.lookup ("__class__" : Str) = some .free) (ka : scope.names.lookup slf = some .local)
    (hd : (params.posonlyargs ++ params.args).head? = some ar) (ha : ar.arg = slf) (top : (P.main.scope.names.lookup ("super" : Str)).isSome = false) (hm : mg "super" = none) :
    ∃ F : NF, F.name = name ∧ F.qual = qual ∧ F.params = params ∧ F.body = body ∧ F.scope = scope ∧ SupK P K mg F (initA K x) (He.ga K x) slf := by
  have i := E.i
  unfold initB at i
  unfold fnV at e
  cases q : K.lookup (initA K x) with
  | none => rw [q] at i; cases i
  | some o =>
    obtain ⟨oc, od, dt, osl⟩ := o
    rw [q] at i e
    cases dt with
    | func fd =>
      obtain ⟨n1, n2, n3, n4, n5, n6, n7, n8, n9, n10, n11, n12, n13, n14, n15⟩ := fd
      have e2 : (some (n1, n2, n3, n4, n5, n6, n7.map (·.1), n15) : FnV) = (some (name, qual, params, .stmts body, scope, mainGlobals, [("__class__" : Str)], builtinsNs) : FnV) := e
      simp only [Option.some.injEq, Prod.mk.injEq] at e2
      obtain ⟨h1, h2, h3, h4, h5, h6, h7, h8⟩ := e2
      subst h1 h2 h3 h4 h5 h6 h8
      simp only [Bool.and_eq_true, decide_eq_true_eq] at i
      obtain ⟨i1, i2, i3, i4, i5⟩ := i
      subst i1 i2 i3
      cases n13 with
      | ref c =>
        simp only [codeB, Bool.and_eq_true] at i4
        obtain ⟨c1, c2⟩ := i4
        cases hc : K.lookup c with
        | none => rw [hc] at c2; cases c2
        | some oo =>
          obtain ⟨a1, a2, a3, a4⟩ := oo
          rw [hc] at c2
          cases a3 with
          | fields vs =>
            dsimp only at c2
            cases hv : vs[2]? with
            | none => rw [hv] at c2; cases c2
            | some v =>
              rw [hv] at c2
              cases v with
              | str file tf =>
                match n7, i5, h7 with
                | [(z, cc)], i5, h7 =>
                  simp only [cellB] at i5
                  cases hcc : K.lookup cc with
                  | none => rw [hcc] at i5; cases i5
                  | some ob =>
                    obtain ⟨b1, b2, b3, b4⟩ := ob
                    rw [hcc] at i5
                    cases b3 with
                    | cell cv =>
                      cases cv with
                      | none => cases i5
                      | some cv =>
                        cases cv with
                        | ref D' =>
                          have i5 := of_decide_eq_true i5
                          subst i5
                          simp only [List.map_cons, List.map_nil, List.cons.injEq, and_true] at h7
                          subst h7
                          refine ⟨⟨n1, n2, n3, body, n5, [("__class__", cc)], c⟩, rfl, rfl, rfl, rfl, rfl, ⟨ks, kc, ka, ⟨oc, od, osl, n10, n11, n14, q⟩, ⟨ar, hd, ha⟩, ⟨a1, a2, vs, a4, file, tf, hc, hv, by rw [hmf]; exact c2⟩, c1, top, hm, ⟨cc, b1, b2, b4, rfl, hcc⟩, ?_, E.su, E.tp, E.ve, E.me, E.o⟩⟩
                          obtain ⟨nm, qq, N, bs, bm, sn, sub, ab, col, dd, k0, k1, k2, k3, k5, hl, _⟩ := E.o.cls
                          exact ⟨_, by unfold PySem.W.clsIn; rw [hl] <;> rfl⟩
                        | _ => cases i5
                    | _ => cases i5
              | _ => cases c2
          | _ => cases c2
      | _ => cases i4
    | _ => cases i
/-! ### properties -/
def propA (K : PySem.W.Frag) (x f : Str) : Addr := He.ma K (He.ga K x) f
def getA (K : PySem.W.Frag) (p : Addr) : Addr := match PySem.W.recIn K p "property" with
  | some (.ref g :: _) => g
  | _ => 0
def propB (K : PySem.W.Frag) (x f : Str) : Bool := decide (PySem.W.findIn K (.ref (He.ga K x)) f = some (some (.ref (propA K x f)))) && (decide (PySem.W.specialIn K (.ref (propA K x f)) "__get__" = some (some (.builtin "property.__get__"))) &&
  (decide (PySem.W.takesIn K (.ref (propA K x f)) = some true) && (match PySem.W.recIn K (propA K x f) "property" with
  | some (.ref g :: _) => (match K.lookup g with
    | some ⟨_, _, .func fd, _⟩ => PySem.W.codeIn K fd.code fd.qualname
    | _ => false)
  | _ => false)))
theorem propB_ok {K : PySem.W.Frag} {x f : Str} (h : propB K x f = true) : PropOf K (He.ga K x) f (propA K x f) (getA K (propA K x f)) := by
  unfold propB at h
  simp only [Bool.and_eq_true, decide_eq_true_eq] at h
  obtain ⟨h1, h2, h3, h4⟩ := h
  refine ⟨h1, h2, h3, ?_⟩
  unfold getA
  cases q : PySem.W.recIn K (propA K x f) "property" with
  | none => rw [q] at h4; cases h4
  | some l =>
    rw [q] at h4
    match l, h4 with
    | .ref g :: r, _ => exact ⟨r, rfl⟩
/-- a getter without defaults -/
def getB (K : PySem.W.Frag) (x f : Str) : Bool := match K.lookup (getA K (propA K x f)) with
  | some ⟨_, _, .func fd, _⟩ => decide (fd.defaults = .none) && (decide (fd.kwdefaults = .none) && decide (fd.annotations = none))
  | _ => false
theorem getB_fn {K : PySem.W.Frag} {x f name qual : Str} {params : Arguments} {body : List Stmt} {scope : Scope} (hp : propB K x f = true) (hg : getB K x f = true) (e : fnV K (getA K (propA K x f)) = (some (name, qual, params, .stmts body, scope, mainGlobals, ([] : List Str), builtinsNs) : FnV)) :
    ∃ (oc : Value) (od : Option Addr) (doc pm cdv ct : Value) (osl : Array (Option Value)), K.lookup (getA K (propA K x f)) = some ⟨oc, od, .func (PySem.W.fnOf name qual params body scope .none .none doc pm none cdv ct), osl⟩ ∧ PySem.W.codeIn K cdv qual = true := by
  have hc : ∀ oc od fd osl, K.lookup (getA K (propA K x f)) = some ⟨oc, od, .func fd, osl⟩ → PySem.W.codeIn K fd.code fd.qualname = true := fun oc od fd osl h => by
    unfold propB at hp
    simp only [Bool.and_eq_true, decide_eq_true_eq] at hp
    obtain ⟨_, _, _, h4⟩ := hp
    have eg : ∀ g r, PySem.W.recIn K (propA K x f) "property" = some (.ref g :: r) → getA K (propA K x f) = g := fun g r h => by
      unfold getA
      rw [h]
    cases q : PySem.W.recIn K (propA K x f) "property" with
    | none => rw [q] at h4; cases h4
    | some l =>
      rw [q] at h4
      match l, h4, q with
      | .ref g :: r, h4, q =>
        have e1 := eg g r q
        rw [e1] at h
        dsimp only at h4
        rw [h] at h4
        exact h4
  unfold getB at hg
  unfold fnV at e
  cases q : K.lookup (getA K (propA K x f)) with
  | none => rw [q] at hg; cases hg
  | some o =>
    obtain ⟨oc, od, dt, osl⟩ := o
    rw [q] at hg e
    cases dt with
    | func fd =>
      have hcc := hc _ _ _ _ q
      obtain ⟨n1, n2, n3, n4, n5, n6, n7, n8, n9, n10, n11, n12, n13, n14, n15⟩ := fd
      have e2 : (some (n1, n2, n3, n4, n5, n6, n7.map (·.1), n15) : FnV) = (some (name, qual, params, .stmts body, scope, mainGlobals, ([] : List Str), builtinsNs) : FnV) := e
      simp only [Option.some.injEq, Prod.mk.injEq, List.map_eq_nil_iff] at e2
      obtain ⟨h1, h2, h3, h4, h5, h6, h7, h8⟩ := e2
      subst h1 h2 h3 h4 h5 h6 h7 h8
      simp only [Bool.and_eq_true, decide_eq_true_eq] at hg
      obtain ⟨i1, i2, i3⟩ := hg
      subst i1 i2 i3
      exact ⟨oc, od, _, _, _, _, osl, rfl, hcc⟩
    | _ => cases hg
/-! ### the hook -/
def asS (g : Addr → Option Obj) : Nat → List Addr
  | 0 => [mainGlobals, cStatics]
  | n + 1 => He.growD g (asS g n)
abbrev AlS : Type := He.AlD × Bool × List FnV
def obsS (fa : List He.Fa) (fn : List He.DefD) (fc : List ((PySem.W.Frag → Addr) × FnV)) (ex : PySem.W.Frag → Bool) (K : PySem.W.Frag) : AlS := (He.obsD fa fn K, ex K, fc.map fun p => fnV K (p.1 K))
def valS (fn : List He.DefD) (fc : List ((PySem.W.Frag → Addr) × FnV)) : AlS := (He.valD fn, true, fc.map (·.2))
def SaysS (fa : List He.Fa) (fn : List He.DefD) (fc : List ((PySem.W.Frag → Addr) × FnV)) (ex : PySem.W.Frag → Bool) (K : PySem.W.Frag) : Prop := obsS fa fn fc ex K = valS fn fc
def obsSG (n : Nat) (fa : List He.Fa) (fn : List He.DefD) (fc : List ((PySem.W.Frag → Addr) × FnV)) (ex : PySem.W.Frag → Bool) (g : Addr → Option Obj) : AlS := obsS fa fn fc ex (He.frG g (asS g n))
def hookS (n : Nat) (fa : List He.Fa) (fn : List He.DefD) (fc : List ((PySem.W.Frag → Addr) × FnV)) (ex : PySem.W.Frag → Bool) : PySem.W.Hook where
  α := AlS
  obs := fun s => obsSG n fa fn fc ex s.heap.get?
  val := fun _ => valS fn fc
  says := fun _ h => ∃ K : PySem.W.Frag, K.In h ∧ SaysS fa fn fc ex K
  of := fun _ _ e => ⟨_, He.frG_in, e⟩
  keeps := fun _ _ _ ⟨K, hK, c⟩ k => ⟨K, PySem.W.Frag.In.keeps hK k, c⟩
theorem obsSG_eq {n : Nat} {fa : List He.Fa} {fn : List He.DefD} {fc : List ((PySem.W.Frag → Addr) × FnV)} {ex : PySem.W.Frag → Bool} {g : Addr → Option Obj} {s : Shared} (h : ∀ a, g a = s.heap.get? a) : obsSG n fa fn fc ex g = (hookS n fa fn fc ex).obs s := by
  have e : g = s.heap.get? := funext h
  rw [e] <;> rfl
section
variable {fa : List He.Fa} {fn : List He.DefD} {fc : List ((PySem.W.Frag → Addr) × FnV)} {ex : PySem.W.Frag → Bool} {K : PySem.W.Frag}
theorem SaysS.d (c : SaysS fa fn fc ex K) : He.SaysD fa fn K := congrArg (fun z : AlS => z.1) c
theorem SaysS.e (c : SaysS fa fn fc ex K) : ex K = true := congrArg (fun z : AlS => z.2.1) c
theorem SaysS.f (c : SaysS fa fn fc ex K) (i : Nat) {p : (PySem.W.Frag → Addr) × FnV} (h : fc[i]? = some p := by rfl) : fnV K (p.1 K) = p.2 := by
  have e : (fc.map fun p => fnV K (p.1 K)) = fc.map (·.2) := congrArg (fun z : AlS => z.2.2) c
  have e2 := congrArg (fun l => l[i]?) e
  simp only [List.getElem?_map, h, Option.map_some, Option.some.injEq] at e2
  exact e2
end
end DL

set_option Elab.async false
set_option linter.all false
set_option maxRecDepth 100000
set_option maxHeartbeats 4000000
/-! DLu: exceptions by data: raise, calls that may raise, try. -/
namespace DL
open PySem PySem.Spec PyProof.Rows L2
/-- what is wished of an exception that leaves: class, dict, slots, memory -/
abbrev XS := Value → Option Addr → Sl → Mem → Prop
def wx (Hb : Hp) (Wd : XS) : WX := fun cls d σ H => ∃ Γ M, Tx Hb H ∧ SIs H σ Γ ∧ RelM H M ∧ Wd cls d Γ M
def TkD (X : Cx) (Hb : Hp) (Wd : XS) : Prop := L2N.Takes X (wx Hb Wd)
theorem tx_of {X : Cx} {pins : List (Addr × Obj)} {σ : L2.St} {H : Hp} {s : Shared} (I : Inv X pins σ H s) : Tx X.H_0 H := ⟨fun a xs h => I.base.tups a xs h, fun a xs ⟨o, h⟩ => ⟨o, I.base.frzs a o _ h⟩⟩
/-- a def's own wish: nothing is asked of what its tuples are, they stand -/
def wx0 (Wd : XS) : WX := fun cls d σ H => ∃ Γ M, SIs H σ Γ ∧ RelM H M ∧ Wd cls d Γ M
theorem takes_tx {X : Cx} {W : WX} (t : L2N.Takes X (fun c d σ H => Tx X.H_0 H ∧ W c d σ H)) : L2N.Takes X W := fun u s' ⟨a, B, sI, pins, σ, H, cls, d, e, I, nb, up, sky, na, os, ag, w⟩ =>
  t u s' ⟨a, B, sI, pins, σ, H, cls, d, e, I, nb, up, sky, na, os, ag, tx_of I, w⟩
section
variable {X : Cx} {H : Hp} {Γ : Sl} {M : Mem} {P : PD} {pos p apos : Pos} {e o : Expr} {es : List Expr} {x : Str} {Wd : XS} {E : DE} {Hb : Hp}
/-! ### judgements from a ground on -/
structure WET (X : Cx) (Hb : Hp) (e : Expr) (Γ : Sl) (M : Mem) (P : PD) : Prop where
  run : ∀ (pins : List (Addr × Obj)) (s : Shared) (σ : L2.St) (H : Hp), Tx Hb H → Inv X pins σ H s → SIs H σ Γ → RelM H M → wpAny (model X.prog X.w) X.A (eval e X.env) (EP X pins σ (PostE H P)) X.xe s
structure WTT (X : Cx) (Hb : Hp) (e : Expr) (Γ : Sl) (M : Mem) (P : Bool → Mem → Prop) : Prop where
  run : ∀ (pins : List (Addr × Obj)) (s : Shared) (σ : L2.St) (H : Hp), Tx Hb H → Inv X pins σ H s → SIs H σ Γ → RelM H M → wpAny (model X.prog X.w) X.A (isTrue e X.env (eval e X.env)) (TP X pins σ (PostT H P)) X.xe s
structure WST (X : Cx) (Hb : Hp) (st : Stmt) (Γ : Sl) (M : Mem) (E : DE) : Prop where
  run : ∀ (pins : List (Addr × Obj)) (s : Shared) (σ : L2.St) (H : Hp) (Dn : Ends), Tx Hb H → Inv X pins σ H s → SIs H σ Γ → RelM H M → Lk H E Dn → wpAny (model X.prog X.w) X.A (exec st X.env) (SP X pins Dn) X.xe s
structure WSsT (X : Cx) (Hb : Hp) (st : List Stmt) (Γ : Sl) (M : Mem) (E : DE) : Prop where
  run : ∀ (pins : List (Addr × Obj)) (s : Shared) (σ : L2.St) (H : Hp) (Dn : Ends), Tx Hb H → Inv X pins σ H s → SIs H σ Γ → RelM H M → Lk H E Dn → wpAny (model X.prog X.w) X.A (execs st X.env) (SP X pins Dn) X.xe s
theorem WE.t (h : WE X e Γ M P) : WET X Hb e Γ M P := ⟨fun pins s σ H _ I hs hm => h.run pins s σ H I hs hm⟩
theorem WSs.t {sts : List Stmt} (h : WSs X sts Γ M E) : WSsT X Hb sts Γ M E := ⟨fun pins s σ H Dn _ I hs hm lk => h.run pins s σ H Dn I hs hm lk⟩
theorem WS.t {st : Stmt} (h : WS X st Γ M E) : WST X Hb st Γ M E := ⟨fun pins s σ H Dn _ I hs hm lk => h.run pins s σ H Dn I hs hm lk⟩
def tET (X : Cx) (Hb : Hp) (e : Expr) : TE := fun σ H Q => ∃ Γ M P, Tx Hb H ∧ SIs H σ Γ ∧ RelM H M ∧ WET X Hb e Γ M P ∧ ∀ v H', PostE H P v H' → Q v H'
theorem pe_t : PE X e (tET X Hb e) := ⟨fun pins s σ H Q I ⟨Γ, M, P, t, hs, hm, h, k⟩ => thn (h.run pins s σ H t I hs hm) fun u s' ⟨v, H', I', r, q⟩ => ⟨v, H', I', r, k v H' q⟩⟩
def tST (X : Cx) (Hb : Hp) (st : Stmt) : TS := fun Dn σ H => ∃ Γ M E, Tx Hb H ∧ SIs H σ Γ ∧ RelM H M ∧ WST X Hb st Γ M E ∧ Lk H E Dn
def tSsT (X : Cx) (Hb : Hp) (st : List Stmt) : TS := fun Dn σ H => ∃ Γ M E, Tx Hb H ∧ SIs H σ Γ ∧ RelM H M ∧ WSsT X Hb st Γ M E ∧ Lk H E Dn
theorem ps_t {st : Stmt} : PS X st (tST X Hb st) := ⟨fun pins s σ H Dn I ⟨Γ, M, E, t, hs, hm, h, k⟩ => h.run pins s σ H Dn t I hs hm k⟩
theorem pss_t {st : List Stmt} : PSs X st (tSsT X Hb st) := ⟨fun pins s σ H Dn I ⟨Γ, M, E, t, hs, hm, h, k⟩ => h.run pins s σ H Dn t I hs hm k⟩
theorem wsst_cons {st : Stmt} {rest : List Stmt} (h : WST X Hb st Γ M { E with nx := fun Γ1 M1 => WSsT X Hb rest Γ1 M1 E }) : WSsT X Hb (st :: rest) Γ M E :=
  ⟨fun pins s σ H Dn t I hs hm lk => (pss_cons (ps_t (Hb := Hb)) (pss_t (Hb := Hb))).run pins s σ H Dn I ⟨Γ, M, _, t, hs, hm, h, ⟨fun σ' H' Γ' M' t' s m p => ⟨Γ', M', E, t.trans t', s, m, p, lk.tr t'⟩, lk.rt, lk.bk, lk.ct⟩⟩⟩
theorem wsst_one {st : Stmt} (h : WST X Hb st Γ M E) : WSsT X Hb [st] Γ M E :=
  ⟨fun pins s σ H Dn t I hs hm lk => (pss_one (ps_t (Hb := Hb))).run pins s σ H Dn I ⟨Γ, M, E, t, hs, hm, h, lk⟩⟩
theorem wst_expr (h : WET X Hb e Γ M fun _ M1 => E.nx Γ M1) (hsw : swapsWith e none pos.line X.env = pure false := by rfl) : WST X Hb (.Expr e pos) Γ M E :=
  ⟨fun pins s σ H Dn t I hs hm lk => (ps_expr (pe_t (Hb := Hb)) hsw).run pins s σ H Dn I ⟨Γ, M, _, t, hs, hm, h, fun v H' ⟨d, M', t', r, m, p⟩ => lk.nx σ H' Γ M' t' (hs.mono t') m p⟩⟩
/-- if e is not None -/
theorem wst_ifNN {a b : List Stmt} {c : Expr} (h : WET X Hb e Γ M fun d M1 => (isN d = false → WSs X a Γ M1 E) ∧ (isN d = true → WSs X b Γ M1 E)) {j : Nat} {cp np : Pos} (hc : c = .Compare e [.IsNot] [.Constant .none j np] cp) : WST X Hb (.If c a b pos) Γ M E := by
  subst hc
  refine ⟨fun pins s σ H Dn t I hs hm lk => (ps_if (pt_cmpR op_notN (pe_t (Hb := Hb)) pe_non (nomark _)) pss_w pss_w).run pins s σ H Dn I ⟨Γ, M, _, t, hs, hm, h, fun v H' ⟨d, M', t', r, m, p, q⟩ => ?_⟩⟩
  refine ⟨rfl, _, rfl, ?_⟩
  rw [isN_of r]
  cases e : isN d with
  | false => exact ⟨Γ, M', E, hs.mono t', m, p e, lk.tr t'⟩
  | true => exact ⟨Γ, M', E, hs.mono t', m, q e, lk.tr t'⟩
end
end DL

set_option Elab.async false
set_option linter.all false
set_option maxRecDepth 100000
set_option maxHeartbeats 4000000
/-! DLv: calls that may let an exception out, raise, try, by data. -/
namespace DL
open PySem PySem.Spec PyProof.Rows L2
/-- a def's wish about exceptions: nothing is asked of its slots -/
def wxF (Wd : XD) : WX := fun cls d _ H => ∃ M, RelM H M ∧ Wd cls d M
section
variable {X : Cx} {H : Hp} {Γ : Sl} {M : Mem} {P : PD} {pos p apos : Pos} {e o : Expr} {es : List Expr} {x : Str} {E : DE} {Hb : Hp} {R : XD}
/-- what a callee lets out, by R, is taken -/
def Air (X : Cx) (Hb : Hp) (Γ : Sl) (R : XD) : Prop := ∀ (σ : L2.St) (H : Hp), Tx Hb H → SIs H σ Γ → PassesAt (L2N.CX X.prog X.w) X σ (fun cls d H' => ∃ M', Tx H H' ∧ RelM H' M' ∧ R cls d M')
theorem air0 : Air X Hb Γ R0 := fun σ H _ _ pins H1 s e s' I ⟨a, B, H', cls, d, _, _, _, _, _, _, _, M', _, _, z⟩ => z.elim
theorem airS {Wd : XS} (tk : L2N.Takes X (wx Hb Wd)) (h : ∀ cls d M', R cls d M' → Wd cls d Γ M') : Air X Hb Γ R := fun σ H t hs pins H1 s e s' I c =>
  tk e s' (L2N.XE.of_call I (W := wx Hb Wd) (E := fun cls d H' => ∃ M', Tx H H' ∧ RelM H' M' ∧ R cls d M') (fun cls d H' ⟨M', t', m, r⟩ => ⟨Γ, M', t.trans t', hs.mono t', m, h cls d M' r⟩) c)
theorem airF {Wd : XD} (tk : L2N.Takes X (wxF Wd)) (h : ∀ cls d M', R cls d M' → Wd cls d M') : Air X Hb Γ R := fun σ H t hs pins H1 s e s' I c =>
  tk e s' (L2N.XE.of_call I (W := wxF Wd) (E := fun cls d H' => ∃ M', Tx H H' ∧ RelM H' M' ∧ R cls d M') (fun cls d H' ⟨M', t', m, r⟩ => ⟨M', m, h cls d M' r⟩) c)
theorem WE.ofT (h : ∀ Hb, WET X Hb e Γ M P) : WE X e Γ M P := ⟨fun pins s σ H I hs hm => (h H).run pins s σ H (Tx.refl H) I hs hm⟩
theorem WS.ofT {st : Stmt} (h : ∀ Hb, WST X Hb st Γ M E) : WS X st Γ M E := ⟨fun pins s σ H Dn I hs hm lk => (h H).run pins s σ H Dn (Tx.refl H) I hs hm lk⟩
theorem liftX {sp : DSp} {Q : VK} {ds : List D} {vs : List V} {H0 H1 : Hp} {E1 : XK} (t : Tx H0 H1) (r : IsL H1 ds vs) (hm : RelM H1 M) (h : sp ds M P R) (k : ∀ v H', PostE H0 P v H' → Q v H') (hE : ∀ cls d H' M', Tx H1 H' → RelM H' M' → R cls d M' → E1 cls d H') : lift sp vs H1 Q E1 :=
  ⟨ds, M, P, R, r, hm, h, fun v H' ⟨d, M', t', r', m', p'⟩ => k v H' ⟨d, M', t.trans t', r', m', p'⟩, hE⟩
/-- f(e, ..) -/
theorem wet_call {k j : Nat} {ps : List Str} {sp : DSp} (G : DefOk X.prog X.w X.K X.mg X.base (L2N.CX X.prog X.w) k x ps sp) (R : XD) (air : Air X Hb Γ R) (hr : Room j X.A) (h : WA X (e :: es) Γ M fun ds M1 => sp ds M1 P R) (hk : k ≤ j := by decide) (hg : Gl X x := by rfl)
    (hdb : (x == ("__debug__" : Str)) = false := by decide) (he : starEach (e :: es) X.env = (false, eval e X.env) :: starEach es X.env := by rfl) (hpl : (backTo pos (starEach es X.env)).any (·.1) = false := by rfl) : WET X Hb (.Call (.Name x p) (e :: es) [] pos) Γ M P := by
  obtain ⟨f, fd, g1, g2, g3, g4⟩ := G.ex
  refine ⟨fun pins s σ H tb I hs hm => ?_⟩
  refine wpAny_Call_Name_kw (ld_glob I hg g1 ?_ hdb)
  refine PySem.W.callWith_K (h₀ := X.base) I.ok.mod.kin g2 (thn (h.run pos pins s σ H I hs hm) fun us s1 ⟨vs, H1, I1, r, ds, M1, t, r1, m1, q⟩ => ⟨I1.kIn, ?_⟩) he hpl
  refine run_fnSD (E := fun _ => fun cls d H' => ∃ M', Tx H1 H' ∧ RelM H' M' ∧ R cls d M') (dvs := []) (ds := []) g4 (hr.mono hk) g3 .nil (air σ H1 (tb.trans t) (hs.mono t)) I1 r ?_
  rw [List.append_nil]
  exact liftX t r1 m1 q (fun _ _ z => z) fun cls d H' M' t' m' r' => ⟨M', t', m', r'⟩
/-- o.m(e, ..) -/
theorem wet_meth {k j : Nat} {C : Addr} {m : Str} {ps : List Str} {sp : DSp} {pl : Sem Bool} (G : MethOk X.prog X.w X.K X.mg X.base (L2N.CX X.prog X.w) k C m ps sp) (cl : Cls X.K C) (R : XD) (air : Air X Hb Γ R) (hr : Room j X.A)
    (h : WE X o Γ M fun d M1 => ∃ a fs, d = .ref a ∧ M1 a = some (.ins C fs) ∧ fs.lookup m = none ∧ WA X (e :: es) Γ M1 fun ds M2 => sp (.ref a :: ds) M2 P R) (hk : k ≤ j := by decide)
    (hst : starEach (e :: es) X.env = (false, eval e X.env) :: starEach es X.env := by rfl) (hpl : (backTo pos (starEach es X.env)).any (·.1) = false := by rfl)
    (ht : eval (.Call (.Attribute o m apos) (e :: es) [] pos) X.env = (do
      let ov ← eval o X.env
      standAt apos.atName
      let (f, first) ← holding [ov] (getMethod ov m pl)
      callWith pos f first (backTo pos (starEach (e :: es) X.env)) (backToKw pos (keywordEach [] X.env))) := by rfl) : WET X Hb (.Call (.Attribute o m apos) (e :: es) [] pos) Γ M P := by
  obtain ⟨f, fd, g1, g2, g3⟩ := G.ex
  refine ⟨fun pins s σ H tb I hs hm => ?_⟩
  refine PySem.W.methodCall_KW (pl := pl) (thn (h.run pins s σ H I hs hm) fun u s1 ⟨v, H1, I1, rv, d, M1, t, r1, m1, a, fs, ed, ha, hl, q⟩ => ?_) ht
  subst ed
  cases r1
  obtain rfl : u = Value.ref a := rv
  obtain ⟨dx, us, h1, h2⟩ := m1 a _ ha
  refine getmeth_ok I1 h1 cl g1 ((lookup_of _ h2).2 hl) ?_
  refine PySem.W.callWith_K (first := [.ref a]) (h₀ := X.base) I.ok.mod.kin g1.kp (thn (q.run pos pins s1 σ H1 I1 (hs.mono t) m1) fun us s2 ⟨vs, H2, I2, r, ds, M2, t2, r2, m2, q2⟩ => ⟨I2.kIn, ?_⟩) hst hpl
  refine run_fnSD (us := .ref a :: us) (vs := .ref a :: vs) (E := fun _ => fun cls d H' => ∃ M', Tx H2 H' ∧ RelM H' M' ∧ R cls d M') (dvs := []) (ds := []) g3 (hr.mono hk) g2 .nil (air σ H2 (tb.trans (t.trans t2)) ((hs.mono t).mono t2)) I2 (.cons rfl r) ?_
  rw [List.append_nil]
  exact liftX (t.trans t2) (.cons (.ref a) r2) m2 q2 (fun _ _ z => z) fun cls d H' M' t' m' r' => ⟨M', t', m', r'⟩
/-- o.m() -/
theorem wet_meth0 {k j : Nat} {C : Addr} {m : Str} {ps : List Str} {sp : DSp} {pl : Sem Bool} (G : MethOk X.prog X.w X.K X.mg X.base (L2N.CX X.prog X.w) k C m ps sp) (cl : Cls X.K C) (R : XD) (air : Air X Hb Γ R) (hr : Room j X.A)
    (h : WE X o Γ M fun d M1 => ∃ a fs, d = .ref a ∧ M1 a = some (.ins C fs) ∧ fs.lookup m = none ∧ sp [.ref a] M1 P R) (hk : k ≤ j := by decide)
    (ht : eval (.Call (.Attribute o m apos) [] [] pos) X.env = (do
      let ov ← eval o X.env
      standAt apos.atName
      let (f, first) ← holding [ov] (getMethod ov m pl)
      callWith pos f first (backTo pos (starEach [] X.env)) (backToKw pos (keywordEach [] X.env))) := by rfl) : WET X Hb (.Call (.Attribute o m apos) [] [] pos) Γ M P := by
  obtain ⟨f, fd, g1, g2, g3⟩ := G.ex
  refine ⟨fun pins s σ H tb I hs hm => ?_⟩
  refine PySem.W.methodCall_KW (pl := pl) (thn (h.run pins s σ H I hs hm) fun u s1 ⟨v, H1, I1, rv, d, M1, t, r1, m1, a, fs, ed, ha, hl, q⟩ => ?_) ht
  subst ed
  cases r1
  obtain rfl : u = Value.ref a := rv
  obtain ⟨dx, us, h1, h2⟩ := m1 a _ ha
  refine getmeth_ok I1 h1 cl g1 ((lookup_of _ h2).2 hl) ?_
  refine PySem.W.callWith_K0 (first := [.ref a]) I1.kIn g1.kp ?_
  refine run_fnSD (us := [.ref a]) (vs := [.ref a]) (E := fun _ => fun cls d H' => ∃ M', Tx H1 H' ∧ RelM H' M' ∧ R cls d M') (dvs := []) (ds := []) g3 (hr.mono hk) g2 .nil (air σ H1 (tb.trans t) (hs.mono t)) I1 (.cons rfl .nil) ?_
  rw [List.append_nil]
  exact liftX t (.cons (.ref a) .nil) m1 q (fun _ _ z => z) fun cls d H' M' t' m' r' => ⟨M', t', m', r'⟩
/-- C(e, ..) -/
theorem wet_make {k j : Nat} {C : Addr} {ps : List Str} {sp : DSp} (G : MkOk X.prog X.w X.K X.mg X.base (L2N.CX X.prog X.w) k x C ps sp) (R : XD) (air : Air X Hb Γ R) (hr : Room j X.A) (h : WA X (e :: es) Γ M fun ds M1 => ∀ a, M1 a = none → sp (.ref a :: ds) (put M1 a (.ins C [])) (fun d M2 => d = .non ∧ P (.ref a) M2) R) (hk : k + 1 ≤ j := by decide) (hg : Gl X x := by rfl)
    (hdb : (x == ("__debug__" : Str)) = false := by decide) (he : starEach (e :: es) X.env = (false, eval e X.env) :: starEach es X.env := by rfl) (hpl : (backTo pos (starEach es X.env)).any (·.1) = false := by rfl) : WET X Hb (.Call (.Name x p) (e :: es) [] pos) Γ M P := by
  obtain ⟨f, fd, g1, g2, g3, g4⟩ := G.ex
  refine ⟨fun pins s σ H tb I hs hm => ?_⟩
  refine wpAny_Call_Name_kw (ld_glob I hg g1 ?_ hdb)
  refine PySem.W.callWith_K (h₀ := X.base) I.ok.mod.kin g2.kp (thn (h.run pos pins s σ H I hs hm) fun us s1 ⟨vs, H1, I1, r, ds, M1, t, r1, m1, q⟩ => ⟨I1.kIn, ?_⟩) he hpl
  have hr2 := hr.mono hk
  have hx0 : H1 (s1.heap.objs.size + 1) = none := I1.hok.fresh (Nat.le_succ _)
  have hd0 : H1 s1.heap.objs.size = none := I1.hok.fresh (Nat.le_refl _)
  have ne0 : s1.heap.objs.size ≠ s1.heap.objs.size + 1 := Nat.ne_of_lt (Nat.lt_succ_self _)
  obtain ⟨t1, m1'⟩ := made_rel (C := C) m1 hx0 hd0 ne0
  have hq : lift sp (V.ref (s1.heap.objs.size + 1) :: vs) (upd (upd H1 s1.heap.objs.size (.own (s1.heap.objs.size + 1))) (s1.heap.objs.size + 1) (.ins C s1.heap.objs.size [])) (fun v H2 => v = .non ∧ PostE H P (.ref (s1.heap.objs.size + 1)) H2)
      (fun cls d H' => ∃ M', Tx (upd (upd H1 s1.heap.objs.size (.own (s1.heap.objs.size + 1))) (s1.heap.objs.size + 1) (.ins C s1.heap.objs.size [])) H' ∧ RelM H' M' ∧ R cls d M') :=
    liftX (H0 := upd (upd H1 s1.heap.objs.size (.own (s1.heap.objs.size + 1))) (s1.heap.objs.size + 1) (.ins C s1.heap.objs.size [])) (Tx.refl _) (.cons (.ref _) (r1.mono t1)) m1' (q _ (m1.free hx0)) (fun v H' ⟨d, M', t', r', m', e', p'⟩ => by
      subst e'
      cases r'
      exact ⟨rfl, .ref _, M', (t.trans t1).trans t', .ref _, m', p'⟩) fun cls d H' M' t' m' r' => ⟨M', t', m', r'⟩
  have I2 := Inv.made (C := C) I1
  have r2 : Vals (V.ref (s1.heap.objs.size + 1) :: vs) (Value.ref (s1.heap.objs.size + 1) :: us) := .cons rfl r
  have hl : (Value.ref (s1.heap.objs.size + 1) :: us).length = ps.length := by
    have e := r2.length
    rw [g4.len _ _ _ _ hq] at e
    exact e.symm
  have bb := g3 _ (Value.ref (s1.heap.objs.size + 1) :: us) I2.kIn (by rw [List.append_nil]; exact hl)
  rw [List.append_nil] at bb
  refine wpAny_call (make_map (f := f) I1.kIn g2.makes g2.init (beq_iff_eq.mp g2.fn) (codeAny_mono (g4.run _ X.stack _ _ ⟨Value.ref (s1.heap.objs.size + 1) :: us, []⟩ (Value.ref (s1.heap.objs.size + 1) :: us) _ _ _ (hr2.make C us [])
    (I2.env0.make C us []) bb r2 hq) fun r s' hq' => ?_))
  cases r with
  | error er => exact air σ _ (tb.trans (t.trans t1)) ((hs.mono t).mono t1) pins _ _ er s' I2 hq'
  | ok fl =>
    cases fl with
    | ret u =>
      obtain ⟨v, H', I3, rv, ev, q3⟩ := I2.after hq'
      subst ev
      exact ⟨rv, ⟨V.ref (s1.heap.objs.size + 1), H', I3, rfl, q3⟩⟩
    | next => exact False.elim hq'
    | brk => exact False.elim hq'
    | cont => exact False.elim hq'
end
/-! ### a def that may raise -/
section
variable {P : Program} {w : World} {K : PySem.W.Frag} {mg : Str → Option Value} {base : Heap}
theorem fn_okX {x qual : Str} {params : Arguments} {body : List Stmt} {scope : Scope} {f : Addr} {fd : FuncData} {N ps : List Str} {k : Nat} {sp : DSp} (F : FunD K x qual params body scope [] [] f fd) (S : FnScope N ps scope) (len : ∀ ds M P R, sp ds M P R → ds.length = ps.length)
    (hbody : ∀ (cdv : Value) (A : Around) (outer : List Env) (s : Shared) (H : Hp) (E : XK) (ds : List D) (M : Mem) (Q : PD) (R : XD), Room k (cxOf (L2N.CX P w) P w K mg base N qual scope f cdv A outer s H E).A → sp ds M Q R →
      L2N.Takes (cxOf (L2N.CX P w) P w K mg base N qual scope f cdv A outer s H E) (wxF fun cls d M' => ∃ M2, Sub M2 M' ∧ R cls d M2) →
      WSs (cxOf (L2N.CX P w) P w K mg base N qual scope f cdv A outer s H E) body (start N ds) M { nx := fun _ M' => ∃ M2, Sub M2 M' ∧ Q .non M2, rt := fun d M' => ∃ M2, Sub M2 M' ∧ Q d M2 }) : FnOk P w K mg base (L2N.CX P w) (k + 1) f fd ps (lift sp) := by
  refine F.ok S (fun vs H Q E ⟨ds, M, P, R, r, hm, h, _⟩ => by rw [← r.length]; exact len _ _ _ _ h) fun cdv A outer s H vs Q E hr ⟨ds, M, P', R, r, hm, h, k1, k2⟩ => ?_
  have tk : L2N.Takes (cxOf (L2N.CX P w) P w K mg base N qual scope f cdv A outer s H E) (wxF fun cls d M' => ∃ M2, Sub M2 M' ∧ R cls d M2) :=
    takes_tx ((L2N.takes_of rfl rfl rfl rfl).imp fun cls d σ H' ⟨t, M', m', M2, su, r'⟩ => k2 cls d H' M2 t (m'.sub su) r')
  refine ⟨_, pss_w, start N ds, M, _, SIs.start r N, hm, hbody cdv A outer s H E ds M P' R hr h tk, ?_⟩
  exact ⟨fun σ' H' Γ' M' t s' m' ⟨M2, su, q⟩ => k1 .non H' ⟨.non, M2, t, .non, m'.sub su, q⟩, fun v H' d M' t r' m' ⟨M2, su, q⟩ => k1 v H' ⟨d, M2, t, r', m'.sub su, q⟩, fun _ _ _ _ _ _ _ z => z.elim, fun _ _ _ _ _ _ _ z => z.elim⟩
end
/-! ### raise -/
/-- the dict of an own exception, by data -/
def excD (names : List Str) (ds : List D) : List (Str × D) := (names.zip ds).reverse
theorem paired_app {α β : Type} {R : α → β → Prop} : ∀ {l l2 : List α} {m m2 : List β}, Paired R l m → Paired R l2 m2 → Paired R (l ++ l2) (m ++ m2)
  | _, _, _, _, .nil, h => h
  | _, _, _, _, .cons h t, h2 => .cons h (paired_app t h2)
theorem paired_rev {α β : Type} {R : α → β → Prop} : ∀ {l : List α} {m : List β}, Paired R l m → Paired R l.reverse m.reverse
  | _, _, .nil => .nil
  | _, _, .cons h t => by
    rw [List.reverse_cons, List.reverse_cons]
    exact paired_app (paired_rev t) (.cons h .nil)
theorem excKV {H : Hp} : ∀ {names : List Str} {ds : List D} {ws : List V}, IsL H ds ws → IsKV H (names.zip ds) (names.zip ws)
  | [], _, _, _ => .nil
  | _ :: _, _, _, .nil => by rw [List.zip_nil_right, List.zip_nil_right]; exact .nil
  | n :: ns, _, _, .cons h t => .cons ⟨rfl, h⟩ (excKV t)
/-- what is known of an own exception's class and init -/
structure ExOk (P : Program) (w : World) (K : PySem.W.Frag) (mg : Str → Option Value) (base : Heap) (CX : CXT) (k : Nat) (x : Str) (C : Addr) (names : List Str) : Prop where
  ex : ∃ fI fd ps, OexC K C ∧ PySem.W.findIn K (.ref C) "__init__" = some (some (.ref fI)) ∧ PySem.W.typeIn K (.ref fI) = some (.type "function") ∧ mg x = some (.ref C) ∧ Binds K fd ps [] ∧ FnOk P w K mg base CX k fI fd ps (spExc C names)
section
variable {X : Cx} {H : Hp} {Γ : Sl} {M : Mem} {pos p pos' : Pos} {e : Expr} {es : List Expr} {x : Str} {E : DE} {W : WX}
theorem ws_raise {k j : Nat} {C : Addr} {names : List Str} (G : ExOk X.prog X.w X.K X.mg X.base (L2N.CX X.prog X.w) k x C names) (hc : X.calm = true) {Wd : XD} (tk : L2N.Takes X (wxF Wd)) (hr : Room j X.A)
    (h : WA X (e :: es) Γ M fun ds M1 => ds.length = names.length ∧ ds.length ≤ 1000 ∧ ∀ d, M1 d = none → Wd (.ref C) (some d) (put M1 d (.xd (excD names ds)))) (hk : k + 1 ≤ j := by decide) (hg : Gl X x := by rfl)
    (hdb : (x == ("__debug__" : Str)) = false := by decide) (he : starEach (e :: es) X.env = (false, eval e X.env) :: starEach es X.env := by rfl) (hpl : (backTo pos (starEach es X.env)).any (·.1) = false := by rfl) : WS X (.Raise (some (.Call (.Name x p) (e :: es) [] pos)) none pos') Γ M E := by
  obtain ⟨fI, fd, ps, T, iC, tI, gm, hb, F⟩ := G.ex
  refine ⟨fun pins s σ H Dn I hs hm lk => (L2N.ps_raise hc tk (pmk_oexN (CX := L2N.CX X.prog X.w) T iC tI F (hr.mono hk) hb (L2N.passes_call (W := fun _ _ _ _ => False) (fun u s' ⟨_, _, _, _, _, _, _, _, _, _, _, _, _, _, _, _, z⟩ => z.elim) fun _ _ _ _ z => z) hg gm pa_w hdb he hpl)).run pins s σ H Dn I ?_⟩
  refine twa h hs hm fun vs H1 ds M1 t r m ⟨hl, hz, q⟩ => ⟨by rw [← r.length]; exact hz, fun a ha => ⟨a, vs, by rw [List.append_nil], by rw [← r.length]; exact hl, upd_same, fun d H' hd hne ha' hd' hk' => ⟨rfl, d, _, ha', hd', by rw [upd_ne hne] at hd; exact hd, ?_⟩⟩⟩
  have hd1 : H1 d = none := by rw [upd_ne hne] at hd; exact hd
  have keep : ∀ b o, H1 b = some o → upd (del H' a) d (HO.xd (excF names vs)) b = some o := fun b o e => by
    have n1 : b ≠ a := fun z => by rw [z, ha] at e; cases e
    have n2 : b ≠ d := fun z => by rw [z, hd1] at e; cases e
    rw [upd_ne n2, del_ne n1, hk' b n1 n2, upd_ne n1]
    exact e
  have tx : Tx H1 (upd (del H' a) d (.xd (excF names vs))) := .of fun b o e _ => keep b o e
  refine ⟨put M1 d (.xd (excD names ds)), fun b mo e => ?_, q d (m.free hd1)⟩
  by_cases hb2 : b = d
  · subst hb2
    rw [put_same] at e
    cases e
    exact ⟨_, upd_same, paired_rev (excKV (r.mono tx))⟩
  · rw [put_ne hb2] at e
    exact (m b mo e).mono tx fun o e' => keep b o e'
end
/-! ### try -/
section
variable {X : Cx} {H : Hp} {Γ : Sl} {M : Mem} {E : DE} {x n : Str} {c : Value} {body suite : List Stmt} {b₀ : Stmt} {np pos pos' : Pos}
def DE.un (E : DE) (i : Nat) : DE := { nx := fun Γ2 M2 => E.nx (Γ2.set i none) M2, rt := E.rt, bk := fun Γ2 M2 => E.bk (Γ2.set i none) M2, ct := fun Γ2 M2 => E.ct (Γ2.set i none) M2 }
/-- try: body; except x as n: suite; every exception of the body is an x -/
theorem ws_try_as (i : Nat) (Wd : XS) (hs : X.stack = X.env :: X.outer) (hf : X.env.frame = some X.env.locals) (nd : X.N.Nodup) (hc : Names X x c)
    (hb : ∀ (Hb : Hp) (pn : List (Addr × Obj)) (xe : Value → Shared → Prop), L2N.Takes (X.tr pn xe) (wx Hb Wd) → PassesOwn (model X.prog X.w) X.A X.env xe → WSsT (X.tr pn xe) Hb body Γ M E)
    (hsu : ∀ cls d Γ' M', Wd cls d Γ' M' → PySem.W.exmOne X.K cls c = some true ∧ ∀ (a : Addr) (oe : Obj) (pn : List (Addr × Obj)), M' a = none → L2N.Zn cls d oe → (∃ vs, oe.data = .fields vs) → WSs (X.suite a ((a, oe) :: pn)) (b₀ :: suite) (Γ'.set i (some (.ref a))) M' (E.un i))
    (hi : X.N[i]? = some n := by rfl) (hln : X.env.kindOf n = some .local := by rfl) :
    WS X (.Try body [.ExceptHandler (some (.Name x np)) (some n) (b₀ :: suite) pos'] [] [] pos) Γ M E := by
  let tb : WX → TS := fun W Dn σ H => SIs H σ Γ ∧ RelM H M ∧ Lk H E Dn ∧ ∀ cls d σ' H', wx H Wd cls d σ' H' → W cls d σ' H'
  let ts : Addr → Value → Option Addr → TS := fun a cls d Dn σ H => ∃ Γ' M', Wd cls d Γ' M' ∧ SIs H σ (Γ'.set i (some (.ref a))) ∧ RelM H M' ∧ M' a = none ∧ Lk H (E.un i) Dn
  have key := L2N.ps_try_as (X := X) (x := x) (n := n) (c := c) (i := i) (body := body) (suite := suite) (b₀ := b₀) (np := np) (pos := pos) (pos' := pos') (tb := tb) (ts := ts) (Wout := fun _ _ _ _ => False) hs hf nd hi hln hc (fun u s' ⟨_, _, _, _, _, _, _, _, _, _, _, _, _, _, _, _, z⟩ => z.elim)
    (fun W pn xe tk ps => ⟨fun pins s σ H Dn I ⟨h1, h2, h3, h4⟩ => (hb H pn xe (tk.imp h4) ps).run pins s σ H Dn (Tx.refl H) I h1 h2 h3⟩)
    (fun a oe cls d pn hz hfs => ⟨fun pins s σ H Dn I ⟨Γ', M', hw, h1, h2, h3, h4⟩ => ((hsu cls d Γ' M' hw).2 a oe pn h3 hz hfs).run pins s σ H Dn I h1 h2 h4⟩)
  refine ⟨fun pins s σ H Dn I hs' hm lk => key.run pins s σ H Dn I ⟨hs', hm, lk, fun cls d σ' H' ⟨Γ', M', t, s', m', hw⟩ => ?_⟩⟩
  refine ⟨true, (hsu cls d Γ' M' hw).1, fun _ a ha => ⟨Γ', M', hw, s'.set (.ref a), m', m'.free ha, ?_⟩, fun z => nomatch z⟩
  have L := lk.tr t
  exact ⟨fun σ2 H2 Γ2 M2 t2 s2 m2 q => L.nx _ H2 _ M2 t2 s2.unset m2 q, L.rt, fun σ2 H2 Γ2 M2 t2 s2 m2 q => L.bk _ H2 _ M2 t2 s2.unset m2 q, fun σ2 H2 Γ2 M2 t2 s2 m2 q => L.ct _ H2 _ M2 t2 s2.unset m2 q⟩
end
end DL

set_option Elab.async false
set_option linter.all false
set_option maxRecDepth 100000
set_option maxHeartbeats 4000000
/-! DLz: the suite of an except clause, by data: fields, isinstance, calls, for over a range. -/
namespace PySem.W
open PySem PySem.Spec PySem.Calls PyProof.Rows
section
variable {prog : Program} {w : World} {A : Around} {E : Value → Shared → Prop} {s : Shared} {K : Frag} {x D : Addr} {ox : Obj} {od : Option Obj}
theorem dl_findObj_data {C : Addr} {name : Str} {a g : Value} (hc : (clsIn K C).isSome = true) (ha : findIn K (.ref C) name = some (some a)) (hg : specialIn K a "__get__" = some (some g)) (ht : takesIn K a = some true) : findObj K C od name = some (.bind g a) := by
  obtain ⟨cd, hc⟩ := Option.isSome_iff_exists.mp hc
  unfold findObj
  rw [hc, Option.bind_some, ha, Option.bind_some]
  simp [hg, ht]
/-- e.__class__, e an exception of an own class with or without a dict -/
theorem dl_kin_class {Q : Option Value → Shared → Prop} (C : L2.ExcC K D) (X : K.In s.heap) (I : InstAt s.heap x ox D od) (h : Q (some (.ref D)) { s with toks := s.toks + 1 }) : wpAny (model prog w) A (getAttr? (.ref x) "__class__") Q E s := by
  have hf : findObj K D od "__class__" = some (.bind (.builtin "getset_descriptor.__get__") (.builtin "object.__class__")) := dl_findObj_data (by obtain ⟨cd, hc, _⟩ := any_some C.hd; rw [hc]; rfl) C.ha C.hn C.ht
  obtain ⟨hp, g, d, t, os⟩ := s
  have L0 := I.type (M := model prog w)
  have L1 := looks_findIn (M := model prog w) X C.hg
  have L2 := looks_findIn (M := model prog w) X C.hk
  have L3 := looks_find (M := model prog w) X I hf
  have sub : Looks (model prog w) hp (isInstance (.ref x) (.type "BaseException")) true := L0.andThen (looks_subIn X C.hs)
  have hx0 : (false && onTheHeap (Value.builtin "BaseException.__getattribute__")) = false := rfl
  have hx1 : (onTheHeap (Value.ref D) && Value.builtin "BaseException.__getattribute__" == Value.builtin "object.__getattribute__") = false := by
    rw [show (Value.builtin "BaseException.__getattribute__" == Value.builtin "object.__getattribute__") = false by decide +kernel]
    rfl
  unfold getAttr? getAttrBy? getAttrBy
  refine wpAny_bind (wpAny_mkText (wpAny_bind (wpAny_attempt (wpAny_holding (wpAny_bind (L0.at (wpAny_bind (L1.at ?_))))))))
  show wpAny _ _ (if (onTheHeap (Value.ref D) && Value.builtin "BaseException.__getattribute__" == Value.builtin "object.__getattribute__") = true then _ else _) _ _ _
  rw [hx1, if_neg Bool.false_ne_true]
  unfold getAttrByItsOwn hookBefore
  refine wpAny_bind ?_
  rw [if_pos (show onTheHeap (Value.ref D) = true from rfl)]
  refine L2.at ?_
  refine wpAny_bind (wpAny_attempt (wpAny_holding ?_))
  unfold callGetattribute
  rw [hx0, if_neg Bool.false_ne_true]
  unfold boundAndCalled
  rw [PySem.F.excAttr_ValueError.ga.bind (.ref x)]
  refine wpAny_bind (wpAny_pure ?_)
  show wpAny _ _ (call (.builtin "BaseException.__getattribute__") [.ref x, .str "__class__" t]) _ _ _
  refine wpAny_call (codeAny_call_builtin PySem.F.excAttr_ValueError.ga.plain PySem.F.entry_bexc_ga ?_)
  refine @check_slot (model prog w) _ _ ⟨hp, g, d, t + 1, os⟩ "BaseException.__getattribute__" "BaseException" "__getattribute__" (.ref x) [.str "__class__" t] [] _ (by decide +kernel) (by decide +kernel) sub (PySem.F.args_bexc_ga (.ref x) (.str "__class__" t)) ?_
  unfold Builtin.«object.__getattribute__»
  refine wpAny_bind (wpAny_of_eq (a := ((Value.ref x : Value), [Value.str "__class__" t])) (by first | rfl | (simp only [slotArgs]; rfl)) ?_)
  refine wpAny_bind (wpAny_pure (wpAny_bind (L0.at (wpAny_bind (L3.at ?_)))))
  show wpAny _ _ (holding [Value.builtin "object.__class__"] (call (.builtin "getset_descriptor.__get__") [.builtin "object.__class__", .ref x, .ref D]) >>= ret) _ _ _
  refine wpAny_bind (wpAny_holding (wpAny_call (class_get (s := ⟨hp, g, d, t + 1, os⟩) (ox := ox) (od := od) X I C.hm ?_)))
  refine wpAny_pure ?_
  show wpAny _ _ (handedOut (.ref D)) _ _ _
  rw [handedOut_of (v := .ref D) rfl]
  first
    | exact wpAny_pure (wpAny_pure h)
    | exact wpAny_pure h
    | exact wpAny_pure (wpAny_bind (wpAny_pure (wpAny_pure h)))
theorem dl_kitx (C : L2.ExcC K D) : KitX K (.ref x) (.ref D) (fun h => InstAt h x ox D od) where
  ty := fun _ _ _ I => I.type
  it := fun _ _ X _ => by
    obtain ⟨cdD, hcD, _⟩ := any_some C.hd
    unfold clsIn at hcD
    split at hcD
    · rename_i c' d' cd' sl' ho
      intro A' Q' E' s' k q
      unfold isType loadHead
      exact wpAny_bind (wpAny_loadPart (k _ _ (X _ _ ho)) (wpAny_pure q))
    · cases hcD
  ne := fun h tp dd its n sl X htp => by
    obtain ⟨cdD, hcD, _⟩ := any_some C.hd
    refine Bool.eq_false_iff.mpr fun q => ?_
    have e : D = tp := Value.ref.inj (beq_iff_eq.mp q)
    subst e
    unfold clsIn at hcD
    split at hcD
    · rename_i c' d' cd' sl' ho
      have z := (X _ _ ho).symm.trans htp
      cases z
    · cases hcD
  ca := fun X I k => dl_kin_class C X I k
end
end PySem.W
namespace DL
open PySem PySem.Spec PyProof.Rows L2 HotX L2H
section
variable {X : Cx} {H : Hp} {Γ : Sl} {M : Mem} {P : PD} {pos p apos : Pos} {e : Expr} {es : List Expr} {x : Str} {E : DE} {a dd C : Addr} {oe : Obj} {pn : List (Addr × Obj)} {fs : List (Str × D)}
/-- e.f, e the caught exception -/
theorem we_xf {d : D} {n : Str} (T : XfC X.K C) (hno : PySem.W.findIn X.K (.ref C) n = some none) (hz : L2N.Zn (.ref C) (some dd) oe) (hf : ∃ vs, oe.data = .fields vs)
    (h : WE (X.suite a ((a, oe) :: pn)) e Γ M fun y M1 => y = .ref a ∧ M1 dd = some (.xd fs) ∧ fs.lookup n = some d ∧ P d M1) (hb : attributeBase e n X.env (eval e X.env) = eval e X.env := by rfl) : WE (X.suite a ((a, oe) :: pn)) (.Attribute e n pos) Γ M P :=
  we_of (pe_xf T hno hz.zc hf pe_w hb) fun σ H hs hm => tw h hs hm fun v H1 y M1 t r m ⟨ey, hx, hl, q⟩ => by
    subst ey
    cases r
    obtain ⟨vs, h1, h2⟩ := m dd _ hx
    obtain ⟨v, hv, rv⟩ := (lookup_of _ h2).1 d hl
    exact ⟨rfl, rfl, dd, vs, v, rfl, h1, hv, d, M1, t, rv, m, q⟩
/-- isinstance(e, c), e the caught exception, c a class -/
def BIsX (K : PySem.W.Frag) (C a dd : Addr) : BC := fun ds M P => ∃ (c : Addr) (b : Bool) (fs : List (Str × D)), ds = [.ref a, .ref c] ∧ M dd = some (.xd fs) ∧ PySem.W.kitOne K (.ref C) (.ref c) = some b ∧ P (.bl b) M
theorem cd_isX (I0 : ExcC X.K C) (hz : L2N.Zn (.ref C) (some dd) oe) (hf : ∃ vs, oe.data = .fields vs) : CaD (X.suite a ((a, oe) :: pn)) (.builtin "isinstance") (BIsX X.K C a dd) := by
  intro pins s σ H ds xs us M P I r hd hm ⟨c, b, fs, e, hx, hk, q⟩
  subst e
  obtain ⟨v, w', rfl, r1, r2⟩ := two_of hd
  cases r1
  cases r2
  cases r with
  | cons rx rr =>
    cases rr with
    | cons rt rr =>
      cases rr
      cases rx
      cases rt
      obtain ⟨hget, _⟩ := I.pin (a, oe) (List.mem_append.mpr (.inl List.mem_cons_self))
      obtain ⟨vs, hv⟩ := hf
      obtain ⟨us', h1, _⟩ := hm dd _ hx
      obtain ⟨mA, hns, _⟩ := (show ObjOk X.prog X.w H s.heap dd (.xd us') from I.hok dd _ h1)
      obtain ⟨od, ho, _⟩ := lookIn_ns hns
      have J : PySem.W.InstAt s.heap a oe C (some od) := ⟨hget, hz.1, by unfold PySem.W.notCls; rw [hv] <;> rfl, by rw [hz.2.1]; exact ho⟩
      exact PySem.W.kia_one (PySem.W.dl_kitx I0) I.kIn J hk (fun z => nomatch z) fun tk => ⟨.bl b, H, I.kept (t' := tk) fun _ _ z => z, rfl, .bl b, M, Tx.refl H, .bl b, hm, q⟩
theorem hot_suite {cls : Value} {d : Option Addr} (hz : L2N.Zn cls d oe) (hf : ∃ vs, oe.data = .fields vs) : HotC (X.suite a ((a, oe) :: pn)) := by
  obtain ⟨vs, hv⟩ := hf
  exact ⟨(a, oe), ⟨rfl, vs, hv, hz.2.2 vs hv⟩, List.mem_cons_self⟩
end
/-! ### defs called there -/
structure DefOkH (P : Program) (w : World) (K : PySem.W.Frag) (mg : Str → Option Value) (base : Heap) (k : Nat) (x : Str) (ps : List Str) (sp : DSp) : Prop where
  ex : ∃ f fd, mg x = some (.ref f) ∧ PySem.W.keepIn K (.ref f) = true ∧ Binds K fd ps [] ∧ FnH P w K mg base CX0 k f fd ps (lift sp)
section
variable {P : Program} {w : World} {K : PySem.W.Frag} {mg : Str → Option Value} {base : Heap}
theorem fn_okH {x qual : Str} {params : Arguments} {body : List Stmt} {scope : Scope} {f : Addr} {fd : FuncData} {N ps : List Str} {k : Nat} {sp : DSp} (F : FunD K x qual params body scope [] [] f fd) (S : FnScope N ps scope) (len : ∀ ds M P R, sp ds M P R → ds.length = ps.length)
    (hbody : ∀ (cdv : Value) (A : Around) (outer : List Env) (s : Shared) (H : Hp) (E : XK) (p : Addr × Obj) (ds : List D) (M : Mem) (Q : PD) (R : XD), RoomH k (cxH CX0 P w K mg base N qual scope f cdv A outer s H E p).nox.A → HotC (cxH CX0 P w K mg base N qual scope f cdv A outer s H E p).nox → sp ds M Q R →
      WSs (cxH CX0 P w K mg base N qual scope f cdv A outer s H E p).nox body (start N ds) M { nx := fun _ M' => ∃ M2, Sub M2 M' ∧ Q .non M2, rt := fun d M' => ∃ M2, Sub M2 M' ∧ Q d M2 }) : FnH P w K mg base CX0 (k + 1) f fd ps (lift sp) := by
  obtain ⟨oc, od, dV, kV, doc, pm, an, cdv, ct, osl, rfl, lk, hcd, _, _⟩ := F.ex
  refine fn_ofH lk hcd S (fun vs H Q E ⟨ds, M, P, R, r, hm, h, _⟩ => by rw [← r.length]; exact len _ _ _ _ h) fun A outer s H vs Q E p hot hr ⟨ds, M, P', R, r, hm, h, k1, k2⟩ => ?_
  refine ⟨_, PSs.nox pss_w, start N ds, M, _, SIs.start r N, hm, hbody cdv A outer s H E p ds M P' R hr ⟨p, hot, List.mem_cons_self⟩ h, ?_⟩
  exact ⟨fun σ' H' Γ' M' t s' m' ⟨M2, su, q⟩ => k1 .non H' ⟨.non, M2, t, .non, m'.sub su, q⟩, fun v H' d M' t r' m' ⟨M2, su, q⟩ => k1 v H' ⟨d, M2, t, r', m'.sub su, q⟩, fun _ _ _ _ _ _ _ z => z.elim, fun _ _ _ _ _ _ _ z => z.elim⟩
end
section
variable {X : Cx} {H : Hp} {Γ : Sl} {M : Mem} {P : PD} {pos p : Pos} {e : Expr} {es : List Expr} {x : Str} {E : DE} {sts : List Stmt} {tg : Expr}
theorem we_callH {k j : Nat} {ps : List Str} {sp : DSp} (G : DefOkH X.prog X.w X.K X.mg X.base k x ps sp) (hr : RoomH j X.A) (hc : HotC X) (h : WA X (e :: es) Γ M fun ds M1 => sp ds M1 P R0) (hk : k ≤ j := by decide) (hg : Gl X x := by rfl)
    (hdb : (x == ("__debug__" : Str)) = false := by decide) (he : starEach (e :: es) X.env = (false, eval e X.env) :: starEach es X.env := by rfl) (hpl : (backTo pos (starEach es X.env)).any (·.1) = false := by rfl) : WE X (.Call (.Name x p) (e :: es) [] pos) Γ M P := by
  obtain ⟨f, fd, g1, g2, g3, g4⟩ := G.ex
  refine we_of (pe_callH (E := fun _ => E0) g4 (hr.mono hk) hc hg g1 g2 g3 (fun σ pins H s e s' I z => pass0 pins σ H s e s' I z) pa_w hdb he hpl) fun σ H hs hm => twa h hs hm fun vs H1 ds M1 t r m p => ?_
  exact liftE _ t r m p fun _ _ z => z
/-- for x in range(e), in a suite -/
theorem ws_forRH (hp : PassesOwn (model X.prog X.w) X.A X.env X.xe) (hc : HotC X) (hr : X.mg "range" = none) (h : WE X e Γ M fun d M1 => ∃ n, d = .int n ∧ -(2 ^ 62) ≤ n ∧ n < 2 ^ 62 ∧ ∃ J : Nat → PS_, J 0 Γ M1 ∧
      (∀ i d Γ' M', (rg1 n)[i]? = some d → J i Γ' M' → WG X tg d Γ' M' fun Γ2 M2 => WSs X sts Γ2 M2 { nx := J (i + 1), ct := J (i + 1), bk := E.nx, rt := E.rt }) ∧ ∀ Γ' M', J (rg1 n).length Γ' M' → E.nx Γ' M')
    (hg : Gl X "range" := by rfl) (hs : starEach [e] X.env = (false, eval e X.env) :: starEach [] X.env := by rfl) (hs2 : starEach [e] X.env = [(false, eval e X.env)] := by rfl) {pos2 : Pos} (hfs : ∀ x, foldedSetIterable (.Call (.Name "range" p) [e] [] pos2) X.env x = pure x := by intro _; rfl) :
    WS X (.For tg (.Call (.Name "range" p) [e] [] pos2) sts [] pos) Γ M E :=
  ws_of (ps_forH hp hc (pi_range1H hg hr (pa_cons pe_w pa_nil hs) hs2) pg_w pss_w hfs) fun σ H Dn hs hm lk => tw h hs hm fun v H1 d M1 t r m ⟨n, ed, h1, h2, Jv, j0, jt, jd⟩ => by
    subst ed
    cases r
    refine ⟨n, rfl, h1, h2, ?_⟩
    obtain ⟨G, Y, w, wg, wy⟩ := walkD_range (H := H1) (lo := 0) (n := n.toNat)
    refine for_it w (fun i σ' H' => ∃ Γ' M', Tx H1 H' ∧ SIs H' σ' Γ' ∧ RelM H' M' ∧ Jv i Γ' M') ⟨Γ, M1, Tx.refl H1, hs.mono t, m, j0⟩ (fun i σ' H' hi ⟨Γ', M', t', s', m', j'⟩ => wg H' M' t' m' trivial) (fun i x σ' H' H2 hi ⟨Γ', M', t', s', m', j'⟩ y => ?_) fun σ' H' ⟨Γ', M', t', s', m', j'⟩ => lk.nx σ' H' Γ' M' (t.trans t') s' m' (jd Γ' M' j')
    obtain ⟨d, hd, r, t2, k2⟩ := wy i H' x H2 hi (wg H' M' t' m' trivial) y
    refine ⟨d, Γ', M', _, r, s'.mono t2, k2 M' m', jt i d Γ' M' hd j', fun σ3 H3 ⟨Γ3, M3, t3, s3, m3, b3⟩ => ⟨Γ3, M3, _, s3, m3, b3, ?_⟩⟩
    have T := (t'.trans t2).trans t3
    have L := lk.tr (t.trans T)
    exact ⟨fun σ4 H4 Γ4 M4 t4 s4 m4 p4 => ⟨Γ4, M4, T.trans t4, s4, m4, p4⟩, L.rt, L.nx, fun σ4 H4 Γ4 M4 t4 s4 m4 p4 => ⟨Γ4, M4, T.trans t4, s4, m4, p4⟩⟩
end
end DL

set_option Elab.async false
set_option linter.all false
set_option maxRecDepth 100000
set_option maxHeartbeats 4000000
/-! DGa: all, any of a generator expression whose elements are truth values; the generator's frame is a context of the layer. -/
namespace DL
open PySem PySem.Spec PyProof.Rows L2 NdefX GenW
/-- nothing that stood is changed -/
structure Slept0 (s s' : Shared) : Prop where
  os : s'.os = s.os
  bare : AllBare s'.gens
  keep : ∀ b o, s.heap.get? b = some o → s'.heap.get? b = some o
theorem Slept0.trans {s s1 s2 : Shared} (a : Slept0 s s1) (b : Slept0 s1 s2) : Slept0 s s2 := ⟨b.os.trans a.os, b.bare, fun x o e => b.keep x o (a.keep x o e)⟩
theorem inv_slept {Y : Cx} {pins : List (Addr × Obj)} {σ : L2.St} {H : Hp} {s s' : Shared} (I : Inv Y pins σ H s) (z : Slept0 s s') : Inv Y pins σ H s' :=
  I.call' (ch := []) z.os (Un.kept z.keep) (I.hok.kept z.keep) z.bare fun b h => by simp at h
/-- what is handed out: a truth value; the one that ends the walk tells the end -/
def GP (Y : Cx) (stop : Bool) (Qs : Hp → Prop) : Protocol := fun _ _ v s kap => ∃ b σ H ip, v = .bool b ∧ Inv Y ip σ H s ∧ (b = stop → Qs H) ∧ (b ≠ stop → ∀ s', Slept0 s s' → kap (.send .none) s')
def GR0 (Y : Cx) (Qe : Hp → Prop) : GenEnd := fun _ _ r s => ((r = .ok (.ret .none) ∨ r = .ok .next) ∧ ∃ σ H ip, Inv Y ip σ H s ∧ Qe H) ∨ ∃ e, r = .error e ∧ False
/-! ### one clause -/
section
variable {Y : Cx} {tg elt iter : Expr} {scope : Scope} {pos : Pos} {g : TG} {te : TE} {A : Around} {stop : Bool} {Qs Qe : Hp → Prop} {J : It} {fp : List Addr} {it : Addr} {tn : Nat → Heap → Prop}
/-- the generator begins -/
theorem seg_start {ifs : List Expr} {gens : List Comprehension} {n : Nat} {s₀ s : Shared} (T : Turn Y.prog Y.w Y.K tg J fp it tn) (hf : (clausesOf (.GeneratorExp elt (⟨tg, iter, ifs, 0⟩ :: gens) scope pos))[0]? = some ⟨tg, iter, ifs, 0⟩ := by rfl) (ht : tn 0 s.heap)
    (loop : Seg (model Y.prog Y.w) A (GR0 Y Qe) (GP Y stop Qs) n s₀ (.compLoop (.GeneratorExp elt (⟨tg, iter, ifs, 0⟩ :: gens) scope pos) 0 (.ref it) .none Y.env)
        ((model Y.prog Y.w).den (.compLoop (.GeneratorExp elt (⟨tg, iter, ifs, 0⟩ :: gens) scope pos) 0 (.ref it) .none Y.env)) [] s) :
    Seg (model Y.prog Y.w) A (GR0 Y Qe) (GP Y stop Qs) n s₀ (.compStart (.GeneratorExp elt (⟨tg, iter, ifs, 0⟩ :: gens) scope pos) 0 (.ref it) .none Y.env)
        ((model Y.prog Y.w).den (.compStart (.GeneratorExp elt (⟨tg, iter, ifs, 0⟩ :: gens) scope pos) 0 (.ref it) .none Y.env)) [] s := by
  show Seg _ A _ _ _ s₀ _ ((compStart (.GeneratorExp elt (⟨tg, iter, ifs, 0⟩ :: gens) scope pos) 0 (.ref it) .none Y.env).onRaise (leaving Y.env)) [] s
  unfold compStart
  rw [Sem.onRaise_eq_wrap]
  show Seg _ A _ _ _ s₀ _ ((ask >>= _).wrap _ _ _ _) [] s
  refine seg_bind_wrap (wpAny_askSetting ?_)
  split
  · exact seg_again rfl loop
  · refine seg_bind_wrap (wpAny_rule ?_)
    show Seg _ A _ _ _ s₀ _ ((standAt iter.pos >>= _).wrap _ _ _ _) [] s
    exact seg_bind_wrap (wpAny_standAt (seg_bind_wrap (T.self _ 0 s _ _ ht (seg_again rfl loop))))
end
/-! ### all, any -/
section
variable {Y : Cx} {A : Around} {stop : Bool} {Qs Qe : Hp → Prop} {a : Addr} {g : Nat} {R : Result → Shared → Prop}
/-- the end of the walk: all were handed out, or the one that ends it -/
def Ended (Y : Cx) (stop : Bool) (Qs Qe : Hp → Prop) (b : Bool) (s : Shared) : Prop := ∃ σ H ip, Inv Y ip σ H s ∧ (b = stop → Qs H) ∧ (b ≠ stop → Qe H)
theorem Ended.slept {b : Bool} {s s' : Shared} (e : Ended Y stop Qs Qe b s) (z : Slept0 s s') : Ended Y stop Qs Qe b s' := let ⟨σ, H, ip, I, p, q⟩ := e; ⟨σ, H, ip, inv_slept I z, p, q⟩
theorem slept_setGen {s : Shared} {x : GenState} (h : AllBare s.gens) (hx : x.bare = true) : Slept0 s (s.setGen g x) := ⟨rfl, allBare_setGen h hx, fun _ _ e => e⟩
theorem next_gx (hh : A.handled = none) (hd : A.depth < recursionLimit) (hgen : ∀ ip σ H s, Inv Y ip σ H s → s.heap.IsGen a g) {n : Nat} {gs : GenState} {s : Shared} (hl : s.heap.NoLimit) (hg : s.heap.IsGen a g) (hgs : s.gens[g]? = some gs)
    (hgo : gs.Goes (model Y.prog Y.w) A.in1 (GR0 Y Qe) (GP Y stop Qs) n (.send .none) (s.setGen g .running)) {Q : Option Value → Shared → Prop} {E : Value → Shared → Prop}
    (hend : ∀ s', Ended Y stop Qs Qe (!stop) s' → Q none s')
    (hyld : ∀ s', Ended Y stop Qs Qe stop s' → Q (some (.bool stop)) s')
    (hon : ∀ s' gs' m, n = m + 1 → s'.heap.NoLimit → s'.heap.IsGen a g → s'.gens[g]? = some gs' → AllBare s'.gens → (∀ s'', Slept0 s' s'' → gs'.Goes (model Y.prog Y.w) A.in1 (GR0 Y Qe) (GP Y stop Qs) m (.send .none) s'') → Q (some (.bool (!stop))) s') :
    wpAny (model Y.prog Y.w) A (pyNext (.ref a)) Q E s := by
  have hgl : g < s.gens.size := (Array.getElem?_eq_some_iff.mp hgs).1
  refine wpAny_gsz (n := g + 1) hgl (next_genG (A := A) hh hl hd hg hgs hgo (fun v s₁ gs' hbare hv => ?_) (fun s₁ hp h' hk => ?_) fun e s₁ he => he.elim)
  · intro hsz
    obtain ⟨b, σ, H, ip, rfl, I, q1, q2⟩ := hv
    have z1 : Slept0 s₁ (s₁.setGen g gs') := slept_setGen I.bare hbare
    have I1 := inv_slept I z1
    by_cases hb : b = stop
    · subst hb
      exact hyld _ ⟨σ, H, ip, I1, q1, fun z => absurd rfl z⟩
    · obtain rfl : b = !stop := by cases b <;> cases stop <;> simp_all
      cases n with
      | zero => exact ((q2 hb s₁ ⟨rfl, I.bare, fun _ _ e => e⟩)).elim
      | succ m =>
        have hsz1 : g < s₁.gens.size := by
          have q : (s₁.setGen g gs').gens.size = s₁.gens.size := setGen_size _ _ _
          have hsz' : g + 1 ≤ (s₁.setGen g gs').gens.size := hsz
          omega
        exact hon _ gs' m rfl I1.nolimit (hgen _ _ _ _ I1) (setGen_at hsz1) I1.bare fun s'' z => q2 hb s'' (z1.trans z)
  · intro hsz
    obtain ⟨σ, H, ip, I, qe⟩ := hp
    have z1 : Slept0 s₁ { s₁.setGen g .finished with heap := h' } := ⟨rfl, allBare_setGen I.bare rfl, hk⟩
    exact hend _ ⟨σ, H, ip, inv_slept I z1, fun z => absurd z (by cases stop <;> decide), fun _ => qe⟩
theorem all_loop (hh : A.handled = none) (hd : A.depth < recursionLimit) (hgen : ∀ ip σ H s, Inv Y ip σ H s → s.heap.IsGen a g) (hR : ∀ b s', Ended Y false Qs Qe b s' → R (.ok (.ret (.bool b))) s') :
    ∀ (n : Nat) (s : Shared) (gs : GenState), s.heap.NoLimit → s.heap.IsGen a g → s.gens[g]? = some gs → gs.Goes (model Y.prog Y.w) A.in1.in1 (GR0 Y Qe) (GP Y false Qs) n (.send .none) (s.setGen g .running) →
      codeAny (model Y.prog Y.w) A (.builtin "all.loop" ⟨[.ref a], []⟩) R s := by
  intro n
  induction n with
  | zero =>
    intro s gs hl hg hgs hgo
    refine codeAny_builtin F.entry_all_loop ?_
    rw [Around.under_plainId F.plain_all_loop _]
    show wpAny _ A.in1 (pyNext (.ref a) >>= _) _ _ s
    refine wpAny_bind (next_gx (A := A.in1) hh hd hgen hl hg hgs hgo (fun s' e => ?_) (fun s' e => ?_) fun s' gs' m z _ _ _ _ _ => by omega)
    · exact wpAny_bind (wpAny_rule (wpAny_pure (hR true s' e)))
    · refine wpAny_bind (wpAny_holding (wpAny_truthy_bool ?_))
      refine wpAny_bind (wpAny_letGo ?_)
      simp only [Bool.false_eq_true, if_false]
      exact wpAny_bind (wpAny_rule (wpAny_pure (hR false s' e)))
  | succ n ih =>
    intro s gs hl hg hgs hgo
    refine codeAny_builtin F.entry_all_loop ?_
    rw [Around.under_plainId F.plain_all_loop _]
    show wpAny _ A.in1 (pyNext (.ref a) >>= _) _ _ s
    refine wpAny_bind (next_gx (A := A.in1) hh hd hgen hl hg hgs hgo (fun s' e => ?_) (fun s' e => ?_) fun s' gs' m z hl' hg' hgs' hb' hk => ?_)
    · exact wpAny_bind (wpAny_rule (wpAny_pure (hR true s' e)))
    · refine wpAny_bind (wpAny_holding (wpAny_truthy_bool ?_))
      refine wpAny_bind (wpAny_letGo ?_)
      simp only [Bool.false_eq_true, if_false]
      exact wpAny_bind (wpAny_rule (wpAny_pure (hR false s' e)))
    · obtain rfl : n = m := by omega
      refine wpAny_bind (wpAny_holding (wpAny_truthy_bool ?_))
      refine wpAny_bind (wpAny_letGo ?_)
      simp only [Bool.not_false, if_true]
      exact wpAny_pure ⟨plainId_quiet F.plain_all_loop _, ih s' gs' hl' hg' hgs' (hk _ (slept_setGen hb' rfl))⟩
theorem any_loop (hh : A.handled = none) (hd : A.depth < recursionLimit) (hgen : ∀ ip σ H s, Inv Y ip σ H s → s.heap.IsGen a g) (hR : ∀ b s', Ended Y true Qs Qe b s' → R (.ok (.ret (.bool b))) s') :
    ∀ (n : Nat) (s : Shared) (gs : GenState), s.heap.NoLimit → s.heap.IsGen a g → s.gens[g]? = some gs → gs.Goes (model Y.prog Y.w) A.in1.in1 (GR0 Y Qe) (GP Y true Qs) n (.send .none) (s.setGen g .running) →
      codeAny (model Y.prog Y.w) A (.builtin "any.loop" ⟨[.ref a], []⟩) R s := by
  intro n
  induction n with
  | zero =>
    intro s gs hl hg hgs hgo
    refine codeAny_builtin F.entry_any_loop ?_
    rw [Around.under_plainId F.plain_any_loop _]
    show wpAny _ A.in1 (pyNext (.ref a) >>= _) _ _ s
    refine wpAny_bind (next_gx (A := A.in1) hh hd hgen hl hg hgs hgo (fun s' e => ?_) (fun s' e => ?_) fun s' gs' m z _ _ _ _ _ => by omega)
    · exact wpAny_bind (wpAny_rule (wpAny_pure (hR false s' e)))
    · refine wpAny_bind (wpAny_holding (wpAny_truthy_bool ?_))
      refine wpAny_bind (wpAny_letGo ?_)
      simp only [if_true]
      exact wpAny_bind (wpAny_rule (wpAny_pure (hR true s' e)))
  | succ n ih =>
    intro s gs hl hg hgs hgo
    refine codeAny_builtin F.entry_any_loop ?_
    rw [Around.under_plainId F.plain_any_loop _]
    show wpAny _ A.in1 (pyNext (.ref a) >>= _) _ _ s
    refine wpAny_bind (next_gx (A := A.in1) hh hd hgen hl hg hgs hgo (fun s' e => ?_) (fun s' e => ?_) fun s' gs' m z hl' hg' hgs' hb' hk => ?_)
    · exact wpAny_bind (wpAny_rule (wpAny_pure (hR false s' e)))
    · refine wpAny_bind (wpAny_holding (wpAny_truthy_bool ?_))
      refine wpAny_bind (wpAny_letGo ?_)
      simp only [if_true]
      exact wpAny_bind (wpAny_rule (wpAny_pure (hR true s' e)))
    · obtain rfl : n = m := by omega
      refine wpAny_bind (wpAny_holding (wpAny_truthy_bool ?_))
      refine wpAny_bind (wpAny_letGo ?_)
      simp only [Bool.not_true, Bool.false_eq_true, if_false]
      exact wpAny_pure ⟨plainId_quiet F.plain_any_loop _, ih s' gs' hl' hg' hgs' (hk _ (slept_setGen hb' rfl))⟩
end
end DL

set_option Elab.async false
set_option linter.all false
set_option maxRecDepth 100000
set_option maxHeartbeats 4000000
/-! DGb: a generator expression evaluated; its frame as a context. -/
namespace DL
open PySem PySem.Spec PyProof.Rows L2 NdefX GenW
/-- the scope of a generator expression: its names, the captured ones -/
structure GScope (N ps fr : List Str) (sc : Scope) : Prop where
  kind : sc.kind = .function
  co : sc.isCoroutine = false
  nd : N.Nodup
  pre : N.take (ps.length + fr.length) = ps ++ fr
  par : ∀ x ∈ ps, sc.names.lookup x = some .local
  nocell : ∀ y ∈ sc.names, y.2 ≠ .cell
  free : ∀ y ∈ sc.names, y.2 = .free → y.1 ∈ fr
  frk : ∀ x ∈ fr, sc.names.lookup x = some .free
/-- .. and the scope around it -/
def gscB (N fr : List Str) (sc osc : Scope) : Bool :=
  decide (sc.kind = .function) && (!sc.isCoroutine && (decide N.Nodup && (decide (N.take ([(".0" : Str)].length + fr.length) = [(".0" : Str)] ++ fr) && (decide (sc.names.lookup (".0" : Str) = some .local) && (sc.names.all (fun y => !decide (y.2 = .cell)) && (sc.names.all (fun y => !decide (y.2 = .free) || decide (y.1 ∈ fr)) &&
    (fr.all (fun x => decide (sc.names.lookup x = some .free)) && (sc.names.all (fun y => !decide (y.2 = .free) || (decide (osc.names.lookup y.1 = some .cell) || decide (osc.names.lookup y.1 = some .free))) && fr.all (fun y => decide ((y, NameKind.free) ∈ sc.names))))))))))
theorem gscope_by {N fr : List Str} {sc osc : Scope} (h : gscB N fr sc osc = true) : GScope N [".0"] fr sc ∧ (∀ y ∈ sc.names, y.2 = .free → osc.names.lookup y.1 = some .cell ∨ osc.names.lookup y.1 = some .free) ∧ ∀ y ∈ fr, (y, NameKind.free) ∈ sc.names := by
  unfold gscB at h
  simp only [Bool.and_eq_true, Bool.not_eq_true', decide_eq_true_eq, List.all_eq_true, Bool.or_eq_true, decide_eq_false_iff_not] at h
  obtain ⟨h1, h2, h3, h4, h5, h6, h7, h8, h9, h10⟩ := h
  exact ⟨⟨h1, h2, h3, h4, fun x hx => by rw [List.mem_singleton.mp hx]; exact h5, h6, fun y hy e => (h7 y hy).elim (fun z => absurd e z) id, h8⟩, fun y hy e => (h9 y hy).elim (fun z => absurd e z) id, h10⟩
/-- the context of a generator expression's frame; fp: the iterator's own objects, made ahead -/
def gcx (X : Cx) (N : List Str) (scope : Scope) (cl : List (Str × Addr)) (L : Addr) (code : Value) (A' : Around) (s : Shared) (H : Hp) (fp : List Addr) (pn : List (Addr × Obj)) : Cx where
  prog := X.prog
  w := X.w
  K := X.K
  mg := X.mg
  base := X.base
  A := A'
  N := N
  s_0 := s
  H_0 := H
  env := genEnv scope cl L code builtinsNs X.env
  outer := X.stack
  stack := genEnv scope cl L code builtinsNs X.env :: X.stack
  ex := fp
  calm := true
  fn := fun _ => false
  pn := pn
  xe := fun _ _ => False
section
variable {X : Cx} {pins : List (Addr × Obj)} {σ : L2.St} {H : Hp} {s : Shared} {N fr : List Str} {scope : Scope} {js : List Nat} {cl : List (Str × Addr)}
/-- a slot of the generator's frame at its beginning -/
theorem gslot {ws : List (Option V)} {v0 v : V} {i : Nat} {y : Str} (S : GScope N [".0"] fr scope) (hw : ws.length = fr.length) (hi : N[i]? = some y) (hs : (startF N [v0] ws)[i]? = some (some v)) : (y = ".0" ∧ v = v0) ∨ ∃ j : Nat, fr[j]? = some y ∧ ws[j]? = some (some v) := by
  have pre := S.pre
  cases i with
  | zero =>
    refine .inl ⟨?_, ?_⟩
    · have q := congrArg (fun l : List Str => l[0]?) pre
      simp only [List.cons_append, List.getElem?_cons_zero] at q
      rw [List.getElem?_take_of_lt (by simp; omega), hi] at q
      exact Option.some.inj q
    · unfold startF at hs
      simp at hs
      exact hs.symm
  | succ i =>
    refine .inr ⟨i, ?_⟩
    unfold startF at hs
    simp only [List.map_cons, List.map_nil, List.cons_append, List.nil_append, List.getElem?_cons_succ] at hs
    by_cases hj : i < ws.length
    · rw [List.getElem?_append_left hj] at hs
      refine ⟨?_, hs⟩
      have q := congrArg (fun l : List Str => l[i + 1]?) pre
      simp only [List.cons_append, List.nil_append, List.getElem?_cons_succ] at q
      rw [List.getElem?_take_of_lt (by simp; omega), hi] at q
      exact q.symm
    · rw [List.getElem?_append_right (by omega), List.getElem?_replicate] at hs
      split at hs <;> cases hs
theorem inv_gen {it : Addr} {fp : List Addr} {A' : Around} {code : Value} {h5 : Heap} {G : Array GenState} {tk : Nat} {a : Addr} {go : Obj} (I : Inv X pins σ H s) (S : GScope N [".0"] fr scope) (cp : Caps X cl fr js)
    (hA1 : A'.handled = none) (hA2 : A'.frames = some (genEnv scope cl s.heap.objs.size code builtinsNs X.env :: X.stack)) (hf : ∀ b ∈ fp, FpOk X pins H b) (ho : ∀ b ∈ fp, ∃ o, s.heap.get? b = some o)
    (kp : ∀ b o, s.heap.get? b = some o → h5.get? b = some o) (hns : h5.Ns s.heap.objs.size fun y => if y = ".0" then some (.ref it) else none) (hG : AllBare G) (ha : h5.get? a = some go) (haL : s.heap.objs.size < a) (hgo : ∀ v, go.data ≠ .cell v) :
    Inv (gcx X N scope cl s.heap.objs.size code A' s H fp [(a, go)]) [] (startF N [.ref it] (js.map (slotAt σ))) H { s with heap := h5, gens := G, toks := tk } := by
  have C := cells_of I cp
  have cellK : ∀ {c : Addr} {v : Option Value}, s.heap.IsCell c v → h5.IsCell c v := fun {c v} ⟨o, ho, hd⟩ => ⟨o, kp _ _ ho, hd⟩
  have nstk : ∀ {b : Addr}, b ≠ X.env.locals → b ∉ X.fs → b ∉ frs X.stack := fun h1 h2 hm => (List.mem_cons.mp (I.stkSub _ hm)).elim h1 h2
  refine ⟨⟨I.mod, S.kind, I.ok.glob, rfl, Nat.le_refl _, C.inj, fun y hy => ?_, fun y c z _ => ?_, fun _ => hA1, hA2, .inr ⟨rfl, rfl⟩, fun b hb => ⟨fun z => ?_, fun y c e z => ?_⟩, I.bs, Nat.le_trans I.ok.bsz I.sz, fun b o e hb => ?_, fun b hb => ?_, I.stack, I.stkFree⟩,
    rfl, hG, Un.kept kp, ⟨_, hns, fun i y v e1 e2 e3 => ?_⟩, fun y c e => ?_, I.hok.fresh (Nat.le_refl _), fun y c e => (C.all y c e).1, fun q hq => ?_, I.hok.kept kp, ?_⟩
  · have hy : scope.names.lookup y = some .cell ∨ scope.names.lookup y = some .free := hy
    rcases hy with hy | hy
    · exact absurd rfl (S.nocell _ (PySem.mem_of_lookup hy))
    · obtain ⟨i, hi⟩ := List.mem_iff_getElem?.mp (S.free _ (PySem.mem_of_lookup hy) rfl)
      obtain ⟨c, hc, _⟩ := C.has i y hi
      exact ⟨c, hc⟩
  · have z : false = true := z
    cases z
  · obtain ⟨o, e⟩ := ho b hb
    have := Heap.lt_size e
    rw [show b = s.heap.objs.size from z] at this
    exact Nat.lt_irrefl _ this
  · exact (hf b hb).2.2.2.2.1 y c (cp.sub y c e) z
  · rcases (hf b hb).2.2.2.1 with z | z
    · exact I.ok.noex b o e z
    · have := Heap.lt_size e
      exact absurd (Nat.lt_of_lt_of_le this I.ok.bsz) (Nat.not_lt.mpr z)
  · exact nstk (hf b hb).2.1 (hf b hb).2.2.1
  · rcases gslot S C.len e1 e2 with ⟨rfl, rfl⟩ | ⟨j, ej, wj⟩
    · exact ⟨_, rfl, .inl ⟨S.par ".0" (by simp), if_pos rfl⟩⟩
    · obtain ⟨c, hc, hv⟩ := C.has j y ej
      obtain ⟨u, ru, hu⟩ := hv v wj
      exact ⟨u, ru, .inr ⟨.inr (S.frk y (List.mem_of_getElem? ej)), c, hc, cellK hu⟩⟩
  · obtain ⟨v, z⟩ := (C.all y c e).2
    exact ⟨v, cellK z⟩
  · have hq' : q = (a, go) := by simpa using (show q ∈ [(a, go)] ++ ([] : List (Addr × Obj)) from hq)
    subst hq'
    exact ⟨ha, I.hok.fresh (Nat.le_of_lt haL), Nat.ne_of_gt haL, nstk (fun z => absurd I.lt (by rw [← z]; exact Nat.not_lt.mpr (Nat.le_of_lt haL))) (I.nofs (Nat.le_of_lt haL)), hgo⟩
  · have q := congrArg List.length S.pre
    have hl := C.len
    rw [List.length_take, List.length_append] at q
    unfold startF
    show _ = N.length
    simp only [List.length_append, List.length_map, List.length_replicate, List.length_cons, List.length_nil] at q hl ⊢
    omega
/-- behind the walk: the frame's context is left -/
theorem inv_back {H' : Hp} {s' : Shared} {ip : List (Addr × Obj)} {σ' : L2.St} {fp : List Addr} {A' : Around} {code : Value} {L : Addr} {pn : List (Addr × Obj)} (I : Inv X pins σ H s) (hf : ∀ b ∈ fp, FpOk X pins H b) (J : Inv (gcx X N scope cl L code A' s H fp pn) ip σ' H' s') : Inv X pins σ H' s' :=
  I.call' (ch := fp) J.os J.base J.hok J.bare fun b hb => ⟨(hf b hb).2.2.2.1, (hf b hb).2.1, (hf b hb).2.2.2.2.1, (hf b hb).2.2.2.2.2⟩
/-- a generator expression of any clauses, evaluated -/
theorem eval_genN (elt target iter : Expr) (ifs : List Expr) (gens : List Comprehension) (scope : Scope) (pos : Pos) (env : Env) (hco : scope.isCoroutine = false) :
    eval (.GeneratorExp elt (⟨target, iter, ifs, 0⟩ :: gens) scope pos) env = (do
      let x ← eval iter env
      standAt iter.pos
      let x ← genFold iter env x
      let it ← holding [x] (pyIter x)
      enterFrame
      let cl ← closureFor scope env
      let code ← genexprCode env pos (env.qual ++ "<genexpr>") scope
      let bi ← builtinsFor env.globals env.builtins
      let cenv ← newFunctionEnv scope env.globals cl [(".0", it)] (env.qual ++ "<genexpr>.") none code none bi
      newGenerator (.compStart (.GeneratorExp elt (⟨target, iter, ifs, 0⟩ :: gens) scope pos) 0 it .none cenv) "<genexpr>" (env.qual ++ "<genexpr>")) := by
  rw [arm_eval_GeneratorExp]
  simp only [hco, Bool.false_eq_true, if_false]
  cases iter <;> rfl
theorem lookup0 (it : Value) : (fun y : Str => ([((".0" : Str), it)] : List (Str × Value)).reverse.lookup y) = fun y : Str => if y = (".0" : Str) then some it else none := by
  funext y
  by_cases hy : y = ".0"
  · subst hy
    simp
  · simp [List.lookup, show (y == (".0" : Str)) = false by simpa using hy, hy]
theorem gen_makeN {M : Model} {A : Around} {E : Value → Shared → Prop} {s : Shared} {env : Env} {elt target iter : Expr} {ifs : List Expr} {gens : List Comprehension} {scope : Scope} {cl : List (Str × Addr)} {pos : Pos} {Q : Value → Shared → Prop}
    (hco : scope.isCoroutine = false) (hclos : closureFor scope env = pure cl) (hcell : ∀ y ∈ scope.names, y.2 ≠ .cell) (h0 : scope.names.lookup (".0" : Str) = some NameKind.local) (hkind : scope.kind = .function) (hroom : A.depth < recursionLimit)
    (h : wpAny M A (eval iter env) (fun xv s₁ => wpAny M A (pyIter xv) (fun it s₂ => s₂.heap.NoLimit ∧
      wpAny M A (genexprCode env pos (env.qual ++ "<genexpr>") scope) (fun code s₃ => wpAny M A (builtinsFor env.globals env.builtins) (fun bi s₄ =>
        ∀ h', h'.Ns s₄.heap.objs.size (fun y => if y = ".0" then some it else none) → Heap.SameBut s₄.heap.objs.size (s₄.heap.push { cls := .type "frame", data := .dict #[] }) h' →
          Q (.ref h'.objs.size) { s₄ with
            gens := s₄.gens.push (.fresh (.compStart (.GeneratorExp elt (⟨target, iter, ifs, 0⟩ :: gens) scope pos) 0 it .none (genEnv scope cl s₄.heap.objs.size code bi env))),
            toks := s₄.toks + 1 + 1 + 1,
            heap := h'.push { cls := .type "generator", data := .fields #[.int s₄.gens.size 0, .str "<genexpr>" (s₄.toks + 1), .str (env.qual ++ "<genexpr>") (s₄.toks + 1 + 1)] } }) E s₃) E s₂) E s₁) E s)
    (hs : ∀ x, genFold iter env x = pure x) : wpAny M A (eval (.GeneratorExp elt (⟨target, iter, ifs, 0⟩ :: gens) scope pos) env) Q E s := by
  rw [eval_genN _ _ _ _ _ _ _ _ hco, hclos]
  refine wpAny_bind (wpAny_mono h (fun xv s₁ h₁ => ?_) fun _ _ e => e)
  refine wpAny_bind (wpAny_standAt (wpAny_bind (wpAny_of_eq (hs xv) ?_)))
  refine wpAny_bind (wpAny_holding (wpAny_mono h₁ (fun it s₂ h₂ => ?_) fun _ _ e => e))
  refine wpAny_bind (wpAny_enterFrame h₂.1 hroom (wpAny_bind (wpAny_pure ?_)))
  refine wpAny_bind (wpAny_mono h₂.2 (fun code s₃ h₃ => ?_) fun _ _ e => e)
  refine wpAny_bind (wpAny_mono h₃ (fun bi s₄ h₄ => ?_) fun _ _ e => e)
  refine wpAny_bind (wpAny_newFunctionEnv hcell (fun y hy => by
    obtain rfl := List.mem_singleton.mp hy
    exact h0) (fun h' hn' hs' => ?_) hkind)
  rw [lookup0] at hn'
  simp only [newGenerator, newFields]
  exact wpAny_bind (wpAny_newGen (wpAny_bind (wpAny_mkText (wpAny_bind (wpAny_mkText (wpAny_newObj_type (h₄ h' hn' hs') (by size_fits)))))))
/-- the generator made -/
theorem gen_eval {P c : Addr} {tg elt iter : Expr} {ifs : List Expr} {gens : List Comprehension} {gpos : Pos} {wi : TI} {R : It → Hp → Prop} {Q' : Value → Shared → Prop} (hr : Room 0 X.A) (TB : GxR.TabB X.base X.mg c P) (hcode : X.env.code = .ref c) (S : GScope N [".0"] fr scope)
    (cp : Caps X (cloFrom X.env.cells scope.names []) fr js) (hfree : ∀ y ∈ scope.names, y.2 = .free → ∃ c, X.env.cells.lookup y.1 = some c) (hi : PI X tg iter wi) (hs : ∀ v, genFold iter X.env v = pure v) (I : Inv X pins σ H s) (h : wi σ H fun J H1 => GxR.TabG H1 P ∧ R J H1)
    (hQ : ∀ (J : It) (H1 H2 : Hp) (it : Addr) (fp : List Addr) (tn : Nat → Heap → Prop) (s3 : Shared) (code : Value) (a g : Nat) (go : Obj) (h5 : Heap) (tk : Nat), R J H1 → GxR.Tabbed P H1 H2 → Inv X pins σ H2 s3 → Turn X.prog X.w X.K tg J fp it tn → tn 0 h5 → (∀ b ∈ fp, FpOk X pins H2 b) → (∀ b ∈ fp, ∃ o, s3.heap.get? b = some o) →
      (∀ b o, s3.heap.get? b = some o → h5.get? b = some o) → (h5.Ns s3.heap.objs.size fun y => if y = ".0" then some (.ref it) else none) → h5.get? a = some go → s3.heap.objs.size < a → (∀ v, go.data ≠ .cell v) → (∀ h : Heap, h.get? a = some go → h.IsGen a g) → g = s3.gens.size →
      Q' (.ref a) { s3 with heap := h5, gens := s3.gens.push (.fresh (.compStart (.GeneratorExp elt (⟨tg, iter, ifs, 0⟩ :: gens) scope gpos) 0 (.ref it) .none (genEnv scope (cloFrom X.env.cells scope.names []) s3.heap.objs.size code builtinsNs X.env))), toks := tk }) :
    wpAny (model X.prog X.w) X.A (eval (.GeneratorExp elt (⟨tg, iter, ifs, 0⟩ :: gens) scope gpos) X.env) Q' X.xe s := by
  refine gen_makeN S.co (closure_ok hfree) S.nocell (S.par ".0" (by simp)) S.kind (by have := hr.dp; omega) ?_ hs
  refine thn (hi.run pins s σ H _ I h) fun xv s1 h1 => thn h1 fun u s2 h2 => ?_
  obtain ⟨it, fp, tn, J, H1, rfl, I2, T, t0, f2, ⟨ps, hP, ht⟩, hR⟩ := h2
  have hPs : s2.heap.get? P = some { cls := .none, data := .fields ps } := I2.hok P _ hP
  have cd : PySem.W.CodeHd s2.heap c P := TB.code.keeps fun b u e => I2.bk b u e
  refine ⟨I2.nolimit, ?_⟩
  have cont : ∀ (code : Value) (h3 : Heap) (tk : Nat) (ps' : Array Value), Heap.ExtBut P s2.heap h3 → h3.get? P = some { cls := .none, data := .fields ps' } → (∃ more, ps' = ps ++ more) → TriplesOk ps'.toList →
      wpAny (model X.prog X.w) X.A (builtinsFor X.env.globals X.env.builtins) (fun bi s₄ => ∀ h', h'.Ns s₄.heap.objs.size (fun y => if y = ".0" then some (.ref it) else none) → Heap.SameBut s₄.heap.objs.size (s₄.heap.push { cls := .type "frame", data := .dict #[] }) h' →
          Q' (.ref h'.objs.size) { s₄ with
            gens := s₄.gens.push (.fresh (.compStart (.GeneratorExp elt (⟨tg, iter, ifs, 0⟩ :: gens) scope gpos) 0 (.ref it) .none (genEnv scope (cloFrom X.env.cells scope.names []) s₄.heap.objs.size code bi X.env))),
            toks := s₄.toks + 1 + 1 + 1,
            heap := h'.push { cls := .type "generator", data := .fields #[.int s₄.gens.size 0, .str "<genexpr>" (s₄.toks + 1), .str (X.env.qual ++ "<genexpr>") (s₄.toks + 1 + 1)] } }) X.xe { s2 with heap := h3, toks := tk } := by
    intro code h3 tk ps' hx hP3 ⟨more, hmore⟩ ht3
    obtain ⟨bm, ob, e1, e2, e3, e4, e5, e6, e7, e8⟩ := TB.bm
    have keep3 : ∀ b u, b ≠ P → s2.heap.get? b = some u → h3.get? b = some u := fun b u hb e => hx b u hb e
    refine wpAny_builtinsFor (m := X.mg) (by rw [I2.ok.glob]; exact (I2.mod.glob.keeps I2.bk).extBut hx TB.gP) e1 e2 (keep3 _ _ e4 (I2.bk _ _ e5)) e6 e7 e8 ?_
    intro h' hn' hs'
    have I3 : Inv X pins σ (upd H1 P (.tbl (ps ++ more))) { s2 with heap := h3, toks := tk } := GxR.inv_tab (g' := s2.gens) (d' := s2.drawn) I2 hP keep3 (by rw [← hmore]; exact hP3) I2.bare
    have nP : ∀ b ∈ fp, b ≠ P := fun b hb z => by
      have := (f2 b hb).1
      rw [z, hP] at this
      cases this
    have kp : ∀ b o, h3.get? b = some o → (h'.push { cls := .type "generator", data := .fields #[.int s2.gens.size 0, .str "<genexpr>" (tk + 1), .str (X.env.qual ++ "<genexpr>") (tk + 1 + 1)] }).get? b = some o := fun b o e =>
      Heap.get?_push_of_some _ (hs'.extBut b o (Nat.ne_of_lt (Heap.lt_size e)) (Heap.get?_push_of_some _ e))
    have hsz : h'.objs.size = h3.objs.size + 1 := by
      have := hs'.1
      rw [this, Heap.size_push]
    have go_at : (h'.push { cls := .type "generator", data := .fields #[.int s2.gens.size 0, .str "<genexpr>" (tk + 1), .str (X.env.qual ++ "<genexpr>") (tk + 1 + 1)] }).get? h'.objs.size = some { cls := .type "generator", data := .fields #[.int s2.gens.size 0, .str "<genexpr>" (tk + 1), .str (X.env.qual ++ "<genexpr>") (tk + 1 + 1)] } := Heap.get?_push_size _ rfl
    refine hQ J H1 _ it fp tn { s2 with heap := h3, toks := tk } code h'.objs.size s2.gens.size { cls := .type "generator", data := .fields #[.int s2.gens.size 0, .str "<genexpr>" (tk + 1), .str (X.env.qual ++ "<genexpr>") (tk + 1 + 1)] }
      (h'.push { cls := .type "generator", data := .fields #[.int s2.gens.size 0, .str "<genexpr>" (tk + 1), .str (X.env.qual ++ "<genexpr>") (tk + 1 + 1)] }) _ hR ⟨⟨_, upd_same, by rw [← hmore]; exact ht3⟩, fun b hb => upd_ne hb⟩ I3 T ?_ (fun b hb => ?_) (fun b hb => ?_) kp (hn'.push _) go_at ?_ (fun v z => by cases z) (fun h e => ⟨_, _, _, e, rfl, rfl, rfl⟩) rfl
    · exact T.keep _ _ _ t0 fun b hb o e => kp b o (keep3 b o (nP b hb) e)
    · exact ⟨(upd_ne (nP b hb)).trans (f2 b hb).1, (f2 b hb).2⟩
    · obtain ⟨o, e, _⟩ := T.obj _ _ t0 b hb
      exact ⟨o, keep3 b o (nP b hb) e⟩
    · show h3.objs.size < h'.objs.size
      omega
  cases hf : codeAmong gpos ps.toList with
  | none =>
    refine wpAny_genexprCodeX hcode (cd.code hPs ht) (cd.tab hPs) hf fun c' h' tk hx _ _ hco' _ htab' _ => ?_
    obtain ⟨o1, vs, f1, tf, fl, tg, inF, tx, tt, op, _, _, _, _, _, _, _, _, _, htr, _⟩ := hco'
    exact cont _ h' tk _ hx htab'.2 ⟨_, rfl⟩ htr
  | some cv =>
    refine wpAny_genexprCode_hit hcode (cd.code hPs ht) hf ?_
    exact cont cv s2.heap s2.toks ps (Heap.ExtBut.refl _ _) hPs ⟨#[], by simp⟩ ht
end
end DL

set_option Elab.async false
set_option linter.all false
set_option maxRecDepth 100000
set_option maxHeartbeats 4000000
/-! DGc: all, any of a generator expression, by data. -/
namespace DL
open PySem PySem.Spec PyProof.Rows L2 NdefX GenW
/-- where the generator's loop runs -/
abbrev gxA (A : Around) (elt : Expr) (gens : List Comprehension) (scope : Scope) (pos : Pos) (it : Value) (env : Env) : Around := A.in1.in1.over (.compLoop (.GeneratorExp elt gens scope pos) 0 it .none env) []
section
variable {A : Around} {elt : Expr} {gens : List Comprehension} {scope : Scope} {pos : Pos} {it : Value} {env : Env} {k : Nat} {l : List Env}
theorem gxA_handled : (gxA A elt gens scope pos it env).handled = A.handled := rfl
theorem gxA_frames (h : A.frames = some l) : (gxA A elt gens scope pos it env).frames = some (env :: l) := by
  show pushEnvs [env] (pushEnvs [] A.frames) = _
  rw [h]
  rfl
theorem _root_.L2.Room.gx (r : Room (k + 1) A) : Room k (gxA A elt gens scope pos it env) := ⟨r.hd, by have := r.dp; show A.depth + 0 + 1 + 3 * k + 5 < _; omega, by have := r.un; show A.units + 1 + 1 + 0 + 3 + 16 * k + 200 < _; omega⟩
end
/-- the slots at the beginning -/
def genG (n : Nat) (js : List Nat) (Γ : Sl) : Sl := none :: ((js.map fun j => (Γ[j]?).join) ++ List.replicate (n - 1 - js.length) none)
/-- G' tells what G tells -/
def SlE (G G' : Sl) : Prop := G.length = G'.length ∧ ∀ (i : Nat) (d : D), G[i]? = some (some d) → G'[i]? = some (some d)
theorem SlE.sis {H : Hp} {σ : L2.St} {G G' : Sl} (e : SlE G G') (h : SIs H σ G') : SIs H σ G := ⟨h.1.trans e.1.symm, fun i d q => h.2 i d (e.2 i d q)⟩
theorem slE_set {G : Sl} {i : Nat} {d : D} (h : G[i]? = some none) : SlE G (G.set i (some d)) := ⟨by rw [List.length_set], fun j e q => by
  rw [List.getElem?_set_ne (fun z => by rw [← z, h] at q; cases q)]
  exact q⟩
theorem genG_is {H : Hp} {σ : L2.St} {Γ : Sl} {js : List Nat} {N : List Str} {v0 : V} (h : SIs H σ Γ) (hN : 1 ≤ N.length) : SIs H (startF N [v0] (js.map (NdefX.slotAt σ))) (genG N.length js Γ) := by
  refine ⟨?_, fun i d e => ?_⟩
  · unfold startF genG
    simp only [List.length_append, List.length_map, List.length_replicate, List.length_cons, List.length_nil]
    omega
  · unfold genG at e
    cases i with
    | zero => cases e
    | succ i =>
      rw [List.getElem?_cons_succ] at e
      by_cases hi : i < js.length
      · rw [List.getElem?_append_left (by simpa using hi), List.getElem?_map] at e
        cases ej : js[i]? with
        | none => rw [ej] at e; cases e
        | some j =>
          rw [ej] at e
          have e' : (Γ[j]?).join = some d := Option.some.inj e
          have e2 : Γ[j]? = some (some d) := by
            cases q : Γ[j]? with
            | none => rw [q] at e'; cases e'
            | some o => rw [q] at e'; cases o with
              | none => cases e'
              | some d' => cases e'; rfl
          obtain ⟨v, hv, r⟩ := h.2 j d e2
          refine ⟨v, ?_, r⟩
          show (some v0 :: (js.map (NdefX.slotAt σ) ++ _))[i + 1]? = _
          rw [List.getElem?_cons_succ, List.getElem?_append_left (by simpa using hi), List.getElem?_map, ej]
          show some (NdefX.slotAt σ j) = _
          unfold NdefX.slotAt
          rw [hv]
      · rw [List.getElem?_append_right (by simpa using hi), List.getElem?_replicate] at e
        split at e <;> cases e
/-- a word said in every frame of the generator expression -/
abbrev GBlk (X : Cx) (k : Nat) (N : List Str) (scope : Scope) (W : Cx → Prop) : Prop := ∀ (cl : List (Str × Addr)) (L : Addr) (code : Value) (A' : Around) (s : Shared) (H : Hp) (fp : List Addr) (pn : List (Addr × Obj)), Room k A' → W (gcx X N scope cl L code A' s H fp pn)
section
variable {X : Cx} {pins : List (Addr × Obj)} {σ : L2.St} {H : Hp} {s : Shared} {N fr : List Str} {scope : Scope} {js : List Nat}
theorem tabG_tx {P : Addr} {H1 H2 : Hp} (t : GxR.TabG H1 P) (u : GxR.Tabbed P H1 H2) : Tx H1 H2 := .of fun a o e q => by
  obtain ⟨ps, hP, _⟩ := t
  refine (u.2 a fun z => ?_).trans e
  rw [z, hP] at e
  cases e
  rcases q with ⟨_, q⟩ | ⟨_, _, q⟩ <;> cases q
theorem relM_tab {P : Addr} {H1 H2 : Hp} {M : Mem} (r : RelM H1 M) (hM : M P = some .tbl) (u : GxR.Tabbed P H1 H2) : RelM H2 M := fun a m e => by
  by_cases h : a = P
  · subst h
    rw [hM] at e
    cases e
    exact u.1
  · exact (r a m e).mono (tabG_tx (r P _ hM) u) fun o q => (u.2 a h).trans q
/-- a generator expression made; segs: its frame's segments, from a context of its frame -/
theorem gx_run {P c : Addr} {tg elt iter : Expr} {ifs : List Expr} {gens : List Comprehension} {gpos : Pos} {Γ : Sl} {M : Mem} {stop : Bool} {Pw : PD} {k : Nat} {Q' : Value → Shared → Prop} {RR : List D → (Mem → Prop) → Mem → Prop} (hr : Room (k + 1) X.A) (TB : GxR.TabB X.base X.mg c P) (hcode : X.env.code = .ref c) (S : GScope N [".0"] fr scope)
    (hfree : ∀ y ∈ scope.names, y.2 = .free → X.env.scope.names.lookup y.1 = some .cell ∨ X.env.scope.names.lookup y.1 = some .free) (hfr : ∀ y ∈ fr, (y, NameKind.free) ∈ scope.names) (hjs : js.map (fun j => X.N[j]?) = fr.map some)
    (hs : ∀ v, genFold iter X.env v = pure v) (hN : 1 ≤ N.length) (I : Inv X pins σ H s) (hsl : SIs H σ Γ) (hm : RelM H M)
    (h : WI X tg iter Γ M fun ds keep M1 => M1 P = some .tbl ∧ RR ds keep M1)
    (segs : ∀ (ds : List D) (keep : Mem → Prop) (M1 : Mem) (J : It) (H2 : Hp) (cl : List (Str × Addr)) (L : Addr) (code : Value) (s3 s5 s₀ : Shared) (fp : List Addr) (pn : List (Addr × Obj)) (it : Addr) (tn : Nat → Heap → Prop) (σ0 : L2.St), RR ds keep M1 → WalkD H2 J ds keep → RelM H2 M1 → SIs H2 σ0 (genG N.length js Γ) →
      Room k (gxA X.A elt (⟨tg, iter, ifs, 0⟩ :: gens) scope gpos (.ref it) (genEnv scope cl L code builtinsNs X.env)) → Turn X.prog X.w X.K tg J fp it tn →
      let Y := gcx X N scope cl L code (gxA X.A elt (⟨tg, iter, ifs, 0⟩ :: gens) scope gpos (.ref it) (genEnv scope cl L code builtinsNs X.env)) s3 H2 fp pn
      Inv Y [] σ0 H2 s5 → tn 0 s5.heap → (∀ b ∈ fp, FpOk Y [] H2 b) →
      ∃ n, Seg (model X.prog X.w) X.A.in1.in1 (GR0 Y fun H' => PostE H2 Pw (.bl (!stop)) H') (GP Y stop fun H' => PostE H2 Pw (.bl stop) H') n s₀ (.compLoop (.GeneratorExp elt (⟨tg, iter, ifs, 0⟩ :: gens) scope gpos) 0 (.ref it) .none Y.env)
        ((model X.prog X.w).den (.compLoop (.GeneratorExp elt (⟨tg, iter, ifs, 0⟩ :: gens) scope gpos) 0 (.ref it) .none Y.env)) [] s5)
    (hQ : ∀ (a g : Nat) (s4 : Shared) (Y : Cx) (n : Nat) (Qs Qe : Hp → Prop), Y.prog = X.prog → Y.w = X.w → s4.heap.NoLimit → s4.heap.IsGen a g → (∀ ip σ' H' s', Inv Y ip σ' H' s' → s'.heap.IsGen a g) →
      (∃ gs, s4.gens[g]? = some gs ∧ gs.Goes (model Y.prog Y.w) X.A.in1.in1 (GR0 Y Qe) (GP Y stop Qs) n (.send .none) (s4.setGen g .running)) →
      (∀ b s', Ended Y stop Qs Qe b s' → EP X pins σ (PostE H Pw) (.bool b) s') → Q' (.ref a) s4) :
    wpAny (model X.prog X.w) X.A (eval (.GeneratorExp elt (⟨tg, iter, ifs, 0⟩ :: gens) scope gpos) X.env) Q' X.xe s := by
  have cp := Caps.made (fr := fr) (js := js) I.ok hfree hfr hjs
  have hfree' : ∀ y ∈ scope.names, y.2 = .free → ∃ c, X.env.cells.lookup y.1 = some c := fun y hy e => (hfree y hy e).elim (fun z => I.ok.has _ (.inl z)) fun z => I.ok.has _ (.inr z)
  refine gen_eval (R := fun J H1 => ∃ ds keep M1, Tx H H1 ∧ RelM H1 M1 ∧ M1 P = some .tbl ∧ RR ds keep M1 ∧ WalkD H1 J ds keep) (hr.mono (Nat.zero_le _)) TB hcode S cp hfree' pi_w hs I
    ⟨Γ, M, _, hsl, hm, h, fun J H1 ds keep M1 t m p w => ⟨m P _ p.1, ds, keep, M1, t, m, p.1, p.2, w⟩⟩ ?_
  intro J H1 H2 it fp tn s3 code a g go h5 tk ⟨ds, keep, M1, t, m, hP, gj, wk⟩ tb I3 T t0 hf ho kp hns ha haL hgo hgen hg
  have tab1 := m P _ hP
  have t2 := tabG_tx tab1 tb
  have m2 := relM_tab m hP tb
  have wk2 : WalkD H2 J ds keep := by
    obtain ⟨G, Yl, w, wg, wy⟩ := wk
    exact ⟨G, Yl, w, fun H' M' t' => wg H' M' (t2.trans t'), wy⟩
  let cl := cloFrom X.env.cells scope.names []
  let cenv := genEnv scope cl s3.heap.objs.size code builtinsNs X.env
  let st : GenState := .fresh (.compStart (.GeneratorExp elt (⟨tg, iter, ifs, 0⟩ :: gens) scope gpos) 0 (.ref it) .none cenv)
  have s4b : AllBare (s3.gens.push st) := I3.bare.push rfl
  have sl2 : SIs H2 σ Γ := (hsl.mono t).mono t2
  have J0 : ∀ G' : Array GenState, AllBare G' → L2.Inv (gcx X N scope cl s3.heap.objs.size code (gxA X.A elt (⟨tg, iter, ifs, 0⟩ :: gens) scope gpos (.ref it) cenv) s3 H2 fp [(a, go)]) [] (startF N [.ref it] (js.map (NdefX.slotAt σ))) H2 { s3 with heap := h5, gens := G', toks := tk } := fun G' hG' =>
    inv_gen I3 S cp (show (gxA X.A elt (⟨tg, iter, ifs, 0⟩ :: gens) scope gpos (.ref it) cenv).handled = none from hr.hd) (gxA_frames I3.ok.frames) hf ho kp hns hG' ha haL hgo
  have hb := allBare_setGen (s := { s3 with heap := h5, gens := s3.gens.push st, toks := tk }) (g := g) (x := .running) s4b rfl
  obtain ⟨n, sg⟩ := segs ds keep M1 J H2 cl s3.heap.objs.size code s3 (Shared.setGen { s3 with heap := h5, gens := s3.gens.push st, toks := tk } g .running) (Shared.setGen { s3 with heap := h5, gens := s3.gens.push st, toks := tk } g .running) fp [(a, go)] it tn (startF N [.ref it] (js.map (NdefX.slotAt σ))) gj wk2 m2 (genG_is sl2 hN) hr.gx T (J0 _ hb) t0 (fun b hb => ⟨(hf b hb).1, by
    obtain ⟨f2, f3, f4, f5, f6⟩ := (hf b hb).2
    obtain ⟨o, eo⟩ := ho b hb
    have hl := Heap.lt_size eo
    refine ⟨Nat.ne_of_lt hl, fun z => (List.mem_cons.mp (I3.stkSub _ z)).elim f2 f3, .inl hb, fun x c e => f5 x c (cp.sub x c e), fun p hp z => ?_⟩
    have e : p = (a, go) := by simpa using (show p ∈ [(a, go)] ++ ([] : List (Addr × Obj)) from hp)
    subst e
    have z : a = b := z
    rw [z] at haL
    exact absurd (Nat.lt_trans hl haL) (Nat.lt_irrefl _)⟩)
  refine hQ a g _ (gcx X N scope cl s3.heap.objs.size code (gxA X.A elt (⟨tg, iter, ifs, 0⟩ :: gens) scope gpos (.ref it) cenv) s3 H2 fp [(a, go)]) n (fun H' => PostE H2 Pw (.bl stop) H') (fun H' => PostE H2 Pw (.bl (!stop)) H') rfl rfl ((J0 _ s4b).nolimit) (hgen _ ha) (fun ip σ' H' s' I' => hgen _ (I'.pin (a, go) (List.mem_append_left _ (List.mem_singleton.mpr rfl))).1) ⟨st, ?_, ?_⟩ fun b s' ⟨σ', H', ip, I', q1, q2⟩ => ?_
  · show (s3.gens.push _)[g]? = _
    rw [hg, Array.getElem?_push_size]
  · refine ⟨rfl, ?_⟩
    exact seg_start (Y := gcx X N scope cl s3.heap.objs.size code (gxA X.A elt (⟨tg, iter, ifs, 0⟩ :: gens) scope gpos (.ref it) cenv) s3 H2 fp [(a, go)]) (elt := elt) (iter := iter) (scope := scope) (pos := gpos) (gens := gens) (ifs := ifs) (T := T) (A := X.A.in1.in1) (stop := stop) (n := n) (Qs := fun H' => PostE H2 Pw (.bl stop) H') (Qe := fun H' => PostE H2 Pw (.bl (!stop)) H') (hf := rfl)
      (ht := (show tn 0 (Shared.setGen { s3 with heap := h5, gens := s3.gens.push st, toks := tk } g .running).heap from t0)) sg
  · have I' := inv_back I3 hf I'
    have up : ∀ {v : V}, PostE H2 Pw v H' → PostE H Pw v H' := fun {v} ⟨d, M', t', r, mm, p⟩ => ⟨d, M', (t.trans t2).trans t', r, mm, p⟩
    by_cases hb : b = stop
    · subst hb
      exact ⟨.bl b, H', I', rfl, up (q1 rfl)⟩
    · obtain rfl : b = !stop := by cases b <;> cases stop <;> simp_all
      exact ⟨.bl (!stop), H', I', rfl, up (q2 hb)⟩
theorem call_all_gx {a : Addr} {g : Nat} {Y : Cx} {n : Nat} {Qs Qe : Hp → Prop} {s4 : Shared} {Q : Value → Shared → Prop} {E : Value → Shared → Prop} {A : Around} (hh : A.handled = none) (hd : A.depth < recursionLimit) (hl : s4.heap.NoLimit) (hg : s4.heap.IsGen a g) (hgen : ∀ ip σ' H' s', L2.Inv Y ip σ' H' s' → s'.heap.IsGen a g)
    (gs : ∃ gs, s4.gens[g]? = some gs ∧ gs.Goes (model Y.prog Y.w) A.in1.in1 (GR0 Y Qe) (GP Y false Qs) n (.send .none) (s4.setGen g .running)) (hQ : ∀ b s', Ended Y false Qs Qe b s' → Q (.bool b) s') : wpAny (model Y.prog Y.w) A (call (.builtin "all") [.ref a]) Q E s4 := by
  obtain ⟨gs, h1, h2⟩ := gs
  refine call_function_tree F.kind_all F.plain_all F.entry_all (F.args_all1 _) ?_
  unfold Builtin.«all»
  refine wpAny_bind (m := oneArg "all" _) (wpAny_pure ?_)
  refine wpAny_bind (wpAny_pyIter_gen hg ?_)
  exact wpAny_pure ⟨plainId_quiet F.plain_all_loop _, all_loop hh hd hgen (fun b s' e => hQ b s' e) n s4 gs hl hg h1 h2⟩
theorem call_any_gx {a : Addr} {g : Nat} {Y : Cx} {n : Nat} {Qs Qe : Hp → Prop} {s4 : Shared} {Q : Value → Shared → Prop} {E : Value → Shared → Prop} {A : Around} (hh : A.handled = none) (hd : A.depth < recursionLimit) (hl : s4.heap.NoLimit) (hg : s4.heap.IsGen a g) (hgen : ∀ ip σ' H' s', L2.Inv Y ip σ' H' s' → s'.heap.IsGen a g)
    (gs : ∃ gs, s4.gens[g]? = some gs ∧ gs.Goes (model Y.prog Y.w) A.in1.in1 (GR0 Y Qe) (GP Y true Qs) n (.send .none) (s4.setGen g .running)) (hQ : ∀ b s', Ended Y true Qs Qe b s' → Q (.bool b) s') : wpAny (model Y.prog Y.w) A (call (.builtin "any") [.ref a]) Q E s4 := by
  obtain ⟨gs, h1, h2⟩ := gs
  refine call_function_tree F.kind_any F.plain_any F.entry_any (F.args_any1 _) ?_
  unfold Builtin.«any»
  refine wpAny_bind (m := oneArg "any" _) (wpAny_pure ?_)
  refine wpAny_bind (wpAny_pyIter_gen hg ?_)
  exact wpAny_pure ⟨plainId_quiet F.plain_any_loop _, any_loop hh hd hgen (fun b s' e => hQ b s' e) n s4 gs hl hg h1 h2⟩
end
end DL

set_option Elab.async false
set_option linter.all false
set_option maxRecDepth 100000
set_option maxHeartbeats 4000000
/-! DGd: generator expressions of two clauses. -/
namespace DL
open PySem PySem.Spec PyProof.Rows L2 NdefX GenW
/-- one turn of a clause's loop -/
def clTurn (p0 : Pos) (tg : Expr) (ifs : List Expr) (it : Value) (env : Env) (bd nx : Sem PySem.Fin) : Sem PySem.Fin := do
  standAt p0
  match ← pyNext it with
  | none => pure (.done .next)
  | some v =>
    letOwnedTupleGo tg it v
    assign tg env v
    let ok ← forIn ifs true (fun c r => if r = true then do let ok ← isTrue c env (eval c env); pure (ForInStep.yield ok) else pure (ForInStep.yield r))
    if ok = true then bd else nx
def emElt (elt : Expr) (env : Env) : Sem Unit := do let v ← eval elt env; standAt elt.pos; let _ ← yieldOut env v
def emNest (e : Expr) (d : Nat) (tg iter : Expr) (ifs : List Expr) (env : Env) (nx : Sem PySem.Fin) : Sem PySem.Fin := do
  let x ← eval iter env
  standAt iter.pos
  let x ← foldedSetIterable iter env x
  let _ ← runOwn (.compStart e d (← holding [x] (pyIter x)) .none env) env
  nx
theorem den_one {P : Program} {w : World} (elt tg iter : Expr) (ifs : List Expr) (scope : Scope) (pos : Pos) (it : Value) (env : Env) :
    (model P w).den (.compLoop (.GeneratorExp elt [⟨tg, iter, ifs, 0⟩] scope pos) 0 it .none env) = (clTurn iter.pos tg ifs it env (emElt elt env >>= fun _ => again (.compLoop (.GeneratorExp elt [⟨tg, iter, ifs, 0⟩] scope pos) 0 it .none env)) (again (.compLoop (.GeneratorExp elt [⟨tg, iter, ifs, 0⟩] scope pos) 0 it .none env))).onRaise (leaving env) := by rfl
theorem den_two0 {P : Program} {w : World} (elt tg iter tg1 iter1 : Expr) (ifs ifs1 : List Expr) (scope : Scope) (pos : Pos) (it : Value) (env : Env) :
    (model P w).den (.compLoop (.GeneratorExp elt [⟨tg, iter, ifs, 0⟩, ⟨tg1, iter1, ifs1, 0⟩] scope pos) 0 it .none env) = (clTurn iter.pos tg ifs it env (emNest (.GeneratorExp elt [⟨tg, iter, ifs, 0⟩, ⟨tg1, iter1, ifs1, 0⟩] scope pos) 1 tg1 iter1 ifs1 env (again (.compLoop (.GeneratorExp elt [⟨tg, iter, ifs, 0⟩, ⟨tg1, iter1, ifs1, 0⟩] scope pos) 0 it .none env))) (again (.compLoop (.GeneratorExp elt [⟨tg, iter, ifs, 0⟩, ⟨tg1, iter1, ifs1, 0⟩] scope pos) 0 it .none env))).onRaise (leaving env) := by rfl
theorem den_two1 {P : Program} {w : World} (elt tg iter tg1 iter1 : Expr) (ifs ifs1 : List Expr) (scope : Scope) (pos : Pos) (it : Value) (env : Env) :
    (model P w).den (.compLoop (.GeneratorExp elt [⟨tg, iter, ifs, 0⟩, ⟨tg1, iter1, ifs1, 0⟩] scope pos) 1 it .none env) = (clTurn iter1.pos tg1 ifs1 it env (emElt elt env >>= fun _ => again (.compLoop (.GeneratorExp elt [⟨tg, iter, ifs, 0⟩, ⟨tg1, iter1, ifs1, 0⟩] scope pos) 1 it .none env)) (again (.compLoop (.GeneratorExp elt [⟨tg, iter, ifs, 0⟩, ⟨tg1, iter1, ifs1, 0⟩] scope pos) 1 it .none env))).onRaise (fun x => do noteFrame x env; theTreesLotGoes x) := by rfl
theorem den_start1 {P : Program} {w : World} (elt tg iter tg1 iter1 : Expr) (ifs ifs1 : List Expr) (scope : Scope) (pos : Pos) (it : Value) (env : Env) :
    (model P w).den (.compStart (.GeneratorExp elt [⟨tg, iter, ifs, 0⟩, ⟨tg1, iter1, ifs1, 0⟩] scope pos) 1 it .none env) = (compStart (.GeneratorExp elt [⟨tg, iter, ifs, 0⟩, ⟨tg1, iter1, ifs1, 0⟩] scope pos) 1 it .none env).onRaise (fun x => do noteFrame x env; standAt theWindowsPlace) := by rfl
section
variable {Y : Cx} {tg elt iter e : Expr} {ifs : List Expr} {scope : Scope} {pos p0 : Pos} {g : TG} {te : TE} {tt : TT} {A : Around} {stop : Bool} {Qs Qe : Hp → Prop} {J : It} {fp : List Addr} {it : Addr} {tn : Nat → Heap → Prop} {d : Nat} {fs : List Frame} {ip : List (Addr × Obj)}
/-- a clause's loop over the frames fs; B i: how many may be handed out from the turn i on -/
theorem seg_clause {bd : Sem PySem.Fin} {hr : Value → Sem Unit} (hct : (model Y.prog Y.w).den (.compLoop e d (.ref it) .none Y.env) = (clTurn p0 tg ifs (.ref it) Y.env bd (again (.compLoop e d (.ref it) .none Y.env))).onRaise hr)
    (hG : PG Y tg g) (hT : PTs Y ifs tt) (hc : Y.calm = true) (hx : ∀ u s, ¬ Y.xe u s) (T : Turn Y.prog Y.w Y.K tg J fp it tn)
    (hA : A.over (.compLoop e d (.ref it) .none Y.env) fs = Y.A) (W Em : Nat → L2.St → Hp → Prop) (After : L2.St → Hp → Prop) (n₀ : Nat) (B : Nat → Nat) (hW : ∀ i σ H, W i σ H → i ≤ n₀) (hB : ∀ i, i < n₀ → B (i + 1) ≤ B i)
    (after : ∀ i n s₀ s σ H, i ≤ n₀ → B i ≤ n → Inv Y ip σ H s → After σ H → Seg (model Y.prog Y.w) A (GR0 Y Qe) (GP Y stop Qs) n s₀ (.compLoop e d (.ref it) .none Y.env) (leafOf (.ok .next)) fs s)
    (turn : ∀ i σ H, W i σ H → (J.stop i H ∧ After σ H) ∨ (i < n₀ ∧ J.go i H ∧ ∀ x H', J.yld i H x H' → g x σ H' fun σ2 H2 => tt σ2 H2 fun ok H3 => if ok = true then Em i σ2 H3 else W (i + 1) σ2 H3))
    (emitOk : ∀ (i : Nat) (ip' : List (Addr × Obj)) (n : Nat) (s₀ s : Shared) (σ : L2.St) (H : Hp) (K' : PySem.Fin → Sem PySem.Fin) (Hr : Value → Sem PySem.Fin) (gd : Bool → Bool) (lv : List Value → List Value), i < n₀ → B i ≤ n → gd false = false → Inv Y ip' σ H s → Em i σ H →
      (∀ n' s₀' s' σ' H', B (i + 1) ≤ n' → Inv Y ip' σ' H' s' → W (i + 1) σ' H' → Seg (model Y.prog Y.w) A (GR0 Y Qe) (GP Y stop Qs) n' s₀' (.compLoop e d (.ref it) .none Y.env) ((again (.compLoop e d (.ref it) .none Y.env) : Sem PySem.Fin).wrap K' Hr gd lv) fs s') →
      Seg (model Y.prog Y.w) A (GR0 Y Qe) (GP Y stop Qs) n s₀ (.compLoop e d (.ref it) .none Y.env) (bd.wrap K' Hr gd lv) fs s) :
    ∀ (k i n : Nat) (s₀ s : Shared) (σ : L2.St) (H : Hp), n₀ - i = k → B i ≤ n → Inv Y ip σ H s → tn i s.heap → (∀ b ∈ fp, FpOk Y ip H b) → W i σ H →
      Seg (model Y.prog Y.w) A (GR0 Y Qe) (GP Y stop Qs) n s₀ (.compLoop e d (.ref it) .none Y.env) ((model Y.prog Y.w).den (.compLoop e d (.ref it) .none Y.env)) fs s := by
  intro k
  induction k with
  | zero =>
    intro i n s₀ s σ H hk hn I ht hf w
    have hi := hW i σ H w
    rcases turn i σ H w with ⟨st, qe⟩ | ⟨hlt, _⟩
    · rw [hct, Sem.onRaise_eq_wrap]
      unfold clTurn
      refine seg_bind_wrap (wpAny_standAt ?_)
      refine seg_bind_wrap ?_
      rw [hA]
      refine wpAny_mono (T.done Y rfl rfl rfl hc i ip s σ H Y.xe I hf ht st) (fun r s1 ⟨er, I1⟩ => ?_) fun u s1 z => (hx u s1 z).elim
      subst er
      exact after i n s₀ s1 σ H hi hn I1 qe
    · omega
  | succ k ih =>
    intro i n s₀ s σ H hk hn I ht hf w
    rw [hct, Sem.onRaise_eq_wrap]
    unfold clTurn
    refine seg_bind_wrap (wpAny_standAt ?_)
    refine seg_bind_wrap ?_
    rw [hA]
    rcases turn i σ H w with ⟨st, qe⟩ | ⟨hlt, go, step⟩
    · refine wpAny_mono (T.done Y rfl rfl rfl hc i ip s σ H Y.xe I hf ht st) (fun r s1 ⟨er, I1⟩ => ?_) fun u s1 z => (hx u s1 z).elim
      subst er
      exact after i n s₀ s1 σ H (hW i σ H w) hn I1 qe
    · refine wpAny_mono (T.item Y rfl rfl rfl hc i ip s σ H Y.xe I hf ht go) (fun r s1 ⟨u, er, h1⟩ => ?_) fun u s1 z => (hx u s1 z).elim
      subst er
      refine seg_bind_wrap ?_
      rw [hA]
      refine wpAny_mono h1 (fun _ s5 ⟨x, H5, I5, r5, y5, t5, fr5⟩ => ?_) fun u s1 z => (hx u s1 z).elim
      have stat : ∀ {H' : Hp}, (∀ b ∈ fp, H' b = none) → ∀ b ∈ fp, FpOk Y ip H' b := fun hn b hb => ⟨hn b hb, (hf b hb).2⟩
      have I5' := I5.pinned (stat fr5) (T.obj _ _ t5)
      refine seg_bind_wrap ?_
      rw [hA]
      refine wpAny_mono (hG.run _ s5 σ H5 x u _ I5' r5 (step x H5 y5)) (fun _ s6 ⟨σ6, H6, I6, q6⟩ => ?_) fun u s1 z => (hx u s1 z).elim
      refine seg_bind_wrap ?_
      rw [hA]
      refine wpAny_mono (hT.run _ s6 σ6 H6 _ I6 q6) (fun ok s7 ⟨H7, I7, q7⟩ => ?_) fun u s1 z => (hx u s1 z).elim
      have back : ∀ (n' : Nat) (s₀' s' : Shared) (σ' : L2.St) (H' : Hp), B (i + 1) ≤ n' → Inv Y (ip ++ pinsAt fp s5.heap) σ' H' s' → W (i + 1) σ' H' →
          Seg (model Y.prog Y.w) A (GR0 Y Qe) (GP Y stop Qs) n' s₀' (.compLoop e d (.ref it) .none Y.env) (.pure (.again (.compLoop e d (.ref it) .none Y.env))) fs s' := fun n' s₀' s' σ' H' hn' I' w' => by
        have frs : ∀ b ∈ fp, H' b = none := fun b hb => by
          obtain ⟨o, e, dd⟩ := T.obj _ _ t5 b hb
          exact (I'.pin (b, o) (List.mem_append_right _ (List.mem_append_right _ (mem_pinsAt hb e)))).2.1
        have t8 : tn (i + 1) s'.heap := T.keep _ _ _ t5 fun b hb o e => (I'.pin (b, o) (List.mem_append_right _ (List.mem_append_right _ (mem_pinsAt hb e)))).1
        exact seg_again rfl (ih (i + 1) n' s₀' s' σ' H' (by omega) hn' I'.unpinned t8 (stat frs) w')
      cases ok with
      | false =>
        rw [if_neg Bool.false_ne_true] at q7
        rw [if_neg Bool.false_ne_true]
        exact back n s₀ s7 σ6 H7 (Nat.le_trans (hB i hlt) hn) I7 q7
      | true =>
        rw [if_pos rfl] at q7
        rw [if_pos rfl]
        exact emitOk i _ n s₀ s7 σ6 H7 _ _ _ _ hlt hn rfl I7 q7 back
/-- the element is handed out -/
theorem emit_elt {c : Code} (hE : PE Y elt te) (hx : ∀ u s, ¬ Y.xe u s) (hco : Y.env.scope.isCoroutine = false) (hA : A.over c fs = Y.A) (hfs : splitAtGen fs = none) (hfg : fs.any Frame.guarded = false) {n b0 : Nat} {ip' : List (Addr × Obj)} {s₀ s : Shared} {σ : L2.St} {H : Hp} {nx : Sem PySem.Fin} {K' : PySem.Fin → Sem PySem.Fin} {Hr : Value → Sem PySem.Fin} {gd : Bool → Bool} {lv : List Value → List Value} (Nx : L2.St → Hp → Prop) (hn : b0 + 1 ≤ n)
    (hgd : gd false = false) (I : Inv Y ip' σ H s) (q : te σ H fun v H3 => ∃ b, v = .bl b ∧ (b = stop → Qs H3) ∧ (b ≠ stop → Nx σ H3))
    (back : ∀ n' s₀' s' σ' H', b0 ≤ n' → Inv Y ip' σ' H' s' → Nx σ' H' → Seg (model Y.prog Y.w) A (GR0 Y Qe) (GP Y stop Qs) n' s₀' c (nx.wrap K' Hr gd lv) fs s') :
    Seg (model Y.prog Y.w) A (GR0 Y Qe) (GP Y stop Qs) n s₀ c ((emElt elt Y.env >>= fun _ => nx).wrap K' Hr gd lv) fs s := by
  rw [Sem.bind_eq_wrap', Sem.wrap_wrap]
  unfold emElt
  refine seg_bind_wrap ?_
  rw [hA]
  have hy : ∀ v, yieldOut Y.env v = yieldValue v := fun v => by simp only [yieldOut, hco, Bool.false_eq_true, if_false]
  simp only [hy]
  refine wpAny_mono (hE.run _ s σ H _ I q) (fun y s7 ⟨v, H7, I7, r7, b, ev, q1, q2⟩ => ?_) fun u s1 z => (hx u s1 z).elim
  subst ev
  obtain rfl : y = Value.bool b := r7
  obtain ⟨n', rfl⟩ : ∃ n', n = n' + 1 := ⟨n - 1, by omega⟩
  refine seg_bind_wrap (wpAny_standAt ?_)
  rw [Sem.bind_eq_wrap', Sem.wrap_wrap]
  refine seg_yield hfs hgd hfg ⟨b, σ, H7, _, rfl, I7, q1, fun hb s' z => ?_⟩
  exact back n' s' s' σ H7 (by omega) (inv_slept I7 z) (q2 hb)
/-- a nested clause: its loop, then on -/
theorem emit_nest {c : Code} {d1 : Nat} {wi : TI} {hr : Value → Sem Unit} (hst : ∀ it, (model Y.prog Y.w).den (.compStart e d1 it .none Y.env) = (compStart e d1 it .none Y.env).onRaise hr) (hI : PI Y tg iter wi) (hx : ∀ u s, ¬ Y.xe u s) (hA : A.over c fs = Y.A) {n : Nat} {ip' : List (Addr × Obj)} {s₀ s : Shared} {σ : L2.St} {H : Hp}
    {nx : Sem PySem.Fin} {K' : PySem.Fin → Sem PySem.Fin} {Hr : Value → Sem PySem.Fin} {gd : Bool → Bool} {lv : List Value → List Value}
    (hcl : (clausesOf e)[d1]? = some ⟨tg, iter, ifs, 0⟩) (hs : ∀ x, foldedSetIterable iter Y.env x = pure x) (hq : ∀ it, (Code.compLoop e d1 it .none Y.env).quiet = true) (I : Inv Y ip' σ H s) {Rr : It → Hp → Prop} (q : wi σ H Rr)
    (loop : ∀ (it : Addr) (fp : List Addr) (tn : Nat → Heap → Prop) (J : It) (H1 : Hp) (s1 : Shared) (p : Pos) (l : List Value) (kk : Result → Sem PySem.Fin), (∀ f, kk (.ok f) = nx.wrap K' Hr gd lv) → Turn Y.prog Y.w Y.K tg J fp it tn → Inv Y ip' σ H1 s1 → tn 0 s1.heap → (∀ b ∈ fp, FpOk Y ip' H1 b) → Rr J H1 →
      Seg (model Y.prog Y.w) A (GR0 Y Qe) (GP Y stop Qs) n s₀ (.compLoop e d1 (.ref it) .none Y.env) ((model Y.prog Y.w).den (.compLoop e d1 (.ref it) .none Y.env))
        (.ret kk none (gd false) l c p [] :: fs) s1) :
    Seg (model Y.prog Y.w) A (GR0 Y Qe) (GP Y stop Qs) n s₀ c ((emNest e d1 tg iter ifs Y.env nx).wrap K' Hr gd lv) fs s := by
  unfold emNest
  refine seg_bind_wrap ?_
  rw [hA]
  refine wpAny_mono (hI.run ip' s σ H Rr I q) (fun v s1 h1 => ?_) fun u s1 z => (hx u s1 z).elim
  refine seg_bind_wrap (wpAny_standAt ?_)
  rw [hs]
  refine seg_bind_wrap (wpAny_pure ?_)
  refine seg_bind_wrap ?_
  rw [hA]
  refine wpAny_holding (wpAny_mono h1 (fun itv s2 ⟨it, fp, tn, J, H1, eit, I1, T, t0, f0, rr⟩ => ?_) fun u s1 z => (hx u s1 z).elim)
  subst eit
  rw [Sem.bind_eq_wrap', Sem.wrap_wrap]
  show Seg _ A _ _ _ s₀ c ((((Sem.call (.compStart e d1 (.ref it) .none Y.env) none false [] fun | .ok f => .pure f | .error e => .raise e) : Sem Flow).onRaise _).wrap _ _ _ _) fs s2
  refine seg_call fun p => ?_
  rw [hst, Sem.onRaise_eq_wrap]
  unfold compStart
  rw [hcl]
  have fin := loop it fp tn J H1 s2 p (lv []) (fun r => ((match r with | .ok f => (.pure f : Sem Flow) | .error e => .raise e).onRaise (cameBack Y.env)).wrap (fun _ => nx.wrap K' Hr gd lv) (fun e => (Sem.raise e : Sem PySem.Fin).wrap K' Hr gd lv) gd lv) (fun f => rfl) T I1 t0 f0 rr
  show Seg _ A _ _ _ s₀ _ ((ask >>= _).wrap _ _ _ _) _ s2
  refine seg_bind_wrap (wpAny_askSetting ?_)
  split
  · exact seg_again (hq _) fin
  · refine seg_bind_wrap (wpAny_rule ?_)
    show Seg _ A _ _ _ s₀ _ ((standAt iter.pos >>= _).wrap _ _ _ _) _ s2
    exact seg_bind_wrap (wpAny_standAt (seg_bind_wrap (T.self _ 0 s2 _ _ t0 (seg_again (hq _) fin))))
end
end DL

set_option Elab.async false
set_option linter.all false
set_option maxRecDepth 100000
set_option maxHeartbeats 4000000
/-! DGe: all, any of a generator expression of one or two clauses, by data. -/
namespace DL
open PySem PySem.Spec PyProof.Rows L2 NdefX GenW
/-- a clause's tests (none or one) -/
def TsD (Y : Cx) (ifs : List Expr) (Γ : Sl) (M : Mem) (P : Bool → Mem → Prop) : Prop := match ifs with
  | [] => P true M
  | [c] => WT Y c Γ M P
  | _ => False
def tTs (Y : Cx) (ifs : List Expr) : TT := match ifs with
  | [] => tYes
  | [c] => tWT Y c
  | _ => fun _ _ _ => False
theorem pts_w {Y : Cx} : ∀ {ifs : List Expr}, ifs.length ≤ 1 → PTs Y ifs (tTs Y ifs)
  | [], _ => pts_nil
  | [c], _ => pts_one pt_w
  | _ :: _ :: _, h => absurd h (by simp)
theorem tts {Y : Cx} {ifs : List Expr} {Γ : Sl} {M : Mem} {P : Bool → Mem → Prop} {σ : L2.St} {H : Hp} {Q : Bool → Hp → Prop} (h : TsD Y ifs Γ M P) (hs : SIs H σ Γ) (hm : RelM H M) (k : ∀ v H' M', Tx H H' → RelM H' M' → P v M' → Q v H') : tTs Y ifs σ H Q := by
  match ifs, h with
  | [], h => exact k true H M (Tx.refl H) hm h
  | [c], h => exact twt h hs hm k
/-- the element's word -/
abbrev EltW (Y : Cx) (elt : Expr) (stop : Bool) (Γ : Sl) (M : Mem) (P : PD) (Nx : Mem → Prop) : Prop := WE Y elt Γ M fun y M3 => ∃ b, y = .bl b ∧ (b = stop → P (.bl stop) M3) ∧ (b ≠ stop → Nx M3)
/-- a clause's words: Bd what stands behind its tests -/
def ClJ (X : Cx) (k : Nat) (N : List Str) (scope : Scope) (tg : Expr) (ifs : List Expr) (Γ0 : Sl) (ds : List D) (keep : Mem → Prop) (M1 : Mem) (Bd : Cx → Sl → Mem → (Mem → Prop) → Prop) (After : Mem → Prop) : Prop :=
  ∃ J : Nat → Mem → Prop, J 0 M1 ∧ (∀ i M', i ≤ ds.length → J i M' → keep M') ∧
    (∀ (i : Nat) (d : D) (M' : Mem), ds[i]? = some d → J i M' → GBlk X k N scope fun Y => WG Y tg d Γ0 M' fun Γ2 M2 => SlE Γ0 Γ2 ∧ TsD Y ifs Γ2 M2 fun ok M3 => (ok = true → Bd Y Γ2 M3 (J (i + 1))) ∧ (ok = false → J (i + 1) M3)) ∧
    ∀ M', J ds.length M' → After M'
/-- one clause -/
abbrev GnJ (X : Cx) (k : Nat) (N : List Str) (scope : Scope) (tg elt : Expr) (ifs : List Expr) (stop : Bool) (Γ0 : Sl) (ds : List D) (keep : Mem → Prop) (M1 : Mem) (P : PD) : Prop :=
  ClJ X k N scope tg ifs Γ0 ds keep M1 (fun Y Γ2 M3 Nx => EltW Y elt stop Γ2 M3 P Nx) fun M' => P (.bl (!stop)) M'
/-- two clauses; the inner one hands out at most b1 at each turn -/
abbrev GnJ2 (X : Cx) (k : Nat) (N : List Str) (scope : Scope) (tg tg1 iter1 elt : Expr) (ifs ifs1 : List Expr) (stop : Bool) (Γ0 : Sl) (ds : List D) (keep : Mem → Prop) (M1 : Mem) (P : PD) : Prop :=
  ∃ b1 : Nat, ClJ X k N scope tg ifs Γ0 ds keep M1 (fun Y Γ2 M3 Nx => WI Y tg1 iter1 Γ2 M3 fun ds1 keep1 M4 => ds1.length ≤ b1 ∧ ClJ X k N scope tg1 ifs1 Γ2 ds1 keep1 M4 (fun Y' Γ3 M5 Nx1 => EltW Y' elt stop Γ3 M5 P Nx1) Nx) fun M' => P (.bl (!stop)) M'
section
variable {X : Cx} {pins : List (Addr × Obj)} {σ : L2.St} {H : Hp} {s : Shared} {N fr : List Str} {scope : Scope} {js : List Nat}
variable {P c : Addr} {tg elt iter tg1 iter1 : Expr} {ifs ifs1 : List Expr} {gpos pos p : Pos} {Γ : Sl} {M : Mem} {stop : Bool} {Pw : PD} {k : Nat}
abbrev G1 (elt tg iter : Expr) (ifs : List Expr) (scope : Scope) (pos : Pos) : Expr := .GeneratorExp elt [⟨tg, iter, ifs, 0⟩] scope pos
abbrev G2 (elt tg iter tg1 iter1 : Expr) (ifs ifs1 : List Expr) (scope : Scope) (pos : Pos) : Expr := .GeneratorExp elt [⟨tg, iter, ifs, 0⟩, ⟨tg1, iter1, ifs1, 0⟩] scope pos
/-- one turn of a clause, read -/
theorem cl_turn {Y : Cx} {J : It} {ds : List D} {keep : Mem → Prop} {H2 : Hp} {Γ0 : Sl} {Jv : Nat → Mem → Prop} {After : L2.St → Hp → Prop} {Em : Nat → L2.St → Hp → Prop} {Bd : Sl → Mem → (Mem → Prop) → Prop} (wk : WalkD H2 J ds keep) (jk : ∀ i M', i ≤ ds.length → Jv i M' → keep M')
    (jt : ∀ (i : Nat) (d : D) (M' : Mem), ds[i]? = some d → Jv i M' → WG Y tg d Γ0 M' fun Γ2 M2 => SlE Γ0 Γ2 ∧ TsD Y ifs Γ2 M2 fun ok M3 => (ok = true → Bd Γ2 M3 (Jv (i + 1))) ∧ (ok = false → Jv (i + 1) M3))
    (hem : ∀ i σ' H' Γ2 M3, i < ds.length → Tx H2 H' → SlE Γ0 Γ2 → SIs H' σ' Γ2 → RelM H' M3 → Bd Γ2 M3 (Jv (i + 1)) → Em i σ' H') (aft : ∀ σ' H' M', Tx H2 H' → SIs H' σ' Γ0 → RelM H' M' → Jv ds.length M' → After σ' H')
    {Wv : Nat → L2.St → Hp → Prop} (hWv : ∀ i σ' H', Wv i σ' H' ↔ (i ≤ ds.length ∧ ∃ M', Tx H2 H' ∧ SIs H' σ' Γ0 ∧ RelM H' M' ∧ Jv i M')) (i : Nat) (σ' : L2.St) (H' : Hp) (w : Wv i σ' H') :
    (J.stop i H' ∧ After σ' H') ∨ (i < ds.length ∧ J.go i H' ∧ ∀ x H3, J.yld i H' x H3 → tWG Y tg x σ' H3 fun σ2 H4 => tTs Y ifs σ2 H4 fun ok H5 => if ok = true then Em i σ2 H5 else Wv (i + 1) σ2 H5) := by
  obtain ⟨hi, M', t', s', m', j'⟩ := (hWv i σ' H').mp w
  obtain ⟨G, Yl, w, wg, wy⟩ := wk
  rcases Nat.eq_or_lt_of_le hi with e | hlt
  · refine .inl ⟨?_, aft σ' H' M' t' s' m' (e ▸ j')⟩
    rw [e]
    exact w.stops H' (wg H' M' t' m' (jk i M' hi j'))
  · refine .inr ⟨hlt, w.goes i H' hlt (wg H' M' t' m' (jk i M' hi j')), fun x H3 yl => ?_⟩
    obtain ⟨d, hd, r, t3, k3⟩ := wy i H' x H3 hlt (wg H' M' t' m' (jk i M' hi j')) (w.yields i H' x H3 hlt (wg H' M' t' m' (jk i M' hi j')) yl)
    refine ⟨d, _, M', _, r, s'.mono t3, k3 M' m', jt i d M' hd j', fun σ4 H4 ⟨Γ4, M4, t4, s4, m4, e4, b4⟩ => ?_⟩
    refine tts b4 s4 m4 fun ok H5 M5 t5 m5 ⟨q1, q2⟩ => ?_
    have T5 := (t'.trans t3).trans (t4.trans t5)
    cases ok with
    | true =>
      rw [if_pos rfl]
      exact hem i σ4 H5 Γ4 M5 hlt T5 e4 (s4.mono t5) m5 (q1 rfl)
    | false =>
      rw [if_neg Bool.false_ne_true]
      exact (hWv (i + 1) σ4 H5).mpr ⟨hlt, M5, T5, (e4.sis s4).mono t5, m5, q2 rfl⟩
/-- the segments of one clause -/
theorem segs_one {s3 s5 s₀ : Shared} {cl : List (Str × Addr)} {L : Addr} {code : Value} {fp : List Addr} {pn : List (Addr × Obj)} {it : Addr} {tn : Nat → Heap → Prop} {σ0 : L2.St} {ds : List D} {keep : Mem → Prop} {M1 : Mem} {J : It} {H2 : Hp} {Γ0 : Sl} (hco : scope.isCoroutine = false) (hifs : ifs.length ≤ 1)
    (gj : GnJ X k N scope tg elt ifs stop Γ0 ds keep M1 Pw) (wk : WalkD H2 J ds keep) (m2 : RelM H2 M1) (sl : SIs H2 σ0 Γ0) (rk : Room k (gxA X.A elt [⟨tg, iter, ifs, 0⟩] scope gpos (.ref it) (genEnv scope cl L code builtinsNs X.env))) (T : Turn X.prog X.w X.K tg J fp it tn)
    (I : Inv (gcx X N scope cl L code (gxA X.A elt [⟨tg, iter, ifs, 0⟩] scope gpos (.ref it) (genEnv scope cl L code builtinsNs X.env)) s3 H2 fp pn) [] σ0 H2 s5) (t0 : tn 0 s5.heap) (f0 : ∀ b ∈ fp, FpOk (gcx X N scope cl L code (gxA X.A elt [⟨tg, iter, ifs, 0⟩] scope gpos (.ref it) (genEnv scope cl L code builtinsNs X.env)) s3 H2 fp pn) [] H2 b) :
    ∃ n, Seg (model X.prog X.w) X.A.in1.in1 (GR0 (gcx X N scope cl L code (gxA X.A elt [⟨tg, iter, ifs, 0⟩] scope gpos (.ref it) (genEnv scope cl L code builtinsNs X.env)) s3 H2 fp pn) fun H' => PostE H2 Pw (.bl (!stop)) H') (GP (gcx X N scope cl L code (gxA X.A elt [⟨tg, iter, ifs, 0⟩] scope gpos (.ref it) (genEnv scope cl L code builtinsNs X.env)) s3 H2 fp pn) stop fun H' => PostE H2 Pw (.bl stop) H') n s₀ (.compLoop (G1 elt tg iter ifs scope gpos) 0 (.ref it) .none (genEnv scope cl L code builtinsNs X.env))
        ((model X.prog X.w).den (.compLoop (G1 elt tg iter ifs scope gpos) 0 (.ref it) .none (genEnv scope cl L code builtinsNs X.env))) [] s5 := by
  obtain ⟨Jv, j0, jk, jt, jd⟩ := gj
  generalize hA' : gxA X.A elt [⟨tg, iter, ifs, 0⟩] scope gpos (.ref it) (genEnv scope cl L code builtinsNs X.env) = A' at rk I f0 ⊢
  let Wv : Nat → L2.St → Hp → Prop := fun i σ' H' => i ≤ ds.length ∧ ∃ M', Tx H2 H' ∧ SIs H' σ' Γ0 ∧ RelM H' M' ∧ Jv i M'
  let Em : Nat → L2.St → Hp → Prop := fun i σ' H' => ∃ Γ2 M3, Tx H2 H' ∧ SlE Γ0 Γ2 ∧ SIs H' σ' Γ2 ∧ RelM H' M3 ∧ EltW (gcx X N scope cl L code A' s3 H2 fp pn) elt stop Γ2 M3 Pw (Jv (i + 1))
  refine ⟨ds.length, seg_clause (Y := gcx X N scope cl L code A' s3 H2 fp pn) (e := G1 elt tg iter ifs scope gpos) (d := 0) (fs := []) (ip := []) (p0 := iter.pos) (hct := den_one elt tg iter ifs scope gpos (.ref it) _) (g := tWG _ tg) (tt := tTs _ ifs) pg_w (pts_w hifs) rfl (fun _ _ z => z) T hA' Wv Em (fun σ' H' => PostE H2 Pw (.bl (!stop)) H') ds.length (fun i => ds.length - i) (fun i σ' H' e => e.1) (fun i hi => by show ds.length - (i + 1) ≤ ds.length - i; omega)
    (fun i n s₀ s σ' H' hi hn I' q => seg_end (.ok .next) (.inl ⟨.inr rfl, σ', H', [], I', q⟩))
    (cl_turn wk jk (fun i d M' hd j => jt i d M' hd j _ _ _ _ _ _ _ _ rk) (fun i σ' H' Γ2 M3 hi t e s' m b => ⟨Γ2, M3, t, e, s', m, b⟩) (fun σ' H' M' t s' m j => ⟨.bl (!stop), M', t, .bl _, m, jd M' j⟩) fun _ _ _ => Iff.rfl)
    (fun i ip' n s₀ s σ' H' K' Hr gd lv hi hn hgd I' ⟨Γ2, M3, t, e, s', m, b⟩ back => ?_) ds.length 0 ds.length s₀ s5 σ0 H2 rfl (Nat.le_refl _) I t0 f0 ⟨Nat.zero_le _, M1, Tx.refl _, sl, m2, j0⟩⟩
  refine emit_elt (te := tW _ elt) (b0 := ds.length - (i + 1)) pe_w (fun _ _ z => z) hco hA' rfl rfl (fun σ2 H3 => σ2 = σ' ∧ Wv (i + 1) σ2 H3) (by have : ds.length - i ≤ n := hn; omega) hgd I' ⟨Γ2, M3, _, s', m, b, fun v H5 ⟨d5, M5, t5, r5, m5, b5, e5, q1, q2⟩ => ?_⟩ fun n' s₀' s'' σ2 H3 hn' I2 w => back n' s₀' s'' σ2 H3 hn' I2 w.2
  subst e5
  cases r5
  exact ⟨b5, rfl, fun hb => ⟨.bl stop, M5, t.trans t5, .bl _, m5, q1 hb⟩, fun hb => ⟨rfl, hi, M5, t.trans t5, (e.sis s').mono t5, m5, q2 hb⟩⟩
/-- the segments of two clauses -/
theorem segs_two {s3 s5 s₀ : Shared} {cl : List (Str × Addr)} {L : Addr} {code : Value} {fp : List Addr} {pn : List (Addr × Obj)} {it : Addr} {tn : Nat → Heap → Prop} {σ0 : L2.St} {ds : List D} {keep : Mem → Prop} {M1 : Mem} {J : It} {H2 : Hp} {Γ0 : Sl} (hco : scope.isCoroutine = false) (hifs : ifs.length ≤ 1) (hifs1 : ifs1.length ≤ 1)
    (hfold : ∀ (env : Env) (x : Value), foldedSetIterable iter1 env x = pure x)
    (gj : GnJ2 X k N scope tg tg1 iter1 elt ifs ifs1 stop Γ0 ds keep M1 Pw) (wk : WalkD H2 J ds keep) (m2 : RelM H2 M1) (sl : SIs H2 σ0 Γ0) (rk : Room k (gxA X.A elt [⟨tg, iter, ifs, 0⟩, ⟨tg1, iter1, ifs1, 0⟩] scope gpos (.ref it) (genEnv scope cl L code builtinsNs X.env))) (T : Turn X.prog X.w X.K tg J fp it tn)
    (I : Inv (gcx X N scope cl L code (gxA X.A elt [⟨tg, iter, ifs, 0⟩, ⟨tg1, iter1, ifs1, 0⟩] scope gpos (.ref it) (genEnv scope cl L code builtinsNs X.env)) s3 H2 fp pn) [] σ0 H2 s5) (t0 : tn 0 s5.heap) (f0 : ∀ b ∈ fp, FpOk (gcx X N scope cl L code (gxA X.A elt [⟨tg, iter, ifs, 0⟩, ⟨tg1, iter1, ifs1, 0⟩] scope gpos (.ref it) (genEnv scope cl L code builtinsNs X.env)) s3 H2 fp pn) [] H2 b) :
    ∃ n, Seg (model X.prog X.w) X.A.in1.in1 (GR0 (gcx X N scope cl L code (gxA X.A elt [⟨tg, iter, ifs, 0⟩, ⟨tg1, iter1, ifs1, 0⟩] scope gpos (.ref it) (genEnv scope cl L code builtinsNs X.env)) s3 H2 fp pn) fun H' => PostE H2 Pw (.bl (!stop)) H') (GP (gcx X N scope cl L code (gxA X.A elt [⟨tg, iter, ifs, 0⟩, ⟨tg1, iter1, ifs1, 0⟩] scope gpos (.ref it) (genEnv scope cl L code builtinsNs X.env)) s3 H2 fp pn) stop fun H' => PostE H2 Pw (.bl stop) H') n s₀ (.compLoop (G2 elt tg iter tg1 iter1 ifs ifs1 scope gpos) 0 (.ref it) .none (genEnv scope cl L code builtinsNs X.env))
        ((model X.prog X.w).den (.compLoop (G2 elt tg iter tg1 iter1 ifs ifs1 scope gpos) 0 (.ref it) .none (genEnv scope cl L code builtinsNs X.env))) [] s5 := by
  obtain ⟨b1, Jv, j0, jk, jt, jd⟩ := gj
  generalize hA' : gxA X.A elt [⟨tg, iter, ifs, 0⟩, ⟨tg1, iter1, ifs1, 0⟩] scope gpos (.ref it) (genEnv scope cl L code builtinsNs X.env) = A' at rk I f0 ⊢
  let Y := gcx X N scope cl L code A' s3 H2 fp pn
  let Wv : Nat → L2.St → Hp → Prop := fun i σ' H' => i ≤ ds.length ∧ ∃ M', Tx H2 H' ∧ SIs H' σ' Γ0 ∧ RelM H' M' ∧ Jv i M'
  let Em : Nat → L2.St → Hp → Prop := fun i σ' H' => ∃ Γ2 M3, Tx H2 H' ∧ SlE Γ0 Γ2 ∧ SIs H' σ' Γ2 ∧ RelM H' M3 ∧ WI Y tg1 iter1 Γ2 M3 fun ds1 keep1 M4 => ds1.length ≤ b1 ∧ ClJ X k N scope tg1 ifs1 Γ2 ds1 keep1 M4 (fun Y' Γ3 M5 Nx1 => EltW Y' elt stop Γ3 M5 Pw Nx1) (Jv (i + 1))
  have mulS : ∀ i, i < ds.length → (ds.length - i) * b1 = (ds.length - (i + 1)) * b1 + b1 := fun i hi => by
    rw [show ds.length - i = ds.length - (i + 1) + 1 by omega, Nat.succ_mul]
  refine ⟨ds.length * b1, seg_clause (Y := Y) (e := G2 elt tg iter tg1 iter1 ifs ifs1 scope gpos) (d := 0) (fs := []) (ip := []) (p0 := iter.pos) (hct := den_two0 elt tg iter tg1 iter1 ifs ifs1 scope gpos (.ref it) _) (g := tWG _ tg) (tt := tTs _ ifs) pg_w (pts_w hifs) rfl (fun _ _ z => z) T hA' Wv Em (fun σ' H' => PostE H2 Pw (.bl (!stop)) H') ds.length (fun i => (ds.length - i) * b1) (fun i σ' H' e => e.1) (fun i hi => by have := mulS i hi; show (ds.length - (i + 1)) * b1 ≤ (ds.length - i) * b1; omega)
    (fun i n s₀ s σ' H' hi hn I' q => seg_end (.ok .next) (.inl ⟨.inr rfl, σ', H', [], I', q⟩))
    (cl_turn (Bd := fun Γ2 M3 Nx => WI Y tg1 iter1 Γ2 M3 fun ds1 keep1 M4 => ds1.length ≤ b1 ∧ ClJ X k N scope tg1 ifs1 Γ2 ds1 keep1 M4 (fun Y' Γ3 M5 Nx1 => EltW Y' elt stop Γ3 M5 Pw Nx1) Nx) wk jk (fun i d M' hd j => jt i d M' hd j _ _ _ _ _ _ _ _ rk) (fun i σ' H' Γ2 M3 hi t e s' m b => ⟨Γ2, M3, t, e, s', m, b⟩) (fun σ' H' M' t s' m j => ⟨.bl (!stop), M', t, .bl _, m, jd M' j⟩) fun _ _ _ => Iff.rfl)
    (fun i ip' n s₀ s σ' H' K' Hr gd lv hi hn hgd I' ⟨Γ2, M3, t, e, s', m, b⟩ back => ?_) ds.length 0 (ds.length * b1) s₀ s5 σ0 H2 rfl (Nat.le_refl _) I t0 f0 ⟨Nat.zero_le _, M1, Tx.refl _, sl, m2, j0⟩⟩
  have hn : (ds.length - i) * b1 ≤ n := hn
  have hms := mulS i hi
  refine emit_nest (Y := Y) (c := .compLoop (G2 elt tg iter tg1 iter1 ifs ifs1 scope gpos) 0 (.ref it) .none (genEnv scope cl L code builtinsNs X.env)) (d1 := 1) (ifs := ifs1) (wi := tWI Y tg1 iter1) (hst := fun it1 => den_start1 elt tg iter tg1 iter1 ifs ifs1 scope gpos it1 _) pi_w (fun _ _ z => z) hA' rfl (hfold _) (fun _ => rfl) I'
    (Rr := fun J1 H1 => ∃ ds1 keep1 M4, Tx H' H1 ∧ RelM H1 M4 ∧ (ds1.length ≤ b1 ∧ ClJ X k N scope tg1 ifs1 Γ2 ds1 keep1 M4 (fun Y' Γ3 M5 Nx1 => EltW Y' elt stop Γ3 M5 Pw Nx1) (Jv (i + 1))) ∧ WalkD H1 J1 ds1 keep1)
    ⟨Γ2, M3, _, s', m, b, fun J1 H1 ds1 keep1 M4 t1 m1 p1 w1 => ⟨ds1, keep1, M4, t1, m1, p1, w1⟩⟩ ?_
  intro it1 fp1 tn1 J1 H1 s1 pp l kk hkk T1 I1 t01 f01 ⟨ds1, keep1, M4, t1, m1, ⟨hb1, Jv1, j01, jk1, jt1, jd1⟩, w1⟩
  let Wv1 : Nat → L2.St → Hp → Prop := fun i1 σ2 H3 => i1 ≤ ds1.length ∧ ∃ M', Tx H1 H3 ∧ SIs H3 σ2 Γ2 ∧ RelM H3 M' ∧ Jv1 i1 M'
  let Em1 : Nat → L2.St → Hp → Prop := fun i1 σ2 H3 => ∃ Γ3 M5, Tx H1 H3 ∧ SlE Γ2 Γ3 ∧ SIs H3 σ2 Γ3 ∧ RelM H3 M5 ∧ EltW Y elt stop Γ3 M5 Pw (Jv1 (i1 + 1))
  have T01 : Tx H2 H1 := t.trans t1
  have hAi : X.A.in1.in1.over (.compLoop (G2 elt tg iter tg1 iter1 ifs ifs1 scope gpos) 1 (.ref it1) .none (genEnv scope cl L code builtinsNs X.env)) (.ret kk none (gd false) l (.compLoop (G2 elt tg iter tg1 iter1 ifs ifs1 scope gpos) 0 (.ref it) .none (genEnv scope cl L code builtinsNs X.env)) pp [] :: []) = A' := (over_loop rfl rfl).trans hA'
  refine seg_clause (Y := Y) (e := G2 elt tg iter tg1 iter1 ifs ifs1 scope gpos) (d := 1) (ip := ip') (p0 := iter1.pos) (hct := den_two1 elt tg iter tg1 iter1 ifs ifs1 scope gpos (.ref it1) _) (g := tWG _ tg1) (tt := tTs _ ifs1) pg_w (pts_w hifs1) rfl (fun _ _ z => z) T1 hAi Wv1 Em1 (fun σ2 H3 => Wv (i + 1) σ2 H3) ds1.length (fun i1 => (ds1.length - i1) + (ds.length - (i + 1)) * b1) (fun i σ' H' e => e.1) (fun i1 hi => by show (ds1.length - (i1 + 1)) + (ds.length - (i + 1)) * b1 ≤ (ds1.length - i1) + (ds.length - (i + 1)) * b1; omega)
    (fun i1 n1 s₀1 s2 σ2 H3 hi1 hn1 I2 q => seg_leaf (.ok .next) ?_)
    (cl_turn (Bd := fun Γ3 M5 Nx1 => EltW Y elt stop Γ3 M5 Pw Nx1) w1 jk1 (fun i d M' hd j => jt1 i d M' hd j _ _ _ _ _ _ _ _ rk) (fun i σ' H' Γ2 M3 hi t e s' m b => ⟨Γ2, M3, t, e, s', m, b⟩) (fun σ2 H3 M' t2 s2 m2 j => ⟨hi, M', T01.trans t2, e.sis s2, m2, jd1 M' j⟩) fun _ _ _ => Iff.rfl)
    (fun i1 ip2 n1 s₀1 s2 σ2 H3 K2 Hr2 gd2 lv2 hi1 hn1 hgd2 I2 ⟨Γ3, M5, t3, e3, s3', m3, b3⟩ back2 => ?_) ds1.length 0 n s₀ s1 σ' H1 rfl (by show (ds1.length - 0) + (ds.length - (i + 1)) * b1 ≤ n; omega) I1 t01 f01 ⟨Nat.zero_le _, M4, Tx.refl _, s'.mono t1, m1, j01⟩
  · rw [hkk]
    exact back n1 s₀1 s2 σ2 H3 (by have : (ds1.length - i1) + (ds.length - (i + 1)) * b1 ≤ n1 := hn1; show (ds.length - (i + 1)) * b1 ≤ n1; omega) I2 q
  · refine emit_elt (Y := Y) (te := tW Y elt) (b0 := (ds1.length - (i1 + 1)) + (ds.length - (i + 1)) * b1) pe_w (fun _ _ z => z) hco hAi rfl (by show (gd false || false) = false; rw [hgd]; rfl) (fun σ4 H4 => σ4 = σ2 ∧ Wv1 (i1 + 1) σ4 H4) (by have : (ds1.length - i1) + (ds.length - (i + 1)) * b1 ≤ n1 := hn1; omega) hgd2 I2 ⟨Γ3, M5, _, s3', m3, b3, fun v H5 ⟨d5, M6, t5, r5, m5, b5, e5, q1, q2⟩ => ?_⟩ fun n' s₀' s'' σ4 H4 hn' I4 w => back2 n' s₀' s'' σ4 H4 hn' I4 w.2
    subst e5
    cases r5
    exact ⟨b5, rfl, fun hb => ⟨.bl stop, M6, T01.trans (t3.trans t5), .bl _, m5, q1 hb⟩, fun hb => ⟨rfl, hi1, M6, t3.trans t5, (e3.sis s3').mono t5, m5, q2 hb⟩⟩
theorem we_all (N fr : List Str) (js : List Nat) (k : Nat) (osc : Scope) (hr : Room (k + 1) X.A) (TB : GxR.TabB X.base X.mg c P) (hcode : X.env.code = .ref c) (hm : X.mg "all" = none)
    (h : WI X tg iter Γ M fun ds keep M1 => M1 P = some .tbl ∧ GnJ X k N scope tg elt ifs false (genG N.length js Γ) ds keep M1 Pw) (S : gscB N fr scope osc = true := by decide +kernel) (hosc : X.env.scope = osc := by rfl) (hjs : js.map (fun j => X.N[j]?) = fr.map some := by rfl)
    (hifs : ifs.length ≤ 1 := by decide) (hN : 1 ≤ N.length := by decide) (hg : Gl X "all" := by rfl) (hs : ∀ v, genFold iter X.env v = pure v := by intro _; rfl)
    (he : starEach [(.GeneratorExp elt [⟨tg, iter, ifs, 0⟩] scope gpos)] X.env = (false, eval (.GeneratorExp elt [⟨tg, iter, ifs, 0⟩] scope gpos) X.env) :: starEach [] X.env := by rfl) :
    WE X (.Call (.Name "all" p) [(.GeneratorExp elt [⟨tg, iter, ifs, 0⟩] scope gpos)] [] pos) Γ M Pw := by
  refine ⟨fun pins s σ H I hsl hm' => ?_⟩
  refine wpAny_Call_Name_kw (ld_blt I hg hm (by decide +kernel : bootBuiltins "all" = some (.builtin "all")) ?_)
  refine PyProof.Rows.callWith_builtin1 ?_ he (by rfl)
  rw [he]
  show wpAny _ _ (spliced ((false, eval (.GeneratorExp elt [⟨tg, iter, ifs, 0⟩] scope gpos) X.env) :: backTo pos (starEach [] X.env))) _ _ s
  refine Calls.spliced_cons (gx_run (stop := false) (RR := fun ds keep M1 => GnJ X k N scope tg elt ifs false (genG N.length js Γ) ds keep M1 Pw) hr TB hcode (gscope_by S).1 (by rw [hosc]; exact (gscope_by S).2.1) (gscope_by S).2.2 hjs hs hN I hsl hm' h (fun ds keep M1 J H2 cl L code s3 s5 s₀ fp pn it tn σ0 gj wk m2 sl rk T I5 t0 f0 => segs_one (gscope_by S).1.co hifs gj wk m2 sl rk T I5 t0 f0) fun a g s4 Y n Qs Qe eP ew hl hg hgen gs hQ => ?_)
  refine Calls.spliced_nil ?_
  rw [← eP, ← ew]
  exact call_all_gx hr.hd hr.depth hl hg hgen gs hQ
theorem we_any (N fr : List Str) (js : List Nat) (k : Nat) (osc : Scope) (hr : Room (k + 1) X.A) (TB : GxR.TabB X.base X.mg c P) (hcode : X.env.code = .ref c) (hm : X.mg "any" = none)
    (h : WI X tg iter Γ M fun ds keep M1 => M1 P = some .tbl ∧ GnJ X k N scope tg elt ifs true (genG N.length js Γ) ds keep M1 Pw) (S : gscB N fr scope osc = true := by decide +kernel) (hosc : X.env.scope = osc := by rfl) (hjs : js.map (fun j => X.N[j]?) = fr.map some := by rfl)
    (hifs : ifs.length ≤ 1 := by decide) (hN : 1 ≤ N.length := by decide) (hg : Gl X "any" := by rfl) (hs : ∀ v, genFold iter X.env v = pure v := by intro _; rfl)
    (he : starEach [(.GeneratorExp elt [⟨tg, iter, ifs, 0⟩] scope gpos)] X.env = (false, eval (.GeneratorExp elt [⟨tg, iter, ifs, 0⟩] scope gpos) X.env) :: starEach [] X.env := by rfl) :
    WE X (.Call (.Name "any" p) [(.GeneratorExp elt [⟨tg, iter, ifs, 0⟩] scope gpos)] [] pos) Γ M Pw := by
  refine ⟨fun pins s σ H I hsl hm' => ?_⟩
  refine wpAny_Call_Name_kw (ld_blt I hg hm (by decide +kernel : bootBuiltins "any" = some (.builtin "any")) ?_)
  refine PyProof.Rows.callWith_builtin1 ?_ he (by rfl)
  rw [he]
  show wpAny _ _ (spliced ((false, eval (.GeneratorExp elt [⟨tg, iter, ifs, 0⟩] scope gpos) X.env) :: backTo pos (starEach [] X.env))) _ _ s
  refine Calls.spliced_cons (gx_run (stop := true) (RR := fun ds keep M1 => GnJ X k N scope tg elt ifs true (genG N.length js Γ) ds keep M1 Pw) hr TB hcode (gscope_by S).1 (by rw [hosc]; exact (gscope_by S).2.1) (gscope_by S).2.2 hjs hs hN I hsl hm' h (fun ds keep M1 J H2 cl L code s3 s5 s₀ fp pn it tn σ0 gj wk m2 sl rk T I5 t0 f0 => segs_one (gscope_by S).1.co hifs gj wk m2 sl rk T I5 t0 f0) fun a g s4 Y n Qs Qe eP ew hl hg hgen gs hQ => ?_)
  refine Calls.spliced_nil ?_
  rw [← eP, ← ew]
  exact call_any_gx hr.hd hr.depth hl hg hgen gs hQ
theorem we_all2 (N fr : List Str) (js : List Nat) (k : Nat) (osc : Scope) (hr : Room (k + 1) X.A) (TB : GxR.TabB X.base X.mg c P) (hcode : X.env.code = .ref c) (hm : X.mg "all" = none)
    (h : WI X tg iter Γ M fun ds keep M1 => M1 P = some .tbl ∧ GnJ2 X k N scope tg tg1 iter1 elt ifs ifs1 false (genG N.length js Γ) ds keep M1 Pw) (S : gscB N fr scope osc = true := by decide +kernel) (hosc : X.env.scope = osc := by rfl) (hjs : js.map (fun j => X.N[j]?) = fr.map some := by rfl)
    (hifs : ifs.length ≤ 1 := by decide) (hifs1 : ifs1.length ≤ 1 := by decide) (hfold : ∀ (env : Env) (x : Value), foldedSetIterable iter1 env x = pure x := by intro _ _; rfl) (hN : 1 ≤ N.length := by decide) (hg : Gl X "all" := by rfl) (hs : ∀ v, genFold iter X.env v = pure v := by intro _; rfl)
    (he : starEach [(.GeneratorExp elt [⟨tg, iter, ifs, 0⟩, ⟨tg1, iter1, ifs1, 0⟩] scope gpos)] X.env = (false, eval (.GeneratorExp elt [⟨tg, iter, ifs, 0⟩, ⟨tg1, iter1, ifs1, 0⟩] scope gpos) X.env) :: starEach [] X.env := by rfl) :
    WE X (.Call (.Name "all" p) [(.GeneratorExp elt [⟨tg, iter, ifs, 0⟩, ⟨tg1, iter1, ifs1, 0⟩] scope gpos)] [] pos) Γ M Pw := by
  refine ⟨fun pins s σ H I hsl hm' => ?_⟩
  refine wpAny_Call_Name_kw (ld_blt I hg hm (by decide +kernel : bootBuiltins "all" = some (.builtin "all")) ?_)
  refine PyProof.Rows.callWith_builtin1 ?_ he (by rfl)
  rw [he]
  show wpAny _ _ (spliced ((false, eval (.GeneratorExp elt [⟨tg, iter, ifs, 0⟩, ⟨tg1, iter1, ifs1, 0⟩] scope gpos) X.env) :: backTo pos (starEach [] X.env))) _ _ s
  refine Calls.spliced_cons (gx_run (stop := false) (RR := fun ds keep M1 => GnJ2 X k N scope tg tg1 iter1 elt ifs ifs1 false (genG N.length js Γ) ds keep M1 Pw) hr TB hcode (gscope_by S).1 (by rw [hosc]; exact (gscope_by S).2.1) (gscope_by S).2.2 hjs hs hN I hsl hm' h (fun ds keep M1 J H2 cl L code s3 s5 s₀ fp pn it tn σ0 gj wk m2 sl rk T I5 t0 f0 => segs_two (gscope_by S).1.co hifs hifs1 hfold gj wk m2 sl rk T I5 t0 f0) fun a g s4 Y n Qs Qe eP ew hl hg hgen gs hQ => ?_)
  refine Calls.spliced_nil ?_
  rw [← eP, ← ew]
  exact call_all_gx hr.hd hr.depth hl hg hgen gs hQ
theorem we_any2 (N fr : List Str) (js : List Nat) (k : Nat) (osc : Scope) (hr : Room (k + 1) X.A) (TB : GxR.TabB X.base X.mg c P) (hcode : X.env.code = .ref c) (hm : X.mg "any" = none)
    (h : WI X tg iter Γ M fun ds keep M1 => M1 P = some .tbl ∧ GnJ2 X k N scope tg tg1 iter1 elt ifs ifs1 true (genG N.length js Γ) ds keep M1 Pw) (S : gscB N fr scope osc = true := by decide +kernel) (hosc : X.env.scope = osc := by rfl) (hjs : js.map (fun j => X.N[j]?) = fr.map some := by rfl)
    (hifs : ifs.length ≤ 1 := by decide) (hifs1 : ifs1.length ≤ 1 := by decide) (hfold : ∀ (env : Env) (x : Value), foldedSetIterable iter1 env x = pure x := by intro _ _; rfl) (hN : 1 ≤ N.length := by decide) (hg : Gl X "any" := by rfl) (hs : ∀ v, genFold iter X.env v = pure v := by intro _; rfl)
    (he : starEach [(.GeneratorExp elt [⟨tg, iter, ifs, 0⟩, ⟨tg1, iter1, ifs1, 0⟩] scope gpos)] X.env = (false, eval (.GeneratorExp elt [⟨tg, iter, ifs, 0⟩, ⟨tg1, iter1, ifs1, 0⟩] scope gpos) X.env) :: starEach [] X.env := by rfl) :
    WE X (.Call (.Name "any" p) [(.GeneratorExp elt [⟨tg, iter, ifs, 0⟩, ⟨tg1, iter1, ifs1, 0⟩] scope gpos)] [] pos) Γ M Pw := by
  refine ⟨fun pins s σ H I hsl hm' => ?_⟩
  refine wpAny_Call_Name_kw (ld_blt I hg hm (by decide +kernel : bootBuiltins "any" = some (.builtin "any")) ?_)
  refine PyProof.Rows.callWith_builtin1 ?_ he (by rfl)
  rw [he]
  show wpAny _ _ (spliced ((false, eval (.GeneratorExp elt [⟨tg, iter, ifs, 0⟩, ⟨tg1, iter1, ifs1, 0⟩] scope gpos) X.env) :: backTo pos (starEach [] X.env))) _ _ s
  refine Calls.spliced_cons (gx_run (stop := true) (RR := fun ds keep M1 => GnJ2 X k N scope tg tg1 iter1 elt ifs ifs1 true (genG N.length js Γ) ds keep M1 Pw) hr TB hcode (gscope_by S).1 (by rw [hosc]; exact (gscope_by S).2.1) (gscope_by S).2.2 hjs hs hN I hsl hm' h (fun ds keep M1 J H2 cl L code s3 s5 s₀ fp pn it tn σ0 gj wk m2 sl rk T I5 t0 f0 => segs_two (gscope_by S).1.co hifs hifs1 hfold gj wk m2 sl rk T I5 t0 f0) fun a g s4 Y n Qs Qe eP ew hl hg hgen gs hQ => ?_)
  refine Calls.spliced_nil ?_
  rw [← eP, ← ew]
  exact call_any_gx hr.hd hr.depth hl hg hgen gs hQ
end
end DL

set_option Elab.async false
set_option linter.all false
set_option maxRecDepth 100000
set_option maxHeartbeats 4000000
/-! DLy: a head whose defs make code objects (their tables left out of K), and a law's entry with tables. -/
namespace DL
open PySem PySem.Spec PyProof.Rows L2
/-! ### the hook -/
structure SaysT (fa : List He.Fa) (fn : List He.DefD) (fc : List ((PySem.W.Frag → Addr) × FnV)) (tf : List He.Defn) (ex : PySem.W.Frag → Bool) (h : Heap) (K : PySem.W.Frag) : Prop where
  s : SaysS fa fn fc ex K
  hd : ∀ p ∈ tf, PySem.W.codeHdIn K (He.cT K p).1 (He.cT K p).2 = true
  out : ∀ p ∈ tf, K.lookup (He.cT K p).2 = none
  empty : ∀ p ∈ tf, h.get? (He.cT K p).2 = some { cls := .none, data := .fields #[] }
def obsTG (n : Nat) (fa : List He.Fa) (fn : List He.DefD) (fc : List ((PySem.W.Frag → Addr) × FnV)) (tf : List He.Defn) (ex : PySem.W.Frag → Bool) (g : Addr → Option Obj) : AlS :=
  obsS fa fn fc (fun K => ex K && He.tabsB g tf K) (He.frT g (asS g n))
theorem saysT_of {n : Nat} {fa : List He.Fa} {fn : List He.DefD} {fc : List ((PySem.W.Frag → Addr) × FnV)} {tf : List He.Defn} {ex : PySem.W.Frag → Bool} {h : Heap} (e : obsTG n fa fn fc tf ex h.get? = valS fn fc) : SaysT fa fn fc tf ex h (He.frT h.get? (asS h.get? n)) := by
  have e2 := SaysS.e (ex := fun K => ex K && He.tabsB h.get? tf K) e
  have e2 : (ex (He.frT h.get? (asS h.get? n)) && He.tabsB h.get? tf (He.frT h.get? (asS h.get? n))) = true := e2
  rw [Bool.and_eq_true] at e2
  have e1 : SaysS fa fn fc ex (He.frT h.get? (asS h.get? n)) := by
    have q : obsS fa fn fc (fun K => ex K && He.tabsB h.get? tf K) (He.frT h.get? (asS h.get? n)) = valS fn fc := e
    show obsS fa fn fc ex _ = _
    rw [← q]
    show (_, ex (He.frT h.get? (asS h.get? n)), _) = (_, (ex (He.frT h.get? (asS h.get? n)) && He.tabsB h.get? tf (He.frT h.get? (asS h.get? n))), _)
    rw [e2.2, Bool.and_true]
  have key : ∀ p ∈ tf, PySem.W.codeHdIn (He.frT h.get? (asS h.get? n)) (He.cT (He.frT h.get? (asS h.get? n)) p).1 (He.cT (He.frT h.get? (asS h.get? n)) p).2 = true ∧ ∃ o, h.get? (He.cT (He.frT h.get? (asS h.get? n)) p).2 = some o ∧ He.emptyTab o = true := fun p hp => by
    have z := List.all_eq_true.mp e2.2 p hp
    rw [Bool.and_eq_true] at z
    refine ⟨z.1, ?_⟩
    have z2 := z.2
    cases q : h.get? (He.cT (He.frT h.get? (asS h.get? n)) p).2 with
    | none => rw [q] at z2; cases z2
    | some o => rw [q] at z2; exact ⟨o, rfl, z2⟩
  exact ⟨e1, fun p hp => (key p hp).1, fun p hp => by
    obtain ⟨_, o, q, z⟩ := key p hp
    exact He.frT_none q z, fun p hp => by
    obtain ⟨_, o, q, z⟩ := key p hp
    rw [q, He.emptyTab_eq z]⟩
def hookT (n : Nat) (fa : List He.Fa) (fn : List He.DefD) (fc : List ((PySem.W.Frag → Addr) × FnV)) (tf : List He.Defn) (ex : PySem.W.Frag → Bool) : PySem.W.Hook where
  α := AlS
  obs := fun s => obsTG n fa fn fc tf ex s.heap.get?
  val := fun _ => valS fn fc
  says := fun _ h => ∃ K : PySem.W.Frag, K.In h ∧ SaysT fa fn fc tf ex h K
  of := fun _ _ e => ⟨_, He.frT_in, saysT_of e⟩
  keeps := fun _ _ _ ⟨K, hK, c⟩ k => ⟨K, PySem.W.Frag.In.keeps hK k, ⟨c.s, c.hd, c.out, fun p hp => k _ _ (c.empty p hp)⟩⟩
theorem obsTG_eq {n : Nat} {fa : List He.Fa} {fn : List He.DefD} {fc : List ((PySem.W.Frag → Addr) × FnV)} {tf : List He.Defn} {ex : PySem.W.Frag → Bool} {g : Addr → Option Obj} {s : Shared} (h : ∀ a, g a = s.heap.get? a) : obsTG n fa fn fc tf ex g = (hookT n fa fn fc tf ex).obs s := by
  have e : g = s.heap.get? := funext h
  rw [e] <;> rfl
/-! ### a law's entry -/
/-- the tables, as the memory at the entry -/
def tabM (cs : List (Addr × Addr)) : Mem := fun b => if b ∈ cs.map (·.2) then some .tbl else none
theorem tabM_at {cs : List (Addr × Addr)} {p : Addr × Addr} (h : p ∈ cs) : tabM cs p.2 = some .tbl := if_pos (List.mem_map.mpr ⟨p, h, rfl⟩)
def spLawT (K : PySem.W.Frag) (cs : List (Addr × Addr)) (n : Nat) : V → Hp → VK → Prop := fun v H Q => ∃ (d : D) (ns : List Int), Is H d v ∧ Scr K d ns ∧ ns.length ≤ n ∧ RelM H (tabM cs) ∧ ∀ H', Q (.bl true) H'
theorem law_fnT {P : Program} {w : World} {K : PySem.W.Frag} {mg : Str → Option Value} {base : Heap} {cs : List (Addr × Addr)} {n k : Nat} {x y qual : Str} {params : Arguments} {body : List Stmt} {scope : Scope} {f : Addr} {fd : FuncData} {N : List Str} (F : FunD K y qual params body scope [] [] f fd) (S : FnScope N [x] scope) (hr : Room (k + 1) callerA)
    (hbody : ∀ (cdv : Value) (s : Shared) (H : Hp) (E : XK) (d : D) (ns : List Int), Room k (cxOf CX0 P w K mg base N qual scope f cdv callerA [] s H E).nox.A → (cxOf CX0 P w K mg base N qual scope f cdv callerA [] s H E).nox.A.guards = some [] → Scr K d ns → ns.length ≤ n →
      WSs (cxOf CX0 P w K mg base N qual scope f cdv callerA [] s H E).nox body (start N [d]) (tabM cs) { nx := fun _ _ => False, rt := fun d _ => d = .bl true }) :
    LawFn P w K mg base f fd x (fun vs H Q _ => ∃ v, vs = [v] ∧ spLawT K cs n v H Q) := by
  obtain ⟨oc, od, dV, kV, doc, pm, an, cdv, ct, osl, rfl, lk, hcd, _, _⟩ := F.ex
  refine ⟨fun s H args u v Q E e0 hb r ⟨v', ev, hsp⟩ => ?_⟩
  cases ev
  have KX : K.In s.heap := e0.mod.kin.keeps fun b o e => (e0.bs b o e).1
  have lim : s.heap.NoLimit := e0.mod.nolimit.keeps fun b o e => (e0.bs b o e).1
  have hkind : ∀ z ∈ [(x, u)], scope.names.lookup z.1 = some .local ∨ (scope.names.lookup z.1 = some .cell ∧ ((cellsFrom (s.heap.objs.size + 1) scope.names []).lookup z.1).isSome = true) := fun z hz => by
    obtain rfl := List.mem_singleton.mp hz
    rcases S.par x (List.mem_singleton.mpr rfl) with q | q
    · exact .inl q
    · exact .inr ⟨q, PySem.W.cellsFrom_some _ _ _ (.inl q)⟩
  refine codeAny_call_function hr.depth (KX _ _ lk) rfl S.co S.gen rfl (PySem.W.codeRec_of KX hcd) (hb _ _ _ _ ?_)
  refine wpAny_newFunctionEnv_cells S.kind hkind fun env he s1 x1 => ?_
  subst he
  refine ⟨lim.keeps x1.toInCall.keep, codeAny_func ?_⟩
  obtain ⟨d, ns, hd, hsc, hn, hT, hq⟩ := hsp
  have hb2 : PSs (cxOf CX0 P w K mg base N qual scope f cdv callerA [] s H E) body (tWSs (cxOf CX0 P w K mg base N qual scope f cdv callerA [] s H E).nox body) := PSs.nox pss_w
  have I : Inv (cxOf CX0 P w K mg base N qual scope f cdv callerA [] s H E) [] (L2.start N [v]) H s1 := inv_start (ps := [x]) (us := [u]) S hr.hd e0 rfl (.cons r .nil) x1
  have hw := hbody cdv s H E d ns (hr.deeper _) rfl hsc hn
  have lnk : tWSs (cxOf CX0 P w K mg base N qual scope f cdv callerA [] s H E).nox body { nx := fun _ H' => Q .non H', rt := Q } (L2.start N [v]) H := by
    refine ⟨start N [d], tabM cs, _, SIs.start (.cons hd .nil) N, hT, hw, ?_⟩
    exact ⟨fun σ' H' Γ' M' t s' m' z => z.elim, fun v H' d' M' t r' m' e => by
      subst e
      cases r'
      exact hq H', fun _ _ _ _ _ _ _ z => z.elim, fun _ _ _ _ _ _ _ z => z.elim⟩
  refine wpAny_mono (hb2.run [] s1 (L2.start N [v]) H _ I lnk) (fun fl s' hs => ?_) fun e s' hs => hs
  have fin : ∀ {σ' : L2.St} {H' : Hp} {v : V} {u : Value}, Inv (cxOf CX0 P w K mg base N qual scope f cdv callerA [] s H E) [] σ' H' s' → RelV v u → Q v H' → CE [] P w H s Q u s' :=
    fun {σ' H' v u} J rv q => ⟨v, H', J.os, J.bare, J.base, J.hok, rv, q⟩
  cases fl with
  | ret u =>
    obtain ⟨v, σ', H', J, rv, q⟩ := hs
    exact fin J rv q
  | next =>
    obtain ⟨σ', H', J, q⟩ := hs
    exact fin (v := V.non) (u := Value.none) J rfl q
  | brk =>
    obtain ⟨_, _, _, q⟩ := hs
    exact False.elim q
  | cont =>
    obtain ⟨_, _, _, q⟩ := hs
    exact False.elim q
/-- the call of the law with tables -/
theorem law_runT {P : Program} {w : World} {K : PySem.W.Frag} {mg mb : Str → Option Value} {fa a : Addr} {fd : FuncData} {n : Nat} {x : Str} {s₁ : Shared} {vs : List Value} {ns : List Int} {cs : List (Addr × Addr)}
    (KX : K.In s₁.heap) (hns : s₁.heap.Ns mainGlobals mg) (hb : s₁.heap.Ns builtinsNs mb) (hbb : ∀ x : Str, x ≠ "__name__" → mb x = bootBuiltins x) (hlim : s₁.heap.NoLimit) (hg : s₁.gens = #[])
    (hT : ∀ p ∈ cs, s₁.heap.get? p.2 = some { cls := .none, data := .fields #[] }) (nT : ∀ p ∈ cs, K.lookup p.2 = none) (C : ∀ p ∈ cs, PySem.W.codeHdIn K p.1 p.2 = true)
    (hbm : ∃ (bm : Addr) (ob : Obj), mg "__builtins__" = some (.ref bm) ∧ bm ≠ builtinsNs ∧ s₁.heap.get? bm = some ob ∧ ob.cls = .type "module" ∧ ob.dict = some builtinsNs ∧ ob.data = .plain)
    (ha : s₁.heap.get? a = some { cls := .type "list", data := .seq vs.toArray }) (hi : IntsAre vs ns) (hl : ns.length ≤ n) (hl2 : ns.length ≤ sizeLine)
    (F : ∀ base : Heap, K.In base → base.Ns mainGlobals mg → (∀ p ∈ cs, GxR.TabB base mg p.1 p.2) → LawFn P w K mg base fa fd x (fun vs H Q _ => ∃ v, vs = [v] ∧ spLawT K cs n v H Q)) (hbind : ∀ (s : Shared) (u : Value), BindsTo s fd ⟨[u], []⟩ [(x, u)]) :
    codeAny (model P w) callerA (.call (.ref fa) ⟨[.ref a], []⟩) (fun r s' => r = .ok (.ret (.bool true)) ∧ OldK s₁.heap s'.heap ∧ s'.os = s₁.os ∧ AllBare s'.gens) s₁ := by
  have rv := vals_ints hi
  have lenV := hi.length
  have isT : ∀ b : Addr, b ∈ cs.map (·.2) → s₁.heap.get? b = some { cls := .none, data := .fields #[] } := fun b hb => by
    obtain ⟨p, hp, e⟩ := List.mem_map.mp hb
    rw [← e]
    exact hT p hp
  have aT : a ∉ cs.map (·.2) := fun z => by
    have q := isT a z
    rw [ha] at q
    have z' : Data.seq vs.toArray _ = Data.fields #[] := congrArg Obj.data (Option.some.inj q)
    cases z'
  have memT : ∀ p ∈ cs, p.2 ∈ cs.map (·.2) := fun p hp => List.mem_map.mpr ⟨p, hp, rfl⟩
  have core : ∀ H : Hp, (∀ p ∈ cs, H p.2 = some (.tbl #[])) → (∀ b, H b = none ∨ b ∈ cs.map (·.2) ∨ ∃ o xs, H b = some (.frz o (.lst xs))) → SqL K H a (ns.map V.int) → HOk P w H s₁.heap → (∀ b, H b ≠ none → b = a ∨ b ∈ cs.map (·.2)) → (H a ≠ none → K.lookup a = none) →
      codeAny (model P w) callerA (.call (.ref fa) ⟨[.ref a], []⟩) (fun r s' => r = .ok (.ret (.bool true)) ∧ OldK s₁.heap s'.heap ∧ s'.os = s₁.os ∧ AllBare s'.gens) s₁ := by
    intro H hH hO hS hok hA hK
    have base_of : ∀ {b : Addr} {o : Obj}, s₁.heap.get? b = some o → H b = none → (hidT s₁.heap H).get? b = some o := fun e n => hidT_get e n
    have noD : ∀ {b : Addr} {o : Obj}, s₁.heap.get? b = some o → (∀ vs n, o.data ≠ .seq vs n) → o.data ≠ .fields #[] → H b = none := fun {b o} e h1 h2 => by
      cases q : H b with
      | none => rfl
      | some u =>
        rcases hA b (by rw [q]; simp) with e' | e'
        · rw [e', ha] at e
          cases e
          exact (h1 _ _ rfl).elim
        · rw [isT b e'] at e
          cases e
          exact (h2 rfl).elim
    have noA : ∀ {b : Addr} {o : Obj} {es : Array DictEntry} {ep : Nat}, s₁.heap.get? b = some o → o.data = .dict es ep → H b = none := fun {b o es ep} e d => by
      refine noD e (fun vs n z => ?_) fun z => ?_
      · rw [d] at z
        cases z
      · rw [d] at z
        cases z
    have nsK : ∀ {b : Addr} {m : Str → Option Value}, s₁.heap.Ns b m → (hidT s₁.heap H).Ns b m := fun {b m} ⟨o, es, ep, e, d, r⟩ => ⟨o, es, ep, base_of e (noA e d), d, r⟩
    have hKb : K.In (hidT s₁.heap H) := fun b o e => base_of (KX b o e) (by
      cases q : H b with
      | none => rfl
      | some u =>
        rcases hA b (by rw [q]; simp) with e' | e'
        · rw [e'] at e q
          rw [hK (by rw [q]; simp)] at e
          cases e
        · obtain ⟨p, hp, ep⟩ := List.mem_map.mp e'
          rw [← ep, nT p hp] at e
          cases e)
    have hM : L2.Mod K mg (hidT s₁.heap H) := ⟨hKb, nsK hns, ⟨mb, nsK hb, hbb⟩, let ⟨mc, h1, h2⟩ := hlim; ⟨mc, nsK h1, h2⟩⟩
    have TB : ∀ p ∈ cs, GxR.TabB (hidT s₁.heap H) mg p.1 p.2 := fun p hp => by
      have hTp := hT p hp
      refine ⟨PySem.W.codeHd_of_K hKb (C p hp), ?_, fun z => ?_⟩
      · obtain ⟨bm, ob, b1, b2, b3, b4, b5, b6⟩ := hbm
        have nG : bm ≠ mainGlobals := fun q => by
          obtain ⟨o, es, ep, e, hd, _⟩ := hns
          rw [q, e] at b3
          cases b3
          rw [hd] at b6
          cases b6
        have nP : bm ≠ p.2 := fun q => by
          rw [q, hTp] at b3
          cases b3
          cases b6
        refine ⟨bm, ob, b1, b2, nG, nP, base_of b3 (noD b3 (fun vs n z => ?_) fun z => ?_), b4, b5, b6⟩
        · rw [b6] at z
          cases z
        · rw [b6] at z
          cases z
      · obtain ⟨o, es, ep, e, hd, _⟩ := hns
        rw [z, hTp] at e
        cases e
        cases hd
    have e0 : Env0 P w K mg (hidT s₁.heap H) callerA [] s₁ H := ⟨rfl, hM, fun b o e => of_hidT e, Nat.le_of_eq (hidT_size _ _), trivial, fun b hb => absurd (show b ∈ ([] : List Addr) from hb) (by simp), hok, .of_eq hg⟩
    have hd : ∃ d, Is H d (.ref a) ∧ Scr K d ns := by
      rcases hS with (h | ⟨o, h⟩) | h
      · rcases hO a with e | e | ⟨o, xs, e⟩
        · rw [h] at e; cases e
        · exact absurd e aT
        · rw [h] at e; cases e
      · exact ⟨.rol (ns.map D.int), .rol ⟨o, h⟩ (IsL.ints ns), .inl rfl⟩
      · exact ⟨.ref a, .ref a, .inr ⟨a, rfl, fun _ => .inr h⟩⟩
    obtain ⟨d, hd, hsc⟩ := hd
    have rT : RelM H (tabM cs) := fun b m e => by
      unfold tabM at e
      by_cases q : b ∈ cs.map (·.2)
      · rw [if_pos q] at e
        cases e
        obtain ⟨p, hp, ep⟩ := List.mem_map.mp q
        rw [← ep]
        exact ⟨#[], hH p hp, by trivial⟩
      · rw [if_neg q] at e
        cases e
    refine codeAny_mono ((F _ hKb (nsK hns) TB).run s₁ H ⟨[.ref a], []⟩ (.ref a) (.ref a) (fun v _ => v = .bl true) (fun _ _ _ => False) e0 (hbind s₁ (.ref a)) rfl ⟨_, rfl, d, ns, hd, hsc, hl, rT, fun _ => rfl⟩) fun r s' h => ?_
    cases r with
    | error e => exact False.elim h
    | ok fl =>
      cases fl with
      | next => exact False.elim h
      | brk => exact False.elim h
      | cont => exact False.elim h
      | ret u =>
        obtain ⟨v, H', os, bare, un, hok', r', q⟩ := h
        cases (show v = .bl true from q)
        cases (show u = Value.bool true from r')
        have key : ∀ b o, b ∉ cs.map (·.2) → s₁.heap.get? b = some o → s'.heap.get? b = some o := fun b o nb e => by
          cases q : H b with
          | none => exact un.keep b o e q (by intro z; exact absurd (show b ∈ ([] : List Addr) from z) (by simp)) (by simp)
          | some u =>
            rcases hO b with z | z | ⟨ob, xs, z⟩
            · rw [q] at z; cases z
            · exact absurd z nb
            · have z2 := un.frzs b ob _ z
              obtain ⟨e1, _⟩ := hok b _ z
              obtain ⟨e2, _⟩ := hok' b _ z2
              rw [e] at e1; cases e1
              exact e2
        have grown : ∀ p ∈ cs, ∃ more : Array Value, s'.heap.get? p.2 = some { cls := .none, data := .fields more } := fun p hp => by
          obtain ⟨more, z⟩ := un.tbls p.2 #[] (hH p hp)
          exact ⟨_, hok' p.2 _ z⟩
        refine ⟨rfl, ⟨fun b o e => ?_, fun b o e => ?_⟩, os, bare⟩
        · by_cases hb : b ∈ cs.map (·.2)
          · obtain ⟨p, hp, ep⟩ := List.mem_map.mp hb
            obtain ⟨more, hm⟩ := grown p hp
            rw [← ep] at e ⊢
            rw [hT p hp] at e
            cases e
            exact .inr (.inl ⟨((PySem.W.codeHd_of_K KX (C p hp)).tab (hT p hp)).isCodeTable, rfl, #[], more, rfl, by rw [Array.empty_append]; exact hm⟩)
          · exact .inl (key b o hb e)
        · by_cases hb : b ∈ cs.map (·.2)
          · obtain ⟨p, hp, ep⟩ := List.mem_map.mp hb
            obtain ⟨more, hm⟩ := grown p hp
            rw [← ep]
            exact ⟨_, hm⟩
          · exact ⟨o, key b o hb e⟩
  cases hk : K.lookup a with
  | some o =>
    have e := KX a o hk
    rw [ha] at e
    cases e
    refine core (fun b => if b ∈ cs.map (·.2) then some (.tbl #[]) else none) (fun p hp => if_pos (memT p hp)) (fun b => ?_) (.inr ⟨_, vs.toArray, _, hk, rfl, rfl, rfl, by rw [List.size_toArray, lenV]; exact hl2, by simpa using rv⟩) (fun b u z => ?_) (fun b z => ?_) fun z => absurd (show (if a ∈ cs.map (·.2) then some (HO.tbl #[]) else none) = none from if_neg aT) z
    · by_cases hb : b ∈ cs.map (·.2)
      · exact .inr (.inl hb)
      · exact .inl (if_neg hb)
    · by_cases hb : b ∈ cs.map (·.2)
      · have z' := (if_pos hb).symm.trans z
        cases z'
        exact isT b hb
      · have z' := (if_neg hb).symm.trans z
        cases z'
    · by_cases hb : b ∈ cs.map (·.2)
      · exact .inr hb
      · exact absurd (if_neg hb) z
  | none =>
    refine core (fun b => if b = a then some (.frz { cls := .type "list", data := .seq vs.toArray } (.lst (ns.map V.int))) else if b ∈ cs.map (·.2) then some (.tbl #[]) else none) (fun p hp => (if_neg (show ¬ p.2 = a from fun z => aT (by rw [← z]; exact memT p hp))).trans (if_pos (memT p hp))) (fun b => ?_)
      (.inl (.inr ⟨{ cls := .type "list", data := .seq vs.toArray }, if_pos rfl⟩)) (fun b u z => ?_) (fun b z => ?_) fun _ => hk
    · by_cases hb : b = a
      · exact .inr (.inr ⟨_, _, if_pos hb⟩)
      · by_cases hb2 : b ∈ cs.map (·.2)
        · exact .inr (.inl hb2)
        · exact .inl ((if_neg hb).trans (if_neg hb2))
    · by_cases hb : b = a
      · have z' := (if_pos hb).symm.trans z
        cases z'
        rw [hb]
        exact ⟨ha, by rw [List.length_map]; exact hl2, vs, _, rv, ha⟩
      · have z1 := (if_neg hb).symm.trans z
        by_cases hb2 : b ∈ cs.map (·.2)
        · have z' := (if_pos hb2).symm.trans z1
          cases z'
          exact isT b hb2
        · have z' := (if_neg hb2).symm.trans z1
          cases z'
    · by_cases hb : b = a
      · exact .inl hb
      · by_cases hb2 : b ∈ cs.map (·.2)
        · exact .inr hb2
        · exact absurd ((if_neg hb).trans (if_neg hb2)) z
/-- the walk's end over a head with tables -/
theorem walk_ofT {l : PySem.W.OpenLaw} {n : Nat} {q : Program} {loose : List Str} {XP : (Str → Option Value) → Heap → Prop} {YP : World → Heap → Prop} {d : DefRec} {x : Str}
    (hn : l.most = some n) (hn2 : n ≤ sizeLine) (hdf : d.params.defaults = [])
    (F : ∀ (w : World) (mg : Str → Option Value) (fa : Addr) (h : Heap), YP w h → h.Ns mainGlobals mg → mg d.name = some (.ref fa) →
      ∃ (K : PySem.W.Frag) (fd : FuncData) (cs : List (Addr × Addr)), K.In h ∧ (∀ (s : Shared) (u : Value), BindsTo s fd ⟨[u], []⟩ [(x, u)]) ∧
        (∀ p ∈ cs, h.get? p.2 = some { cls := .none, data := .fields #[] }) ∧ (∀ p ∈ cs, K.lookup p.2 = none) ∧ (∀ p ∈ cs, PySem.W.codeHdIn K p.1 p.2 = true) ∧
        ∀ base : Heap, K.In base → base.Ns mainGlobals mg → (∀ p ∈ cs, GxR.TabB base mg p.1 p.2) → LawFn l.prog w K mg base fa fd x (fun vs H Q _ => ∃ v, vs = [v] ∧ spLawT K cs n v H Q)) :
    PySem.W.WalkO q loose XP YP l.row.toRowW d [] (fun f vs => PySem.call f vs) := by
  refine Att.attach_call hn hdf fun w s₀ s₁ mg mb fa o pm cd doc a vs ns G Y ho hd hcd hmg hobj hints hlen hg => ?_
  obtain ⟨K, fd, cs, KX, hb, hT, nT, C, hF⟩ := F w mg fa _ Y G.T.g hmg
  exact law_runT KX G.T.g G.T.b G.T.builtins G.T.nolimit hg hT nT C G.T.bmain hobj hints hlen (Nat.le_trans hlen hn2) hF hb
end DL

set_option Elab.async false
set_option linter.all false
set_option maxRecDepth 100000
set_option maxHeartbeats 4000000
/-! DLk: methods and classes called by keywords alone; properties; by data. -/
namespace DL
open PySem PySem.Spec PyProof.Rows L2
structure KMethOk (P : Program) (w : World) (K : PySem.W.Frag) (mg : Str → Option Value) (base : Heap) (CX : CXT) (k : Nat) (C : Addr) (m : Str) (ps ks : List Str) (perm : D → List D → List D) (sp : DSp) : Prop where
  ex : ∃ (f : Addr) (fd : FuncData) (g : List Value → List Value → List Value) (gV : List V → List V → List V), Meth K C m f ∧ KBn K fd ps 1 ks g gV ∧ FnOk P w K mg base CX k f fd ps (lift sp) ∧
    ∀ (H : Hp) (d : D) (v : V) (ds : List D) (vs : List V), ds.length = ks.length → Is H d v → IsL H ds vs → IsL H (perm d ds) (gV [v] vs)
structure KMkOk (P : Program) (w : World) (K : PySem.W.Frag) (mg : Str → Option Value) (base : Heap) (CX : CXT) (k : Nat) (x : Str) (C : Addr) (ps ks : List Str) (perm : D → List D → List D) (sp : DSp) : Prop where
  ex : ∃ (f : Addr) (fd : FuncData) (g : List Value → List Value → List Value) (gV : List V → List V → List V), mg x = some (.ref C) ∧ Mk K C f ∧ KBn K fd ps 1 ks g gV ∧ FnOk P w K mg base CX k f fd ps (lift sp) ∧
    ∀ (H : Hp) (d : D) (v : V) (ds : List D) (vs : List V), ds.length = ks.length → Is H d v → IsL H ds vs → IsL H (perm d ds) (gV [v] vs)
theorem passN {X : Cx} : Passes (L2N.CX X.prog X.w) X E0 := L2N.passes_call (W := fun _ _ _ _ => False) (fun u s' ⟨_, _, _, _, _, _, _, _, _, _, _, _, _, _, _, _, z⟩ => z.elim) fun _ _ _ _ z => z
section
variable {X : Cx} {Γ : Sl} {M : Mem} {P : PD} {x m : Str} {p pos apos : Pos} {o : Expr} {kws : List Keyword} {CX : CXT}
/-- o.m(k = v, ..) -/
theorem we_methK {k j : Nat} {C : Addr} {ps ks : List Str} {perm : D → List D → List D} {sp : DSp} {pl : Sem Bool} (hx : Passes CX X E0) (G : KMethOk X.prog X.w X.K X.mg X.base CX k C m ps ks perm sp) (cl : Cls X.K C) (hr : Room j X.A)
    (h : WE X o Γ M fun d M1 => ∃ a fs, d = .ref a ∧ M1 a = some (.ins C fs) ∧ fs.lookup m = none ∧ WK X kws Γ M1 fun ds M2 => ds.length = ks.length ∧ sp (perm (.ref a) ds) M2 P R0) (hk : k ≤ j := by decide)
    (hall : (backToKw pos (keywordEach kws X.env)).all (·.1.isSome) = true := by rfl) (hks : (backToKw pos (keywordEach kws X.env)).filterMap (·.1) = ks := by rfl)
    (hpl : ((backTo pos (starEach [] X.env)).any (·.1) || (backToKw pos (keywordEach kws X.env)).any (·.1.isNone)) = false := by rfl)
    (ht : eval (.Call (.Attribute o m apos) [] kws pos) X.env = (do
      let ov ← eval o X.env
      standAt apos.atName
      let (f, first) ← holding [ov] (getMethod ov m pl)
      callWith pos f first (backTo pos (starEach [] X.env)) (backToKw pos (keywordEach kws X.env))) := by rfl) : WE X (.Call (.Attribute o m apos) [] kws pos) Γ M P := by
  obtain ⟨f, fd, g, gV, g1, g2, g3, g4⟩ := G.ex
  refine ⟨fun pins s σ H I hs hm => ?_⟩
  refine PySem.W.methodCall_KW (pl := pl) (thn (h.run pins s σ H I hs hm) fun u s1 ⟨v, H1, I1, rv, d, M1, t, r1, m1, a, fs, ed, ha, hl, q⟩ => ?_) ht
  subst ed
  cases r1
  obtain rfl : u = Value.ref a := rv
  obtain ⟨dx, us, h1, h2⟩ := m1 a _ ha
  refine getmeth_ok I1 h1 cl g1 ((lookup_of _ h2).2 hl) ?_
  refine PySem.W.callWith_KW0 (first := [.ref a]) (h₀ := X.base) I1.ok.mod.kin g1.kp hall ?_ hpl
  refine thn (q.run pos pins s1 σ H1 I1 (hs.mono t) m1) fun ws s2 ⟨zs, H2, I2, rz, ds, M2, t2, r2, m2, l2, q2⟩ => ⟨I2.kIn, ?_⟩
  rw [hks]
  refine run_fnN (us := [.ref a]) (vs := [.ref a]) (E := E0) g3 (hr.mono hk) g2 hx I2 (.cons rfl .nil) rz rfl (by rw [← r2.length]; exact l2) ?_
  exact liftE _ (t.trans t2) (g4 H2 (.ref a) (.ref a) ds zs l2 (.ref a) r2) m2 q2 fun _ _ z => z
/-- C(k = v, ..) -/
theorem we_makeK {k j : Nat} {C : Addr} {ps ks : List Str} {perm : D → List D → List D} {sp : DSp} (hx : Passes CX X E0) (G : KMkOk X.prog X.w X.K X.mg X.base CX k x C ps ks perm sp) (hr : Room j X.A)
    (h : WK X kws Γ M fun ds M1 => ds.length = ks.length ∧ ∀ a, M1 a = none → sp (perm (.ref a) ds) (put M1 a (.ins C [])) (fun d M2 => d = .non ∧ P (.ref a) M2) R0) (hk : k + 1 ≤ j := by decide) (hg : Gl X x := by rfl)
    (hall : (backToKw pos (keywordEach kws X.env)).all (·.1.isSome) = true := by rfl) (hks : (backToKw pos (keywordEach kws X.env)).filterMap (·.1) = ks := by rfl) (hdb : (x == ("__debug__" : Str)) = false := by decide)
    (hpl : ((backTo pos (starEach [] X.env)).any (·.1) || (backToKw pos (keywordEach kws X.env)).any (·.1.isNone)) = false := by rfl) : WE X (.Call (.Name x p) [] kws pos) Γ M P := by
  obtain ⟨f, fd, g, gV, gm, g1, g2, g3, g4⟩ := G.ex
  refine ⟨fun pins s σ H I hs hm => ?_⟩
  refine wpAny_Call_Name_kw (ld_glob I hg gm ?_ hdb)
  refine PySem.W.callWith_KW0 (h₀ := X.base) I.ok.mod.kin g1.kp hall ?_ hpl
  refine thn (h.run pos pins s σ H I hs hm) fun ws s2 ⟨zs, H2, I2, rz, ds, M2, t2, r2, m2, l2, q2⟩ => ⟨I2.kIn, ?_⟩
  rw [hks]
  refine run_makeN (us := []) (vs := []) (n := 0) (E := E0) g1 g3 (hr.mono hk) g2 hx I2 .nil rz rfl (by rw [← r2.length]; exact l2) fun xx dx hxn hd ne => ?_
  obtain ⟨t1, m1⟩ := made_rel (C := C) m2 hxn hd ne
  exact liftE _ (t2.trans t1) (g4 _ (.ref xx) (.ref xx) ds zs l2 (.ref xx) (r2.mono t1)) m1 (q2 xx (m2.free hxn)) fun v H' ⟨d, M', t', r', m', e', p'⟩ => by
    subst e'
    cases r'
    exact ⟨rfl, .ref xx, M', t', .ref xx, m', p'⟩
/-- o.f, a property that reads the field fl -/
theorem we_prop {k j : Nat} {C pp g : Addr} {f fl : Str} {fd : FuncData} {ps : List Str} (cl : Cls X.K C) (hp : PropOf X.K C f pp g) (F : FnOk X.prog X.w X.K X.mg X.base CX0 k g fd ps (getSp C fl)) (hb : Binds X.K fd ps []) (hr : Room j X.A)
    (h : WE X o Γ M fun d M1 => ∃ a fs y, d = .ref a ∧ M1 a = some (.ins C fs) ∧ fs.lookup fl = some y ∧ P y M1) (hk : k + 1 ≤ j := by decide) (hab : attributeBase o f X.env (eval o X.env) = eval o X.env := by rfl) : WE X (.Attribute o f pos) Γ M P :=
  we_of (pe_prop (E := E0) pe_w cl hp F (hr.mono hk) hb .nil (fun pins σ H s e s' I c => (pass0 (X := X.nox) pins σ H s e s' I c)) hab) fun σ H hs hm => tw h hs hm fun v H1 d M1 t r m ⟨a, fs, y, ed, ha, hl, q⟩ => by
    subst ed
    cases r
    obtain ⟨dx, us, h1, h2⟩ := m a _ ha
    obtain ⟨v, hv, rv⟩ := (lookup_of _ h2).1 y hl
    exact ⟨a, dx, us, rfl, h1, a, dx, us, v, rfl, h1, hv, y, M1, t, rv, m, q⟩
end
/-! ### a def whose code object is asked for -/
section
variable {P : Program} {w : World} {K : PySem.W.Frag} {mg : Str → Option Value} {base : Heap}
theorem fn_okC {x qual : Str} {params : Arguments} {body : List Stmt} {scope : Scope} {q : He.Defn} {fd : FuncData} {N ps : List Str} {k : Nat} {sp : DSp} (F : FunD K x qual params body scope [] [] (He.fAd K q) fd) (S : FnScope N ps scope) (len : ∀ ds M P R, sp ds M P R → ds.length = ps.length)
    (hbody : ∀ (A : Around) (outer : List Env) (s : Shared) (H : Hp) (E : XK) (ds : List D) (M : Mem) (Q : PD) (R : XD), Room k (cxOf CX0 P w K mg base N qual scope (He.fAd K q) (.ref (He.cT K q).1) A outer s H E).nox.A → sp ds M Q R →
      WSs (cxOf CX0 P w K mg base N qual scope (He.fAd K q) (.ref (He.cT K q).1) A outer s H E).nox body (start N ds) M { nx := fun _ M' => ∃ M2, Sub M2 M' ∧ Q .non M2, rt := fun d M' => ∃ M2, Sub M2 M' ∧ Q d M2 }) : FnOk P w K mg base CX0 (k + 1) (He.fAd K q) fd ps (lift sp) := by
  obtain ⟨oc, od, dV, kV, doc, pm, an, cdv, ct, osl, rfl, lk, hcd, _, _⟩ := F.ex
  obtain ⟨c, rfl⟩ := He.codeIn_ref hcd
  have ec : (He.cT K q).1 = c := He.codeOf_eq lk rfl
  subst ec
  refine fn_of lk hcd S (fun vs H Q E ⟨ds, M, P, R, r, hm, h, _⟩ => by rw [← r.length]; exact len _ _ _ _ h) fun A outer s H vs Q E hr ⟨ds, M, P', R, r, hm, h, k1, k2⟩ => ?_
  refine ⟨_, PSs.nox pss_w, start N ds, M, _, SIs.start r N, hm, hbody A outer s H E ds M P' R hr h, ?_⟩
  exact ⟨fun σ' H' Γ' M' t s' m' ⟨M2, su, q⟩ => k1 .non H' ⟨.non, M2, t, .non, m'.sub su, q⟩, fun v H' d M' t r' m' ⟨M2, su, q⟩ => k1 v H' ⟨d, M2, t, r', m'.sub su, q⟩, fun _ _ _ _ _ _ _ z => z.elim, fun _ _ _ _ _ _ _ z => z.elim⟩
theorem fn_okXC {x qual : Str} {params : Arguments} {body : List Stmt} {scope : Scope} {q : He.Defn} {fd : FuncData} {N ps : List Str} {k : Nat} {sp : DSp} (F : FunD K x qual params body scope [] [] (He.fAd K q) fd) (S : FnScope N ps scope) (len : ∀ ds M P R, sp ds M P R → ds.length = ps.length)
    (hbody : ∀ (A : Around) (outer : List Env) (s : Shared) (H : Hp) (E : XK) (ds : List D) (M : Mem) (Q : PD) (R : XD), Room k (cxOf (L2N.CX P w) P w K mg base N qual scope (He.fAd K q) (.ref (He.cT K q).1) A outer s H E).A → sp ds M Q R →
      L2N.Takes (cxOf (L2N.CX P w) P w K mg base N qual scope (He.fAd K q) (.ref (He.cT K q).1) A outer s H E) (wxF fun cls d M' => ∃ M2, Sub M2 M' ∧ R cls d M2) →
      WSs (cxOf (L2N.CX P w) P w K mg base N qual scope (He.fAd K q) (.ref (He.cT K q).1) A outer s H E) body (start N ds) M { nx := fun _ M' => ∃ M2, Sub M2 M' ∧ Q .non M2, rt := fun d M' => ∃ M2, Sub M2 M' ∧ Q d M2 }) : FnOk P w K mg base (L2N.CX P w) (k + 1) (He.fAd K q) fd ps (lift sp) := by
  obtain ⟨oc, od, dV, kV, doc, pm, an, cdv, ct, osl, rfl, lk, hcd, _, _⟩ := F.ex
  obtain ⟨c, rfl⟩ := He.codeIn_ref hcd
  have ec : (He.cT K q).1 = c := He.codeOf_eq lk rfl
  subst ec
  refine fn_of lk hcd S (fun vs H Q E ⟨ds, M, P, R, r, hm, h, _⟩ => by rw [← r.length]; exact len _ _ _ _ h) fun A outer s H vs Q E hr ⟨ds, M, P', R, r, hm, h, k1, k2⟩ => ?_
  have tk : L2N.Takes (cxOf (L2N.CX P w) P w K mg base N qual scope (He.fAd K q) (.ref (He.cT K q).1) A outer s H E) (wxF fun cls d M' => ∃ M2, Sub M2 M' ∧ R cls d M2) :=
    takes_tx ((L2N.takes_of rfl rfl rfl rfl).imp fun cls d σ H' ⟨t, M', m', M2, su, r'⟩ => k2 cls d H' M2 t (m'.sub su) r')
  refine ⟨_, pss_w, start N ds, M, _, SIs.start r N, hm, hbody A outer s H E ds M P' R hr h tk, ?_⟩
  exact ⟨fun σ' H' Γ' M' t s' m' ⟨M2, su, q⟩ => k1 .non H' ⟨.non, M2, t, .non, m'.sub su, q⟩, fun v H' d M' t r' m' ⟨M2, su, q⟩ => k1 v H' ⟨d, M2, t, r', m'.sub su, q⟩, fun _ _ _ _ _ _ _ z => z.elim, fun _ _ _ _ _ _ _ z => z.elim⟩
end
end DL

set_option Elab.async false
set_option linter.all false
set_option maxRecDepth 100000
set_option maxHeartbeats 0
namespace Hd
open PySem PySem.Spec PyProof.Rows L2
def topS (i : Nat) : Stmt := PySem.Challenge.pw_wirework_k82_planners_wishes.main.body.getD i (.Pass ⟨0, 0, 0, 0⟩)
def d_is_number : He.DefD := ⟨("is_number", none), "is_number", "is_number", defArgs (topS 2), defBody (topS 2), defScope (topS 2), [], []⟩
def d_is_from_to : He.DefD := ⟨("is_from_to", none), "is_from_to", "is_from_to", defArgs (topS 3), defBody (topS 3), defScope (topS 3), [], []⟩
def d_is_row : He.DefD := ⟨("is_row", none), "is_row", "is_row", defArgs (topS 4), defBody (topS 4), defScope (topS 4), [], []⟩
def d_gap_by : He.DefD := ⟨("gap_by", none), "gap_by", "gap_by", defArgs (topS 26), defBody (topS 26), defScope (topS 26), [], []⟩
def d_gap_by_head : He.DefD := ⟨("gap_by_head", none), "gap_by_head", "gap_by_head", defArgs (topS 27), defBody (topS 27), defScope (topS 27), [], []⟩
def d_gap_of : He.DefD := ⟨("gap_of", none), "gap_of", "gap_of", defArgs (topS 28), defBody (topS 28), defScope (topS 28), [], []⟩
def d_is_shaped : He.DefD := ⟨("is_shaped", none), "is_shaped", "is_shaped", defArgs (topS 29), defBody (topS 29), defScope (topS 29), [], []⟩
def d_is_rising : He.DefD := ⟨("is_rising", none), "is_rising", "is_rising", defArgs (topS 30), defBody (topS 30), defScope (topS 30), [], []⟩
def d_is_wide : He.DefD := ⟨("is_wide", none), "is_wide", "is_wide", defArgs (topS 31), defBody (topS 31), defScope (topS 31), [], []⟩
def d_is_contract : He.DefD := ⟨("is_contract", none), "is_contract", "is_contract", defArgs (topS 32), defBody (topS 32), defScope (topS 32), [], []⟩
def d_first_wrong_part : He.DefD := ⟨("first_wrong_part", none), "first_wrong_part", "first_wrong_part", defArgs (topS 38), defBody (topS 38), defScope (topS 38), [], []⟩
def d_check_bounds : He.DefD := ⟨("check_bounds", none), "check_bounds", "check_bounds", defArgs (topS 39), defBody (topS 39), defScope (topS 39), [], []⟩
def d_law_mixed : He.DefD := ⟨("_law_mixed", none), "_law_mixed", "_law_mixed", defArgs (topS 66), defBody (topS 66), defScope (topS 66), [], []⟩
def d_law_draw : He.DefD := ⟨("_law_draw", none), "_law_draw", "_law_draw", defArgs (topS 67), defBody (topS 67), defScope (topS 67), [], []⟩
def d_law_start : He.DefD := ⟨("_law_start", none), "_law_start", "_law_start", defArgs (topS 68), defBody (topS 68), defScope (topS 68), [], []⟩
def d_law_same : He.DefD := ⟨("_law_same", none), "_law_same", "_law_same", defArgs (topS 69), defBody (topS 69), defScope (topS 69), [], []⟩
def d_law_pick : He.DefD := ⟨("_law_pick", none), "_law_pick", "_law_pick", defArgs (topS 70), defBody (topS 70), defScope (topS 70), [], []⟩
def d_law_bound : He.DefD := ⟨("_law_bound", none), "_law_bound", "_law_bound", defArgs (topS 71), defBody (topS 71), defScope (topS 71), [], []⟩
def d_law_bent_bounds : He.DefD := ⟨("_law_bent_bounds", none), "_law_bent_bounds", "_law_bent_bounds", defArgs (topS 72), defBody (topS 72), defScope (topS 72), [], []⟩
def d_law_contract : He.DefD := ⟨("_law_contract", none), "_law_contract", "_law_contract", defArgs (topS 73), defBody (topS 73), defScope (topS 73), [], []⟩
def d_law_wrong_contract : He.DefD := ⟨("_law_wrong_contract", none), "_law_wrong_contract", "_law_wrong_contract", defArgs (topS 74), defBody (topS 74), defScope (topS 74), [], []⟩
def d_law_wish : He.DefD := ⟨("_law_wish", none), "_law_wish", "_law_wish", defArgs (topS 75), defBody (topS 75), defScope (topS 75), [], []⟩
def d_law : He.DefD := ⟨("law", none), "law", "law", defArgs (topS 76), defBody (topS 76), defScope (topS 76), [], []⟩
def d_Planner_init : He.DefD := ⟨("Planner", some "__init__"), "__init__", "Planner.__init__", defArgs (inClass (topS 64) 0), defBody (inClass (topS 64) 0), defScope (inClass (topS 64) 0), [], []⟩
def d_Planner_wish : He.DefD := ⟨("Planner", some "wish"), "wish", "Planner.wish", defArgs (inClass (topS 64) 2), defBody (inClass (topS 64) 2), defScope (inClass (topS 64) 2), [], []⟩
def d_Planner_undo : He.DefD := ⟨("Planner", some "undo"), "undo", "Planner.undo", defArgs (inClass (topS 64) 3), defBody (inClass (topS 64) 3), defScope (inClass (topS 64) 3), [], []⟩
def d_Planner_design_with : He.DefD := ⟨("Planner", some "_design_with"), "_design_with", "Planner._design_with", defArgs (inClass (topS 64) 4), defBody (inClass (topS 64) 4), defScope (inClass (topS 64) 4), [], []⟩
def d_Planner_leanest : He.DefD := ⟨("Planner", some "_leanest"), "_leanest", "Planner._leanest", defArgs (inClass (topS 64) 5), defBody (inClass (topS 64) 5), defScope (inClass (topS 64) 5), [], []⟩
def d_Planner_plan : He.DefD := ⟨("Planner", some "plan"), "plan", "Planner.plan", defArgs (inClass (topS 64) 6), defBody (inClass (topS 64) 6), defScope (inClass (topS 64) 6), [], []⟩
def d_Planner_missed : He.DefD := ⟨("Planner", some "missed"), "missed", "Planner.missed", defArgs (inClass (topS 64) 7), defBody (inClass (topS 64) 7), defScope (inClass (topS 64) 7), [], []⟩
def fn : List He.DefD := [d_is_number, d_is_from_to, d_is_row, d_gap_by, d_gap_by_head, d_gap_of, d_is_shaped, d_is_rising, d_is_wide, d_is_contract, d_first_wrong_part, d_check_bounds, d_law_mixed, d_law_draw, d_law_start, d_law_same, d_law_pick, d_law_bound, d_law_bent_bounds, d_law_contract, d_law_wrong_contract, d_law_wish, d_law, d_Planner_init, d_Planner_wish, d_Planner_undo, d_Planner_design_with, d_Planner_leanest, d_Planner_plan, d_Planner_missed]
def fa : List He.Fa := [.glo "is_number", .glo "is_from_to", .glo "is_row", .glo "gap_by", .glo "gap_by_head", .glo "gap_of", .glo "is_shaped", .glo "is_rising", .glo "is_wide", .glo "is_contract", .glo "first_wrong_part", .glo "check_bounds", .glo "_law_mixed", .glo "_law_draw", .glo "_law_start", .glo "_law_same", .glo "_law_pick", .glo "_law_bound", .glo "_law_bent_bounds", .glo "_law_contract", .glo "_law_wrong_contract", .glo "_law_wish", .glo "law", .glo "WireError", .glo "BadRoad", .noat "BadRoad" "caller", .noat "BadRoad" "part", .exm "BadRoad" "BadRoad" true, .glo "Refused", .noat "Refused" "word", .exm "Refused" "Refused" true, .glo "Planner", .cls "Planner", .mkr "Planner", .meth "Planner" "wish", .meth "Planner" "undo", .meth "Planner" "_design_with", .meth "Planner" "_leanest", .meth "Planner" "plan", .meth "Planner" "missed", .noat "Planner" "_before", .noat "Planner" "_bounds", .noat "Planner" "_wishes", .free "ValueError", .free "all", .free "any", .free "bool", .free "enumerate", .free "int", .free "isinstance", .free "len", .free "list", .free "max", .free "min", .free "range", .free "reversed", .free "sorted", .free "str", .free "super", .free "tuple", .free "zip", .int "MOST_HEAD" 12, .int "MOST_CALLERS" 4]
def nm0 : List Str := ["_wall", "is_number", "is_from_to", "is_row", "next_slot", "delays_of", "quick_trip", "slow_trip", "divisor_of", "multiple_of", "turns_of", "course_by", "course_of", "idle_state", "lowered", "lifted", "letters_told", "call_passed", "good_starts", "quick_starts", "gap_by", "gap_by_head", "gap_of", "is_shaped", "is_rising", "is_wide", "is_contract", "first_wrong_part", "check_bounds", "starts_of"]
def nm1 : List Str := ["is_better", "put_better", "number_of", "explored", "walked", "rings_of", "height_on", "least_round", "ring_tops", "top_on", "joined", "lone_stair", "greatest_wait", "wait_told", "wait", "keeps_wish", "_law_mixed", "_law_draw", "_law_start", "_law_same", "_law_pick", "_law_bound", "_law_bent_bounds", "_law_contract", "_law_wrong_contract", "_law_wish", "Course", "WireError", "BadRoad", "Refused"]
def nm2 : List Str := ["Lone", "Row", "Stair", "Planner", "MOST_HEAD", "MOST_CALLERS"]
def nms : List Str := nm0 ++ nm1 ++ nm2
abbrev R : PySem.W.OpenRow := PySem.W.OpenLaw.row PySem.Challenge.rw_wirework_k82_planners_wishes
def tf : List He.Defn := [("is_shaped", none), ("is_rising", none), ("is_wide", none), ("Planner", some "wish")]
def mf : Str := PySem.Challenge.pw_wirework_k82_planners_wishes.main.file
def fc : List ((PySem.W.Frag → Addr) × DL.FnV) := [(fun K => DL.initA K "BadRoad", some ("__init__", "BadRoad.__init__", defArgs (inClass (topS 35) 0), .stmts (defBody (inClass (topS 35) 0)), defScope (inClass (topS 35) 0), mainGlobals, [("__class__" : Str)], builtinsNs)), (fun K => DL.initA K "Refused", some ("__init__", "Refused.__init__", defArgs (inClass (topS 36) 0), .stmts (defBody (inClass (topS 36) 0)), defScope (inClass (topS 36) 0), mainGlobals, [("__class__" : Str)], builtinsNs)), (fun K => DL.getA K (DL.propA K "Planner" "wishes"), some ("wishes", "Planner.wishes", defArgs (inClass (topS 64) 1), .stmts (defBody (inClass (topS 64) 1)), defScope (inClass (topS 64) 1), mainGlobals, [], builtinsNs))]
def ex (K : PySem.W.Frag) : Bool := DL.excB mf K "BadRoad" && (DL.excB mf K "Refused" && (DL.iscB K (He.ga K "BadRoad") && (DL.iscB K (He.ga K "Refused") && (DL.propB K "Planner" "wishes" && (DL.getB K "Planner" "wishes" && (decide (PySem.W.kitOne K (.ref (He.ga K "BadRoad")) (.ref (He.ga K "WireError")) = some true) && decide (PySem.W.kitOne K (.ref (He.ga K "BadRoad")) (.ref (He.ga K "Refused")) = some false)))))))
abbrev hk : PySem.W.Hook := DL.hookT 5 fa fn fc tf ex
def ob (s : PySem.W.SharedT) : DL.AlS := DL.obsTG 5 fa fn fc tf ex (HandSHeadRun.getT s)
theorem ob_eq (s : PySem.W.SharedT) : ob s = hk.obs s.abs := DL.obsTG_eq (HandSHeadRun.getT_eq s)
theorem run (w : World) : HandSHeadRun.RunEq R (PySem.W.view R.prog [76]) hk ob 8000 nms w := by
  intro os
  kernel_rfl
end Hd

set_option Elab.async false
set_option linter.all false
set_option maxRecDepth 100000
set_option maxHeartbeats 4000000
/-! Kt: what stands in the module (Ct), defs found by name; small steps of the data layer. -/
namespace DL
open PySem PySem.Spec PyProof.Rows L2
section
variable {M : Mem} {P : PD} {i j : Int} {l : List D} {d : D} {a : Addr}
theorem b_addI (k : P (.int (i + j)) M) : BAdd (.int i) (.int j) M P := k
theorem b_addT {l m : List D} (h : l.length + m.length ≤ sizeLine) (k : P (.tup (l ++ m)) M) : BAdd (.tup l) (.tup m) M P := ⟨h, k⟩
theorem b_addL {a b : Addr} {l m : List D} (h1 : M a = some (.lst l)) (h2 : M b = some (.lst m)) (h : l.length + m.length ≤ sizeLine) (k : ∀ p, M p = none → P (.ref p) (put M p (.lst (l ++ m)))) : BAdd (.ref a) (.ref b) M P := ⟨l, m, h1, h2, h, k⟩
theorem b_sub {g : Int → Int → Int} (k : P (.int (g i j)) M) : BI0 g (.int i) (.int j) M P := k
theorem b_i {C : Int → Int → Prop} {g : Int → Int → Int} (h : C i j) (k : P (.int (g i j)) M) : BI C g (.int i) (.int j) M P := ⟨h, k⟩
theorem b_mul (h : CMul i j) (k : P (.int (i * j)) M) : BMul (.int i) (.int j) M P := ⟨h, k⟩
theorem b_cmp {g : Int → Int → Bool} (k : P (.bl (g i j)) M) : BB0 g (.int i) (.int j) M P := k
theorem b_eqI (k : P (.bl (decide (i = j))) M) : BEqu (.int i) (.int j) M P := k
theorem b_eqS {i j : Str} (k : P (.bl (decide (i = j))) M) : BEqu (.str i) (.str j) M P := k
theorem b_is {x : D} (k : P (.bl (isN x)) M) : BIs x .non M P := k
theorem b_isnot {x : D} (k : P (.bl (!isN x)) M) : BIsNot x .non M P := k
theorem t_bl {Q : Bool → Mem → Prop} {k : Bool} (h : Q k M) : asT Q (.bl k) M := ⟨k, rfl, h⟩
theorem i_tup (h : atI l i = some d) (k : P d M) : IxD (.tup l) (.int i) M P := ⟨d, h, k⟩
theorem i_lst (ha : M a = some (.lst l)) (h : atI l i = some d) (k : P d M) : IxD (.ref a) (.int i) M P := ⟨l, d, ha, h, k⟩
theorem atI_last {α : Type} {l : List α} {d : α} (h : l[l.length - 1]? = some d) : atI l (-1) = some d := by
  have hl : l.length - 1 < l.length := (List.getElem?_eq_some_iff.mp h).1
  unfold atI ixN
  rw [if_neg (by omega), if_pos (by omega)]
  simp only [Option.bind_some]
  have e : ((l.length : Int) + -1).toNat = l.length - 1 := by omega
  have e2 : ((-1 : Int) + l.length).toNat = l.length - 1 := by omega
  simpa [e, e2] using h
theorem c_len {n : Nat} (h : LenD d M n) (k : P (.int n) M) : BLen [d] M P := ⟨d, n, rfl, h, k⟩
theorem c_max (k : P (.int (max i j)) M) : BMax [.int i, .int j] M P := ⟨i, j, rfl, k⟩
theorem c_min (k : P (.int (min i j)) M) : BMin [.int i, .int j] M P := ⟨i, j, rfl, k⟩
theorem c_int (k : P (.int i) M) : BInt [.int i] M P := k
theorem c_intB {b : Bool} (k : P (.int (if b then 1 else 0)) M) : BInt [.bl b] M P := k
theorem c_tupT (k : P (.tup l) M) : BTuple [.tup l] M P := ⟨_, l, rfl, .inl rfl, k⟩
theorem c_tupL (ha : M a = some (.lst l)) (k : P (.tup l) M) : BTuple [.ref a] M P := ⟨_, l, rfl, .inr ⟨a, rfl, ha⟩, k⟩
end
end DL
namespace K82
open PySem PySem.Spec PyProof.Rows L2 DL
structure Ct (K : PySem.W.Frag) (mg : Str → Option Value) (base : Heap) : Prop where
  s : SaysS Hd.fa Hd.fn Hd.fc Hd.ex K
  X : K.In base
  G : base.Ns mainGlobals mg
  TB : ∀ q ∈ Hd.tf, GxR.TabB base mg (He.cT K q).1 (He.cT K q).2
/-- the table of a def's code objects stands in M -/
abbrev Tb (K : PySem.W.Frag) (q : He.Defn) (M : Mem) : Prop := M (He.cT K q).2 = some .tbl
section
variable {P : Program} {w : World} {K : PySem.W.Frag} {mg : Str → Option Value} {base : Heap} {CX : CXT}
theorem Ct.c (C : Ct K mg base) : He.SaysD Hd.fa Hd.fn K := C.s.d
theorem Ct.fr (C : Ct K mg base) (j : Nat) {x : Str} (hj : Hd.fa[j]? = some (.free x) := by rfl) : mg x = none := He.free_ok C.X C.G (C.c.fact j hj)
theorem Ct.df (C : Ct K mg base) (i j : Nat) {x : Str} {d : He.DefD} {k : Nat} {ps : List Str} {sp : DSp} (hd : d.at_ = (x, none)) (h1 : d.dvs K = []) (h2 : d.kws K = [])
    (b : ∀ (kV doc pm : Value) (an : Option Addr) (cdv ct : Value) (us : List Value), us.length = ps.length → bindArgs (PySem.W.fnOf d.name d.qual d.params d.body d.scope .none kV doc pm an cdv ct) ⟨us, []⟩ = pure (ps.zip us))
    (ok : ∀ f fd, FunD K d.name d.qual d.params d.body d.scope [] [] f fd → FnOk P w K mg base CX k f fd ps (lift sp)) (hi : Hd.fn[i]? = some d := by rfl) (hj : Hd.fa[j]? = some (.glo x) := by rfl) : DefOk P w K mg base CX k x ps sp := by
  obtain ⟨fd, F⟩ := C.c.def_ i hi
  rw [hd, h1, h2] at F
  exact ⟨_, fd, He.glo_ok C.X C.G (C.c.fact j hj), F.kp, F.bindsN b, ok _ fd F⟩
theorem Ct.dfC (C : Ct K mg base) (i j : Nat) {x : Str} {d : He.DefD} {k : Nat} {ps : List Str} {sp : DSp} (hd : d.at_ = (x, none)) (h1 : d.dvs K = []) (h2 : d.kws K = [])
    (b : ∀ (kV doc pm : Value) (an : Option Addr) (cdv ct : Value) (us : List Value), us.length = ps.length → bindArgs (PySem.W.fnOf d.name d.qual d.params d.body d.scope .none kV doc pm an cdv ct) ⟨us, []⟩ = pure (ps.zip us))
    (ok : ∀ fd, FunD K d.name d.qual d.params d.body d.scope [] [] (He.fAd K d.at_) fd → FnOk P w K mg base CX k (He.fAd K d.at_) fd ps (lift sp)) (hi : Hd.fn[i]? = some d := by rfl) (hj : Hd.fa[j]? = some (.glo x) := by rfl) : DefOk P w K mg base CX k x ps sp := by
  obtain ⟨fd, F⟩ := C.c.def_ i hi
  rw [h1, h2] at F
  have F2 := ok fd F
  rw [hd] at F F2
  exact ⟨_, fd, He.glo_ok C.X C.G (C.c.fact j hj), F.kp, F.bindsN b, F2⟩
theorem Ct.dfH (C : Ct K mg base) (i j : Nat) {x : Str} {d : He.DefD} {k : Nat} {ps : List Str} {sp : DSp} (hd : d.at_ = (x, none)) (h1 : d.dvs K = []) (h2 : d.kws K = [])
    (b : ∀ (kV doc pm : Value) (an : Option Addr) (cdv ct : Value) (us : List Value), us.length = ps.length → bindArgs (PySem.W.fnOf d.name d.qual d.params d.body d.scope .none kV doc pm an cdv ct) ⟨us, []⟩ = pure (ps.zip us))
    (ok : ∀ f fd, FunD K d.name d.qual d.params d.body d.scope [] [] f fd → L2H.FnH P w K mg base CX0 k f fd ps (lift sp)) (hi : Hd.fn[i]? = some d := by rfl) (hj : Hd.fa[j]? = some (.glo x) := by rfl) : DefOkH P w K mg base k x ps sp := by
  obtain ⟨fd, F⟩ := C.c.def_ i hi
  rw [hd, h1, h2] at F
  exact ⟨_, fd, He.glo_ok C.X C.G (C.c.fact j hj), F.kp, F.bindsN b, ok _ fd F⟩
theorem Ct.tb (C : Ct K mg base) {q : He.Defn} (i : Nat) (h : Hd.tf[i]? = some q := by rfl) : GxR.TabB base mg (He.cT K q).1 (He.cT K q).2 := C.TB q (List.mem_of_getElem? h)
end
end K82

set_option Elab.async false
set_option linter.all false
set_option maxRecDepth 100000
set_option maxHeartbeats 4000000
namespace K82
open PySem PySem.Spec PyProof.Rows L2 DL
structure Way where
  (wheel : Int) (slots : List Int) (reach : Int)
def dWay (w : Way) : D := .tup [.int w.wheel, .tup (w.slots.map D.int), .int w.reach, .int 6]
structure Cal where
  (w0 w1 : Way) (p0 p1 opn turn : Int)
def Cal.way (c : Cal) (s : Bool) : Way := if s then c.w1 else c.w0
def Cal.per (c : Cal) (s : Bool) : Int := if s then c.p1 else c.p0
def dCal (c : Cal) : D := .tup [dWay c.w0, dWay c.w1, .int c.p0, .int c.p1, .int c.opn, .int c.turn]
structure Des where
  (round : Int) (cals : List Cal)
def dDes (d : Des) : D := .tup [.int d.round, .tup (d.cals.map dCal)]
structure Bnd where
  (lo hi low high fails extra : Int)
def dBnd (b : Bnd) : D := .tup [.int b.lo, .int b.hi, .int b.low, .int b.high, .int b.fails, .int b.extra]
def dBnds (l : List Bnd) : D := .tup (l.map dBnd)
def dS (s : Bool) : D := .int (if s then 1 else 0)
theorem map_at {α β : Type} {l : List α} {i : Nat} {x : α} {f : α → β} (h : l[i]? = some x) : (l.map f)[i]? = some (f x) := by rw [List.getElem?_map, h]; rfl
theorem size_ok {n : Nat} (h : n ≤ 1000000) : n ≤ sizeLine := by rw [sizeLine_eq]; omega
end K82
namespace DL
open PySem PySem.Spec PyProof.Rows L2
theorem Lk.imp {H : Hp} {E E' : DE} {Dn : Ends} (k : Lk H E Dn) (h1 : ∀ Γ M, E'.nx Γ M → E.nx Γ M) (h2 : ∀ d M, E'.rt d M → E.rt d M) (h3 : ∀ Γ M, E'.bk Γ M → E.bk Γ M) (h4 : ∀ Γ M, E'.ct Γ M → E.ct Γ M) : Lk H E' Dn :=
  ⟨fun σ H' Γ M t s m p => k.nx σ H' Γ M t s m (h1 _ _ p), fun v H' d M t s m p => k.rt v H' d M t s m (h2 _ _ p), fun σ H' Γ M t s m p => k.bk σ H' Γ M t s m (h3 _ _ p), fun σ H' Γ M t s m p => k.ct σ H' Γ M t s m (h4 _ _ p)⟩
theorem WS.nxt {X : Cx} {st : Stmt} {Γ : Sl} {M : Mem} {E : DE} (J : PS_) (h : WS X st Γ M { E with nx := J }) (k : ∀ Γ M, J Γ M → E.nx Γ M) : WS X st Γ M E :=
  ⟨fun pins s σ H Dn I hs hm lk => h.run pins s σ H Dn I hs hm (lk.imp k (fun _ _ z => z) (fun _ _ z => z) fun _ _ z => z)⟩
theorem WSs.nxt {X : Cx} {st : List Stmt} {Γ : Sl} {M : Mem} {E : DE} (J : PS_) (h : WSs X st Γ M { E with nx := J }) (k : ∀ Γ M, J Γ M → E.nx Γ M) : WSs X st Γ M E :=
  ⟨fun pins s σ H Dn I hs hm lk => h.run pins s σ H Dn I hs hm (lk.imp k (fun _ _ z => z) (fun _ _ z => z) fun _ _ z => z)⟩
end DL
namespace DL
open PySem PySem.Spec PyProof.Rows L2
theorem put_none {M : Mem} {a p : PySem.Addr} {m : MO} (h : put M a m p = none) : p ≠ a ∧ M p = none := by
  unfold put at h
  by_cases e : p = a
  · rw [if_pos e] at h; cases h
  · rw [if_neg e] at h; exact ⟨e, h⟩
section
variable {X : Cx} {scope : Scope} {elt c : Expr} {P : PD}
theorem lcj_ix {ok : D → Prop} {Γ1 : D → Sl} {ds : List D} {keep : Mem → Prop} {p : Addr} {M1 : Mem} (f : Nat → D) (hp : M1 p = none) (hz : ds.length ≤ 1000000) (hk : ∀ M', Sub M1 M' → keep M') (hok : ∀ d ∈ ds, ok d)
    (h : ∀ (k : Nat) (d : D), ds[k]? = some d → ∀ l M', Sub M1 M' → M' p = some (.lst l) → Blks X scope fun Y => WE Y elt (Γ1 d) M' fun y M3 => y = f k ∧ Sub M' M3) (q : ∀ M', Sub M1 M' → M' p = some (.lst ((List.range ds.length).map f)) → P (.ref p) M') : LcJ X scope elt ok Γ1 ds keep p M1 P := by
  have up : ∀ {M' : Mem} {m : MO}, Sub M1 M' → Sub M1 (put M' p m) := fun {M' m} s a u e => by
    rw [put_ne (nn e hp)]
    exact s a u e
  refine ⟨hok, fun k M' => Sub M1 M' ∧ M' p = some (.lst ((List.range k).map f)), ⟨up (Sub.refl _), put_same⟩, fun k M' _ e => hk _ e.1, fun k d M' hd e => ?_, fun M' e => q M' e.1 e.2⟩
  intro s H C cl fp
  refine WE.imp (h k d hd _ M' e.1 e.2 s H C cl fp) fun y M3 ⟨ey, em⟩ => ⟨_, em _ _ e.2, ?_, up (e.1.trans em), ?_⟩
  · have e1 : sizeLine = 16777216 := sizeLine_eq
    have := (List.getElem?_eq_some_iff.mp hd).1
    rw [List.length_map, List.length_range]
    omega
  · rw [put_same, ey, List.range_succ, List.map_append]
    rfl
end
end DL
namespace K82
open PySem PySem.Spec PyProof.Rows L2 DL
theorem rg1_at {n : Int} {i : Nat} {d : D} (h : (rg1 n)[i]? = some d) : (i : Int) < n ∧ d = .int (i : Nat) := by
  unfold rg1 at h
  rw [List.getElem?_map] at h
  cases e : (List.range n.toNat)[i]? with
  | none => rw [e] at h; cases h
  | some j =>
    rw [e] at h
    obtain ⟨h1, h2⟩ := List.getElem?_eq_some_iff.mp e
    rw [List.length_range] at h1
    rw [List.getElem_range] at h2
    subst h2
    refine ⟨by omega, ?_⟩
    have h3 := Option.some.inj h
    rw [← h3]
    exact congrArg D.int (by omega)
theorem rg1_len {n : Int} : (rg1 n).length = n.toNat := by unfold rg1; rw [List.length_map, List.length_range]
theorem rg1_map {n : Nat} : rg1 (n : Nat) = ((List.range n).map fun i => ((i : Nat) : Int)).map D.int := by
  unfold rg1
  rw [List.map_map, Int.toNat_natCast]
  refine List.map_congr_left fun i _ => ?_
  exact congrArg D.int (Int.zero_add _)
theorem mapM_ints : ∀ ns : List Int, (ns.map D.int).mapM toV = some (ns.map V.int)
  | [] => rfl
  | n :: ns => by
    rw [List.map_cons, List.mapM_cons, mapM_ints ns]
    rfl
theorem inV_int {x : Int} : ∀ ns : List Int, inV (.int x) (ns.map V.int) = decide (x ∈ ns)
  | [] => rfl
  | n :: ns => by
    have ih := inV_int (x := x) ns
    unfold inV at ih ⊢
    rw [List.map_cons, List.any_cons, ih]
    have e : eqV (V.int n) (V.int x) = decide (x = n) := by
      unfold eqV
      by_cases h : x = n
      · subst h; simp
      · simp [h, Ne.symm h]
    rw [e]
    by_cases h : x = n <;> simp [h]
end K82

set_option Elab.async false
set_option linter.all false
set_option maxRecDepth 100000
set_option maxHeartbeats 4000000
namespace DL
open PySem PySem.Spec PyProof.Rows L2
theorem WT.imp {X : Cx} {e : Expr} {Γ : Sl} {M : Mem} {PT PT' : Bool → Mem → Prop} (h : WT X e Γ M PT) (k : ∀ b M', PT b M' → PT' b M') : WT X e Γ M PT' := ⟨fun pins s σ H I hs hm => thn (h.run pins s σ H I hs hm) fun u s' ⟨H', I', M', t, m, p⟩ => ⟨H', I', M', t, m, k u M' p⟩⟩
end DL
namespace K82
open PySem PySem.Spec PyProof.Rows L2 DL
theorem Re.of_eq {M M0 : Mem} (e : M = M0) : Re M M0 := e ▸ Re.refl _
section
variable {P : Program} {w : World} {K : PySem.W.Frag} {mg : Str → Option Value} {base : Heap}
/-! ### _law_mixed, _law_draw: some number below the limit -/
def sp_law_mixed : DSp := fun ds M P R => ∃ x t : Int, ds = [.int x, .int t] ∧ ∀ v, P (.int v) M
theorem sc_law_mixed : FnScope ["cell", "trip", "one", "two"] ["cell", "trip"] (defScope (Hd.topS 66)) := ⟨rfl, rfl, rfl, by decide +kernel, rfl, by decide +kernel, by decide +kernel⟩
theorem ok_law_mixed (C : Ct K mg base) : DefOk P w K mg base CX0 1 "_law_mixed" ["cell", "trip"] sp_law_mixed := by
  refine C.df 12 12 (d := Hd.d_law_mixed) rfl rfl rfl (fun _ _ _ _ _ _ us hl => match us, hl with | [_, _], _ => rfl) fun f fd F => fn_ok F sc_law_mixed (by rintro _ _ _ _ ⟨_, _, rfl, _⟩; rfl) ?_
  intro cdv A outer s H E ds M Q R hr ⟨x, t, eds, p⟩
  subst eds
  have sc := sc_law_mixed
  refine wss_cons ?_
  refine ws_set 2 sc.nd ?_
  refine we_bin od_mod ?_
  refine we_callT cd_int (C.fr 48) ?_
  refine wa_cons ?_
  refine we_bin od_add ?_
  refine we_bin od_add ?_
  refine we_bin od_mul ?_
  refine we_var 0 rfl ?_
  refine we_int ?_
  refine b_mul (.inr ⟨by decide, by decide⟩) ?_
  refine we_bin od_mul ?_
  refine we_var 1 rfl ?_
  refine we_int ?_
  refine b_mul (.inr ⟨by decide, by decide⟩) ?_
  refine b_addI ?_
  refine we_int ?_
  refine b_addI ?_
  refine wa_nil ?_
  refine c_int ?_
  refine we_int ?_
  refine b_i (show (0 : Int) < 2147483647 by decide) ?_
  have h1 : 0 ≤ (x * 48271 + t * 69621 + 12345) % 2147483647 ∧ (x * 48271 + t * 69621 + 12345) % 2147483647 < 2147483647 := ⟨Int.emod_nonneg _ (by decide), Int.emod_lt_of_pos _ (by decide)⟩
  show WSs _ _ [some (.int x), some (.int t), some (.int ((x * 48271 + t * 69621 + 12345) % 2147483647)), none] M _
  generalize (x * 48271 + t * 69621 + 12345) % 2147483647 = one at h1 ⊢
  refine wss_cons ?_
  refine ws_set 3 sc.nd ?_
  refine we_bin od_mod ?_
  refine we_callT cd_int (C.fr 48) ?_
  refine wa_cons ?_
  refine we_bin od_add ?_
  refine we_bin od_add ?_
  refine we_bin od_mul ?_
  refine we_var 2 rfl ?_
  refine we_var 2 rfl ?_
  refine b_mul (.inl ⟨by omega, by omega⟩) ?_
  refine we_bin od_mul ?_
  refine we_var 1 rfl ?_
  refine we_int ?_
  refine b_mul (.inr ⟨by decide, by decide⟩) ?_
  refine b_addI ?_
  refine we_bin od_div ?_
  refine we_var 2 rfl ?_
  refine we_int ?_
  refine b_i (show CDiv _ _ from ⟨by decide, by decide⟩) ?_
  refine b_addI ?_
  refine wa_nil ?_
  refine c_int ?_
  refine we_int ?_
  refine b_i (show (0 : Int) < 2147483399 by decide) ?_
  refine wss_one ?_
  refine ws_ret ?_
  refine we_bin od_mod ?_
  refine we_callT cd_int (C.fr 48) ?_
  refine wa_cons ?_
  refine we_bin od_add ?_
  refine we_bin od_add ?_
  refine we_bin od_mul ?_
  refine we_var 3 rfl ?_
  refine we_int ?_
  refine b_mul (.inr ⟨by decide, by decide⟩) ?_
  refine we_bin od_div ?_
  refine we_var 3 rfl ?_
  refine we_int ?_
  refine b_i (show CDiv _ _ from ⟨by decide, by decide⟩) ?_
  refine b_addI ?_
  refine we_var 1 rfl ?_
  refine b_addI ?_
  refine wa_nil ?_
  refine c_int ?_
  refine we_int ?_
  refine b_i (show (0 : Int) < 998244353 by decide) ?_
  exact ⟨_, Sub.refl _, p _⟩
def bagL (c c2 : Addr) (i v n m k : Int) : List D := [.ref c, .int i, .int v, .int n, .int m, .int k, .ref c2]
structure BA where
  (b c e : Addr)
def Bag (M : Mem) (B : BA) : Prop := ∃ (i v n m k : Int) (cs es : List Int), M B.b = some (.lst (bagL B.c B.e i v n m k)) ∧ M B.c = some (.lst (cs.map D.int)) ∧ M B.e = some (.lst (es.map D.int)) ∧ es.length = cs.length ∧ B.c ≠ B.b ∧ B.e ≠ B.b ∧ 0 ≤ i ∧ cs.length ≤ 63
/-- the bag b may change, new objects may come -/
def Bf (b : Addr) (M M' : Mem) : Prop := ∀ x m, x ≠ b → M x = some m → M' x = some m
theorem Bf.refl {b : Addr} (M : Mem) : Bf b M M := fun _ _ _ h => h
theorem Bf.trans {b : Addr} {M M1 M2 : Mem} (f : Bf b M M1) (g : Bf b M1 M2) : Bf b M M2 := fun x m n e => g x m n (f x m n e)
theorem Bf.sub {b : Addr} {M M1 : Mem} (h : Sub M M1) : Bf b M M1 := fun x m _ e => h x m e
theorem Bf.new {b q : Addr} {M : Mem} {m : MO} (h : M q = none) : Bf b M (put M q m) := Bf.sub (Sub.put h)
theorem Bf.put {b : Addr} {M : Mem} {m : MO} : Bf b M (DL.put M b m) := fun x u n e => (put_ne n).trans e
theorem Bag.fr {B : BA} {M M1 : Mem} (h : Bag M B) (s : ∀ x ∈ [B.b, B.c, B.e], M1 x = M x) : Bag M1 B := let ⟨i, v, n, m, k, cs, es, e1, e2, e3, r⟩ := h; ⟨i, v, n, m, k, cs, es, (s _ (by simp)).trans e1, (s _ (by simp)).trans e2, (s _ (by simp)).trans e3, r⟩
theorem Bag.df {B : BA} {M : Mem} (h : Bag M B) : ∀ x ∈ [B.b, B.c, B.e], M x ≠ none := fun x hx => by
  obtain ⟨i, v, n, m, k, cs, es, e1, e2, e3, r⟩ := h
  simp only [List.mem_cons, List.not_mem_nil, or_false] at hx
  rcases hx with rfl | rfl | rfl
  · rw [e1]; exact fun z => by cases z
  · rw [e2]; exact fun z => by cases z
  · rw [e3]; exact fun z => by cases z
theorem Bag.sub {B : BA} {M M1 : Mem} (h : Bag M B) (s : Sub M M1) : Bag M1 B := h.fr fun x hx => by
  cases e : M x with
  | none => exact absurd e (h.df x hx)
  | some u => exact s x u e
theorem Bag.put {B : BA} {q : Addr} {M M1 : Mem} {m : MO} (h : Bag M B) (f : Bag M1 B) (hq : M q = none) : Bag (DL.put M1 q m) B := f.fr fun x hx => put_ne fun e => h.df x hx (e ▸ hq)
/-- put at an object that is none of the bag's -/
theorem Bag.put2 {B : BA} {q : Addr} {M : Mem} {m : MO} (h : Bag M B) (hq : q ∉ [B.b, B.c, B.e]) : Bag (DL.put M q m) B := h.fr fun x hx => put_ne fun e => hq (e ▸ hx)
def sp_law_draw : DSp := fun ds M P R => ∃ (B : BA) (lim : Int), ds = [.ref B.b, .int lim] ∧ Bag M B ∧ 0 < lim ∧ lim < 1000000000 ∧ ∀ (v : Int) M', 0 ≤ v → v < lim → Bag M' B → (∀ x, x ≠ B.b → M' x = M x) → P (.int v) M'
theorem sc_law_draw : FnScope ["bag", "limit", "cells", "found", "cell"] ["bag", "limit"] (defScope (Hd.topS 67)) := ⟨rfl, rfl, rfl, by decide +kernel, rfl, by decide +kernel, by decide +kernel⟩
theorem ok_law_draw (C : Ct K mg base) : DefOk P w K mg base CX0 2 "_law_draw" ["bag", "limit"] sp_law_draw := by
  refine C.df 13 13 (d := Hd.d_law_draw) rfl rfl rfl (fun _ _ _ _ _ _ us hl => match us, hl with | [_, _], _ => rfl) fun f fd F => fn_ok F sc_law_draw (by rintro _ _ _ _ ⟨_, _, rfl, _⟩; rfl) ?_
  intro cdv A outer s H E ds M Q R hr ⟨⟨b, c, c2⟩, lim, eds, ⟨i, v, n, m, k, cs, es, eb, ec, ee, hle, ncb, neb, hi, hcs⟩, hl0, hl1, kk⟩
  subst eds
  simp only at eb ec ee ncb neb kk
  have sc := sc_law_draw
  have fin : ∀ {x : Int} {i v n m k : Int}, 0 ≤ i → Q (.int (x % lim)) (put M b (.lst (bagL c c2 i v n m k))) := fun {x i v n m k} h => kk _ _ (Int.emod_nonneg _ (by omega)) (Int.emod_lt_of_pos _ hl0) ⟨i, v, n, m, k, cs, es, put_same, (put_ne ncb).trans ec, (put_ne neb).trans ee, hle, ncb, neb, h, hcs⟩ fun x hx => put_ne hx
  have atc : ∀ {l}, (put M b (.lst l)) c = some (.lst (cs.map D.int)) := fun {l} => (put_ne ncb).trans ec
  have ate : ∀ {l}, (put M b (.lst l)) c2 = some (.lst (es.map D.int)) := fun {l} => (put_ne neb).trans ee
  refine wss_cons ?_
  refine ws_asg ?_
  refine we_bin od_add ?_
  refine we_sub ?_
  refine we_var 0 rfl ?_
  refine we_int ?_
  refine i_lst eb rfl ?_
  refine we_int ?_
  refine b_addI ?_
  refine wg_lsub ?_
  refine we_var 0 rfl ?_
  refine we_int ?_
  refine ⟨_, _, 3, rfl, eb, rfl, Nat.le_of_ble_eq_true rfl, ?_⟩
  show WSs _ _ _ (put M b (.lst (bagL c c2 i v (n + 1) m k))) _
  generalize n + 1 = n
  refine wss_cons ?_
  refine ws_set 2 sc.nd ?_
  refine we_sub ?_
  refine we_var 0 rfl ?_
  refine we_int ?_
  refine i_lst put_same rfl ?_
  refine wss_cons ?_
  refine ws_if ?_
  refine wt_cmp od_eq ?_
  refine we_callB cd_len (C.fr 50) ?_
  refine wa_cons ?_
  refine we_var 2 rfl ?_
  refine wa_nil ?_
  refine c_len ⟨_, atc, rfl⟩ ?_
  rw [List.length_map]
  refine we_int ?_
  refine b_eqI ?_
  refine t_bl ?_
  refine ⟨fun hk => ?_, fun hk => ?_⟩
  · refine wss_one ?_
    refine ws_ret ?_
    refine we_bin od_mod ?_
    refine we_callT cd_int (C.fr 48) ?_
    refine wa_cons ?_
    refine we_call (ok_law_mixed C) hr ?_
    refine wa_cons ?_
    refine we_int ?_
    refine wa_cons ?_
    refine we_sub ?_
    refine we_var 0 rfl ?_
    refine we_int ?_
    refine i_lst put_same rfl ?_
    refine wa_nil ?_
    refine ⟨_, _, rfl, fun u => ?_⟩
    refine wa_nil ?_
    refine c_int ?_
    refine we_var 1 rfl ?_
    refine b_i hl0 ?_
    exact ⟨_, Sub.refl _, fin hi⟩
  refine wss_nil ?_
  have hcs0 : 0 < cs.length := by have := of_decide_eq_false hk; omega
  refine wss_cons ?_
  refine WS.nxt (fun (Γ' : Sl) (M' : Mem) => ∃ i v k x4, 0 ≤ i ∧ Γ' = [some (D.ref b), some (D.int lim), some (D.ref c), none, x4] ∧ M' = put M b (.lst (bagL c c2 i v n m k))) ?_ ?_
  · have out : ∀ {G : Sl} {M' : Mem}, G = [some (D.ref b), some (D.int lim), some (D.ref c), none, none] → M' = put M b (.lst (bagL c c2 i v n m k)) → ∃ i v k x4, 0 ≤ i ∧ G = [some (D.ref b), some (D.int lim), some (D.ref c), none, x4] ∧ M' = put M b (.lst (bagL c c2 i v n m k)) := fun {G M'} e1 e2 => ⟨i, v, k, none, hi, e1, e2⟩
    refine ws_if ?_
    refine wt_ww ?_
    refine ww_and ?_
    refine wt_cmp od_eq ?_
    refine we_sub ?_
    refine we_var 0 rfl ?_
    refine we_int ?_
    refine i_lst put_same rfl ?_
    refine we_int ?_
    refine b_eqI ?_
    refine t_bl ?_
    refine ⟨fun hk1 => ?_, fun hk1 => ⟨fun z => (nomatch z), fun _ => wss_nil (out rfl rfl)⟩⟩
    refine ww_and ?_
    refine wt_cmp od_eq ?_
    refine we_sub ?_
    refine we_var 0 rfl ?_
    refine we_int ?_
    refine i_lst put_same rfl ?_
    refine we_int ?_
    refine b_eqI ?_
    refine t_bl ?_
    refine ⟨fun hk2 => ?_, fun hk2 => ⟨fun z => (nomatch z), fun _ => wss_nil (out rfl rfl)⟩⟩
    refine ww_and1 ?_
    refine wt_cmp od_lt ?_
    refine we_sub ?_
    refine we_var 0 rfl ?_
    refine we_int ?_
    refine i_lst put_same rfl ?_
    refine we_callB cd_len (C.fr 50) ?_
    refine wa_cons ?_
    refine we_var 2 rfl ?_
    refine wa_nil ?_
    refine c_len ⟨_, atc, rfl⟩ ?_
    rw [List.length_map]
    refine b_cmp ?_
    refine t_bl ?_
    refine ⟨fun hk3 => ?_, fun hk3 => wss_nil (out rfl rfl)⟩
    have hlt : i < (cs.length : Int) := of_decide_eq_true hk3
    have ei : i = (i.toNat : Int) := by omega
    obtain ⟨cell, ecell⟩ : ∃ x, cs[i.toNat]? = some x := ⟨_, List.getElem?_eq_getElem (by omega)⟩
    refine wss_cons ?_
    refine ws_set 4 sc.nd ?_
    refine we_sub ?_
    refine we_var 2 rfl ?_
    refine we_sub ?_
    refine we_var 0 rfl ?_
    refine we_int ?_
    refine i_lst put_same rfl ?_
    refine i_lst atc (by rw [ei]; exact atI_nat (map_at ecell)) ?_
    refine wss_cons ?_
    refine ws_asg ?_
    refine we_bin od_add ?_
    refine we_sub ?_
    refine we_var 0 rfl ?_
    refine we_int ?_
    refine i_lst put_same rfl ?_
    refine we_int ?_
    refine b_addI ?_
    refine wg_lsub ?_
    refine we_var 0 rfl ?_
    refine we_int ?_
    refine ⟨_, _, 1, rfl, put_same, rfl, Nat.le_of_ble_eq_true rfl, ?_⟩
    rw [put_put]
    show WSs _ _ _ (put M b (.lst (bagL c c2 (i + 1) v n m k))) _
    have hi1 : 0 ≤ i + 1 := by omega
    generalize i + 1 = i1 at hi1 ⊢
    refine wss_cons ?_
    refine ws_if ?_
    refine wt_cmp od_lt ?_
    refine we_var 4 rfl ?_
    refine we_bin od_pow ?_
    refine we_int ?_
    refine we_int ?_
    refine b_i (show CPow _ _ from ⟨by decide, by decide, by decide⟩) ?_
    refine b_cmp ?_
    refine t_bl ?_
    refine ⟨fun hk4 => ?_, fun hk4 => ?_⟩
    · refine wss_one ?_
      refine ws_ret ?_
      refine we_bin od_mod ?_
      refine we_callT cd_int (C.fr 48) ?_
      refine wa_cons ?_
      refine we_call (ok_law_mixed C) hr ?_
      refine wa_cons ?_
      refine we_var 4 rfl ?_
      refine wa_cons ?_
      refine we_sub ?_
      refine we_var 0 rfl ?_
      refine we_int ?_
      refine i_lst put_same rfl ?_
      refine wa_nil ?_
      refine ⟨_, _, rfl, fun u => ?_⟩
      refine wa_nil ?_
      refine c_int ?_
      refine we_var 1 rfl ?_
      refine b_i hl0 ?_
      exact ⟨_, Sub.refl _, fin hi1⟩
    · refine wss_nil ?_
      refine wss_cons ?_
      refine ws_asg ?_
      refine we_var 4 rfl ?_
      refine wg_lsub ?_
      refine we_var 0 rfl ?_
      refine we_int ?_
      refine ⟨_, _, 2, rfl, put_same, rfl, Nat.le_of_ble_eq_true rfl, ?_⟩
      rw [put_put]
      show WSs _ _ _ (put M b (.lst (bagL c c2 i1 cell n m k))) _
      refine wss_one ?_
      refine ws_asg ?_
      refine we_int ?_
      refine wg_lsub ?_
      refine we_var 0 rfl ?_
      refine we_int ?_
      refine ⟨_, _, 5, rfl, put_same, rfl, Nat.le_of_ble_eq_true rfl, ?_⟩
      rw [put_put]
      exact ⟨i1, cell, 60, _, hi1, rfl, rfl⟩
  clear hi
  rintro _ _ ⟨i, v, k, x4, hi, rfl, rfl⟩
  refine wss_cons ?_
  have hidx : ∀ x : Int, ∃ y, atI (es.map D.int) (x % (cs.length : Int)) = some (.int y) := fun x => by
    have h1 := Int.emod_nonneg x (show (cs.length : Int) ≠ 0 by omega)
    have h2 := Int.emod_lt_of_pos x (show (0 : Int) < (cs.length : Int) by omega)
    obtain ⟨y, ey⟩ : ∃ y, es[(x % (cs.length : Int)).toNat]? = some y := ⟨_, List.getElem?_eq_getElem (by omega)⟩
    exact ⟨y, by rw [show x % (cs.length : Int) = ((x % (cs.length : Int)).toNat : Int) by omega]; exact atI_nat (map_at ey)⟩
  have early : ∀ (Y : Cx) (E' : DE) (st : List Stmt), True := fun _ _ _ => trivial
  refine WS.nxt (fun (Γ' : Sl) (M' : Mem) => Γ' = [some (D.ref b), some (D.int lim), some (D.ref c), none, x4] ∧ M' = put M b (.lst (bagL c c2 i v n m k))) ?_ ?_
  · refine ws_if ?_
    refine WT.imp (PT := fun k' M' => M' = put M b (.lst (bagL c c2 i v n m k))) ?_ ?_
    · refine wt_ww ?_
      refine ww_or ?_
      refine wt_cmp od_eq ?_
      refine we_sub ?_
      refine we_var 0 rfl ?_
      refine we_int ?_
      refine i_lst put_same rfl ?_
      refine we_int ?_
      refine b_eqI ?_
      refine t_bl ?_
      refine ⟨fun hk1 => ?_, fun _ => rfl⟩
      refine ww_or1 ?_
      refine wt_cmp od_eq ?_
      refine we_sub ?_
      refine we_var 0 rfl ?_
      refine we_int ?_
      refine i_lst put_same rfl ?_
      refine we_int ?_
      refine b_eqI ?_
      refine t_bl ?_
      rfl
    rintro k' _ rfl
    refine ⟨fun _ => ?_, fun _ => wss_nil ⟨rfl, rfl⟩⟩
    obtain ⟨y, ey⟩ := hidx n
    refine wss_one ?_
    refine ws_ret ?_
    refine we_bin od_mod ?_
    refine we_callT cd_int (C.fr 48) ?_
    refine wa_cons ?_
    refine we_call (ok_law_mixed C) hr ?_
    refine wa_cons ?_
    refine we_sub ?_
    refine we_sub ?_
    refine we_var 0 rfl ?_
    refine we_int ?_
    refine i_lst put_same rfl ?_
    refine we_bin od_mod ?_
    refine we_callT cd_int (C.fr 48) ?_
    refine wa_cons ?_
    refine we_sub ?_
    refine we_var 0 rfl ?_
    refine we_int ?_
    refine i_lst put_same rfl ?_
    refine wa_nil ?_
    refine c_int ?_
    refine we_callB cd_len (C.fr 50) ?_
    refine wa_cons ?_
    refine we_var 2 rfl ?_
    refine wa_nil ?_
    refine c_len ⟨_, atc, rfl⟩ ?_
    rw [List.length_map]
    refine b_i (show (0 : Int) < (cs.length : Int) by omega) ?_
    refine i_lst ate ey ?_
    refine wa_cons ?_
    refine we_sub ?_
    refine we_var 0 rfl ?_
    refine we_int ?_
    refine i_lst put_same rfl ?_
    refine wa_nil ?_
    refine ⟨_, _, rfl, fun u => ?_⟩
    refine wa_nil ?_
    refine c_int ?_
    refine we_var 1 rfl ?_
    refine b_i hl0 ?_
    exact ⟨_, Sub.refl _, fin hi⟩
  rintro _ _ ⟨rfl, rfl⟩
  refine wss_cons ?_
  refine ws_set 3 sc.nd ?_
  refine we_bin od_mod ?_
  refine we_callT cd_int (C.fr 48) ?_
  refine wa_cons ?_
  refine we_sub ?_
  refine we_var 0 rfl ?_
  refine we_int ?_
  refine i_lst put_same rfl ?_
  refine wa_nil ?_
  refine c_int ?_
  refine we_var 1 rfl ?_
  refine b_i hl0 ?_
  refine wss_cons ?_
  refine ws_asg ?_
  refine we_bin od_sub ?_
  refine we_sub ?_
  refine we_var 0 rfl ?_
  refine we_int ?_
  refine i_lst put_same rfl ?_
  refine we_int ?_
  refine b_sub ?_
  refine wg_lsub ?_
  refine we_var 0 rfl ?_
  refine we_int ?_
  refine ⟨_, _, 5, rfl, put_same, rfl, Nat.le_of_ble_eq_true rfl, ?_⟩
  rw [put_put]
  show WSs _ _ _ (put M b (.lst (bagL c c2 i v n m (k - 1)))) _
  refine wss_cons ?_
  refine ws_asg ?_
  refine we_bin od_mul ?_
  refine we_bin od_div ?_
  refine we_callT cd_int (C.fr 48) ?_
  refine wa_cons ?_
  refine we_sub ?_
  refine we_var 0 rfl ?_
  refine we_int ?_
  refine i_lst put_same rfl ?_
  refine wa_nil ?_
  refine c_int ?_
  refine we_var 1 rfl ?_
  refine b_i (show CDiv _ _ from ⟨hl0, by omega⟩) ?_
  refine we_callT cd_int (C.fr 48) ?_
  refine wa_cons ?_
  refine we_cmp od_gt ?_
  refine we_sub ?_
  refine we_var 0 rfl ?_
  refine we_int ?_
  refine i_lst put_same rfl ?_
  refine we_int ?_
  refine b_cmp ?_
  refine wa_nil ?_
  refine c_intB ?_
  refine b_mul (.inr ⟨by split <;> decide, by split <;> decide⟩) ?_
  refine wg_lsub ?_
  refine we_var 0 rfl ?_
  refine we_int ?_
  refine ⟨_, _, 2, rfl, put_same, rfl, Nat.le_of_ble_eq_true rfl, ?_⟩
  rw [put_put]
  refine wss_one ?_
  refine ws_ret ?_
  refine we_var 3 rfl ?_
  exact ⟨_, Sub.refl _, fin hi⟩
end
end K82

set_option Elab.async false
set_option linter.all false
set_option maxRecDepth 100000
set_option maxHeartbeats 4000000
namespace K82
open PySem PySem.Spec PyProof.Rows L2 DL
theorem Bf.of_eq {b : Addr} {M M1 : Mem} (h : ∀ x, x ≠ b → M1 x = M x) : Bf b M M1 := fun x m n e => (h x n).trans e
section
variable {P : Program} {w : World} {K : PySem.W.Frag} {mg : Str → Option Value} {base : Heap}
/-! ### _law_pick -/
def sp_law_pick : DSp := fun ds M P R => ∃ (B : BA) (a : Addr) (xs : List Int), ds = [.ref B.b, .ref a] ∧ Bag M B ∧ a ≠ B.b ∧ M a = some (.lst (xs.map D.int)) ∧ 0 < xs.length ∧ xs.length ≤ 1000 ∧ ∀ (x : Int) M', x ∈ xs → Bag M' B → Bf B.b M M' → P (.int x) M'
theorem sc_law_pick : FnScope ["bag", "some"] ["bag", "some"] (defScope (Hd.topS 70)) := ⟨rfl, rfl, rfl, by decide +kernel, rfl, by decide +kernel, by decide +kernel⟩
theorem ok_law_pick (C : Ct K mg base) : DefOk P w K mg base CX0 3 "_law_pick" ["bag", "some"] sp_law_pick := by
  refine C.df 16 16 (d := Hd.d_law_pick) rfl rfl rfl (fun _ _ _ _ _ _ us hl => match us, hl with | [_, _], _ => rfl) fun f fd F => fn_ok F sc_law_pick (by rintro _ _ _ _ ⟨_, _, _, rfl, _⟩; rfl) ?_
  intro cdv Ar outer s H E ds M Q R hr ⟨B, a, xs, eds, hB, hab, ha, h0, h1, kk⟩
  subst eds
  refine wss_one (ws_ret ?_)
  refine we_sub ?_
  refine we_var 1 rfl ?_
  refine we_call (ok_law_draw C) hr ?_
  refine wa_cons ?_
  refine we_var 0 rfl ?_
  refine wa_cons ?_
  refine we_callB cd_len (C.fr 50) ?_
  refine wa_cons ?_
  refine we_var 1 rfl ?_
  refine wa_nil ?_
  refine c_len ⟨_, ha, rfl⟩ ?_
  rw [List.length_map]
  refine wa_nil ?_
  refine ⟨B, _, rfl, hB, by omega, by omega, fun v M' v0 v1 hB' hM' => ?_⟩
  obtain ⟨x, ex⟩ : ∃ x, xs[v.toNat]? = some x := ⟨_, List.getElem?_eq_getElem (by omega)⟩
  refine i_lst ((hM' a hab).trans ha) (by rw [show v = (v.toNat : Int) by omega]; exact atI_nat (map_at ex)) ?_
  exact ⟨_, Sub.refl _, kk x M' (List.mem_of_getElem? ex) hB' (Bf.of_eq hM')⟩
/-! ### _law_bound -/
structure Bnd.In (b : Bnd) (f : Int) : Prop where
  lo : 1 ≤ b.lo
  hi : b.lo ≤ b.hi
  low : 1 ≤ b.low
  high : b.low ≤ b.high
  f0 : 1 ≤ b.fails
  f1 : b.fails ≤ f
  hi1 : b.hi ≤ 60
  high1 : b.high ≤ 60
  ex0 : 1 ≤ b.extra
  ex1 : b.extra ≤ 3
def sp_law_bound : DSp := fun ds M P R => ∃ (B : BA) (most fails : Int), ds = [.ref B.b, .int most, .int fails] ∧ Bag M B ∧ 0 < most ∧ most ≤ 60 ∧ 0 < fails ∧ fails ≤ 1000 ∧ ∀ (b : Bnd) M', b.In fails → Bag M' B → Bf B.b M M' → P (dBnd b) M'
theorem sc_law_bound : FnScope ["bag", "most", "fails", "wide", "lo", "low", "hi", "high"] ["bag", "most", "fails"] (defScope (Hd.topS 71)) := ⟨rfl, rfl, rfl, by decide +kernel, rfl, by decide +kernel, by decide +kernel⟩
theorem ok_law_bound (C : Ct K mg base) : DefOk P w K mg base CX0 4 "_law_bound" ["bag", "most", "fails"] sp_law_bound := by
  refine C.df 17 17 (d := Hd.d_law_bound) rfl rfl rfl (fun _ _ _ _ _ _ us hl => match us, hl with | [_, _, _], _ => rfl) fun f fd F => fn_ok F sc_law_bound (by rintro _ _ _ _ ⟨_, _, _, rfl, _⟩; rfl) ?_
  intro cdv Ar outer s H E ds M Q R hr ⟨B, most, fails, eds, hB, m0, m1, f0, f1, kk⟩
  subst eds
  have sc := sc_law_bound
  refine wss_cons ?_
  refine ws_par 4 5 rfl sc.nd ?_
  refine wa_cons ?_
  refine we_bin od_add ?_
  refine we_int ?_
  refine we_call (ok_law_draw C) hr ?_
  refine wa_cons ?_
  refine we_var 0 rfl ?_
  refine wa_cons ?_
  refine we_var 1 rfl ?_
  refine wa_nil ?_
  refine ⟨B, _, rfl, hB, by omega, by omega, fun lo M1 l0 l1 hB1 e1 => ?_⟩
  refine b_addI ?_
  refine wa_cons ?_
  refine we_bin od_add ?_
  refine we_int ?_
  refine we_call (ok_law_draw C) hr ?_
  refine wa_cons ?_
  refine we_var 0 rfl ?_
  refine wa_cons ?_
  refine we_var 1 rfl ?_
  refine wa_nil ?_
  refine ⟨B, _, rfl, hB1, by omega, by omega, fun low M2 w0 w1 hB2 e2 => ?_⟩
  refine b_addI ?_
  refine wa_nil ?_
  refine ⟨_, _, rfl, ?_⟩
  refine wss_cons ?_
  refine ws_set 3 sc.nd ?_
  refine we_call (ok_law_pick C) hr ?_
  refine wa_cons ?_
  refine we_var 0 rfl ?_
  refine wa_cons ?_
  refine we_lst ?_
  refine wa_cons ?_
  refine we_int ?_
  refine wa_cons ?_
  refine we_int ?_
  refine wa_cons ?_
  refine we_var 1 rfl ?_
  refine wa_nil ?_
  refine ⟨size_ok (by simp), fun p hp => ?_⟩
  refine wa_nil ?_
  have hpb : p ≠ B.b := fun e => hB2.df B.b (by simp) (e ▸ hp)
  refine ⟨B, p, [0, 1, most], rfl, hB2.put hB2 hp, hpb, put_same, by simp, by simp, fun wide M3 hw hB3 e3 => ?_⟩
  have hw' : 0 ≤ wide ∧ wide ≤ 1000 := by
    simp only [List.mem_cons, List.not_mem_nil, or_false] at hw
    rcases hw with rfl | rfl | rfl <;> omega
  have f3 : Bf B.b M M3 := ((Bf.of_eq e1).trans (Bf.of_eq e2)).trans ((Bf.new hp).trans e3)
  refine wss_cons ?_
  refine ws_par 6 7 rfl sc.nd ?_
  refine wa_cons ?_
  refine we_callB (cd_min rfl) (C.fr 53) ?_
  refine wa_cons ?_
  refine we_int ?_
  refine wa_cons ?_
  refine we_bin od_add ?_
  refine we_var 4 rfl ?_
  refine we_call (ok_law_draw C) hr ?_
  refine wa_cons ?_
  refine we_var 0 rfl ?_
  refine wa_cons ?_
  refine we_bin od_add ?_
  refine we_var 3 rfl ?_
  refine we_int ?_
  refine b_addI ?_
  refine wa_nil ?_
  refine ⟨B, _, rfl, hB3, by omega, by omega, fun x4 M4 x40 x41 hB4 e4 => ?_⟩
  refine b_addI ?_
  refine wa_nil ?_
  refine c_min ?_
  refine wa_cons ?_
  refine we_callB (cd_min rfl) (C.fr 53) ?_
  refine wa_cons ?_
  refine we_int ?_
  refine wa_cons ?_
  refine we_bin od_add ?_
  refine we_var 5 rfl ?_
  refine we_call (ok_law_draw C) hr ?_
  refine wa_cons ?_
  refine we_var 0 rfl ?_
  refine wa_cons ?_
  refine we_bin od_add ?_
  refine we_var 3 rfl ?_
  refine we_int ?_
  refine b_addI ?_
  refine wa_nil ?_
  refine ⟨B, _, rfl, hB4, by omega, by omega, fun x5 M5 x50 x51 hB5 e5 => ?_⟩
  refine b_addI ?_
  refine wa_nil ?_
  refine c_min ?_
  refine wa_nil ?_
  refine ⟨_, _, rfl, ?_⟩
  refine wss_one ?_
  refine ws_ret ?_
  refine we_tup ?_
  refine wa_cons ?_
  refine we_var 4 rfl ?_
  refine wa_cons ?_
  refine we_var 6 rfl ?_
  refine wa_cons ?_
  refine we_var 5 rfl ?_
  refine wa_cons ?_
  refine we_var 7 rfl ?_
  refine wa_cons ?_
  refine we_bin od_add ?_
  refine we_int ?_
  refine we_call (ok_law_draw C) hr ?_
  refine wa_cons ?_
  refine we_var 0 rfl ?_
  refine wa_cons ?_
  refine we_var 2 rfl ?_
  refine wa_nil ?_
  refine ⟨B, _, rfl, hB5, by omega, by omega, fun x6 M6 x60 x61 hB6 e6 => ?_⟩
  refine b_addI ?_
  refine wa_cons ?_
  refine we_bin od_add ?_
  refine we_int ?_
  refine we_call (ok_law_draw C) hr ?_
  refine wa_cons ?_
  refine we_var 0 rfl ?_
  refine wa_cons ?_
  refine we_int ?_
  refine wa_nil ?_
  refine ⟨B, _, rfl, hB6, by omega, by omega, fun x7 M7 x70 x71 hB7 e7 => ?_⟩
  refine b_addI ?_
  refine wa_nil ?_
  refine ⟨size_ok (by simp), _, Sub.refl _, kk ⟨1 + lo, min 60 (1 + lo + x4), 1 + low, min 60 (1 + low + x5), 1 + x6, 1 + x7⟩ M7 ⟨?_, ?_, ?_, ?_, ?_, ?_, ?_, ?_, ?_, ?_⟩ hB7 ?_⟩
  · show 1 ≤ 1 + lo; omega
  · show 1 + lo ≤ min 60 (1 + lo + x4); omega
  · show 1 ≤ 1 + low; omega
  · show 1 + low ≤ min 60 (1 + low + x5); omega
  · show 1 ≤ 1 + x6; omega
  · show 1 + x6 ≤ fails; omega
  · show min 60 (1 + lo + x4) ≤ 60; omega
  · show min 60 (1 + low + x5) ≤ 60; omega
  · show 1 ≤ 1 + x7; omega
  · show 1 + x7 ≤ 3; omega
  · exact f3.trans ((((Bf.of_eq e4).trans (Bf.of_eq e5)).trans (Bf.of_eq e6)).trans (Bf.of_eq e7))
/-! ### _law_way -/
theorem Bag.ne {B : BA} {M : Mem} {p : Addr} (h : Bag M B) (hp : M p = none) : p ∉ [B.b, B.c, B.e] := fun hx => h.df p hx hp
end
end K82

set_option Elab.async false
set_option linter.all false
set_option maxRecDepth 100000
set_option maxHeartbeats 4000000
namespace K82
open PySem PySem.Spec PyProof.Rows L2 DL
section
variable {P : Program} {w : World} {K : PySem.W.Frag} {mg : Str → Option Value} {base : Heap}
/-! ### _law_same: True where both are alike -/
inductive Scal : D → Prop
  | non : Scal .non
  | bl (b : Bool) : Scal (.bl b)
  | int (i : Int) : Scal (.int i)
  | str (i : Str) : Scal (.str i)
def deep : Nat → D → Prop
  | 0, d => Scal d
  | n + 1, d => Scal d ∨ ∃ l, d = .tup l ∧ l.length ≤ 1000000 ∧ ∀ x ∈ l, deep n x
theorem c_isi {M : Mem} {P : PD} {d : D} {S T : String} {b : Bool} (h : TyD M d S) (h2 : kitB S T = some b) (k : P (.bl b) M) : BIsi [d, .ty T] M P := ⟨d, S, T, b, rfl, h, h2, k⟩
theorem b_neI {M : Mem} {P : PD} {i j : Int} (k : P (.bl (!decide (i = j))) M) : BNe (.int i) (.int j) M P := k
def sp_law_same (n : Nat) : DSp := fun ds M P R => ∃ d, ds = [d, d] ∧ deep n d ∧ P (.bl true) M
theorem sc_law_same : FnScope ["actual", "due", "k"] ["actual", "due"] (defScope (Hd.topS 69)) := ⟨rfl, rfl, rfl, by decide +kernel, rfl, by decide +kernel, by decide +kernel⟩
abbrev Xs (P : Program) (w : World) (K : PySem.W.Frag) (mg : Str → Option Value) (base : Heap) (f : Addr) (cdv : Value) (A : Around) (outer : List Env) (s : Shared) (H : Hp) (E : XK) : Cx :=
  (cxOf CX0 P w K mg base ["actual", "due", "k"] Hd.d_law_same.qual Hd.d_law_same.scope f cdv A outer s H E).nox
theorem same_scal (C : Ct K mg base) {f : Addr} {cdv : Value} {A : Around} {outer : List Env} {s : Shared} {H : Hp} {E : XK} {d : D} {M : Mem} {D' : DE} (hd : Scal d) (kk : D'.rt (.bl true) M) :
    WSs (Xs P w K mg base f cdv A outer s H E) (defBody (Hd.topS 69)) (start ["actual", "due", "k"] [d, d]) M D' := by
  have ht : ∃ S, TyD M d S ∧ kitB S "tuple" = some false := by
    cases hd with
    | non => exact ⟨_, .non, by decide +kernel⟩
    | bl b => exact ⟨_, .bl b, by decide +kernel⟩
    | int b => exact ⟨_, .int b, by decide +kernel⟩
    | str b => exact ⟨_, .str b, by decide +kernel⟩
  obtain ⟨S, t1, t2⟩ := ht
  refine wss_cons ?_
  refine ws_if ?_
  refine wt_val ?_
  refine we_callB cd_isi (C.fr 49) ?_
  refine wa_cons ?_
  refine we_var 1 rfl ?_
  refine wa_cons ?_
  refine we_ty (T := "tuple") (C.fr 59) ?_
  refine wa_nil ?_
  refine c_isi t1 t2 ?_
  refine t_bl ?_
  refine ⟨fun z => (nomatch z), fun _ => ?_⟩
  refine wss_nil ?_
  refine wss_cons ?_
  refine ws_if ?_
  refine wt_cmp od_is ?_
  refine we_var 1 rfl ?_
  refine we_non ?_
  refine b_is ?_
  refine t_bl ?_
  refine ⟨fun hk => ?_, fun hk => ?_⟩
  · cases hd with
    | non =>
      refine wss_one (ws_ret ?_)
      refine we_cmp od_is ?_
      refine we_var 0 rfl ?_
      refine we_non ?_
      refine b_is ?_
      exact kk
    | bl b => cases hk
    | int b => cases hk
    | str b => cases hk
  refine wss_nil ?_
  refine wss_cons ?_
  refine ws_if ?_
  refine wt_val ?_
  refine we_callB cd_isi (C.fr 49) ?_
  refine wa_cons ?_
  refine we_var 1 rfl ?_
  refine wa_cons ?_
  refine we_ty (T := "bool") (C.fr 46) ?_
  refine wa_nil ?_
  cases hd with
  | non => cases hk
  | bl b =>
    refine c_isi (.bl b) (b := true) (by decide +kernel) ?_
    refine t_bl ?_
    refine ⟨fun _ => ?_, fun z => (nomatch z)⟩
    refine wss_one (ws_ret ?_)
    refine we_and ?_
    refine we_callB cd_isi (C.fr 49) ?_
    refine wa_cons ?_
    refine we_var 0 rfl ?_
    refine wa_cons ?_
    refine we_ty (T := "bool") (C.fr 46) ?_
    refine wa_nil ?_
    refine c_isi (.bl b) (b := true) (by decide +kernel) ?_
    refine ⟨true, rfl, fun _ => ?_, fun z => (nomatch z)⟩
    refine we_one ?_
    refine we_cmp od_eq ?_
    refine we_var 0 rfl ?_
    refine we_var 1 rfl ?_
    show D'.rt (.bl (decide (b = b))) M
    rw [decide_eq_true rfl]
    exact kk
  | int b =>
    refine c_isi (.int b) (b := false) (by decide +kernel) ?_
    refine t_bl ?_
    refine ⟨fun z => (nomatch z), fun _ => ?_⟩
    refine wss_nil ?_
    refine wss_cons ?_
    refine ws_if ?_
    refine wt_val ?_
    refine we_callB cd_isi (C.fr 49) ?_
    refine wa_cons ?_
    refine we_var 1 rfl ?_
    refine wa_cons ?_
    refine we_ty (T := "str") (C.fr 57) ?_
    refine wa_nil ?_
    refine c_isi (.int b) (b := false) (by decide +kernel) ?_
    refine t_bl ?_
    refine ⟨fun z => (nomatch z), fun _ => ?_⟩
    refine wss_nil ?_
    refine wss_one (ws_ret ?_)
    refine we_and ?_
    refine we_callB cd_isi (C.fr 49) ?_
    refine wa_cons ?_
    refine we_var 0 rfl ?_
    refine wa_cons ?_
    refine we_ty (T := "int") (C.fr 48) ?_
    refine wa_nil ?_
    refine c_isi (.int b) (b := true) (by decide +kernel) ?_
    refine ⟨true, rfl, fun _ => ?_, fun z => (nomatch z)⟩
    refine we_and ?_
    refine we_not ?_
    refine we_callB cd_isi (C.fr 49) ?_
    refine wa_cons ?_
    refine we_var 0 rfl ?_
    refine wa_cons ?_
    refine we_ty (T := "bool") (C.fr 46) ?_
    refine wa_nil ?_
    refine c_isi (.int b) (b := false) (by decide +kernel) ?_
    refine ⟨false, rfl, true, rfl, fun _ => ?_, fun z => (nomatch z)⟩
    refine we_one ?_
    refine we_cmp od_eq ?_
    refine we_var 0 rfl ?_
    refine we_var 1 rfl ?_
    show D'.rt (.bl (decide (b = b))) M
    rw [decide_eq_true rfl]
    exact kk
  | str b =>
    refine c_isi (.str b) (b := false) (by decide +kernel) ?_
    refine t_bl ?_
    refine ⟨fun z => (nomatch z), fun _ => ?_⟩
    refine wss_nil ?_
    refine wss_cons ?_
    refine ws_if ?_
    refine wt_val ?_
    refine we_callB cd_isi (C.fr 49) ?_
    refine wa_cons ?_
    refine we_var 1 rfl ?_
    refine wa_cons ?_
    refine we_ty (T := "str") (C.fr 57) ?_
    refine wa_nil ?_
    refine c_isi (.str b) (b := true) (by decide +kernel) ?_
    refine t_bl ?_
    refine ⟨fun _ => ?_, fun z => (nomatch z)⟩
    refine wss_one (ws_ret ?_)
    refine we_and ?_
    refine we_callB cd_isi (C.fr 49) ?_
    refine wa_cons ?_
    refine we_var 0 rfl ?_
    refine wa_cons ?_
    refine we_ty (T := "str") (C.fr 57) ?_
    refine wa_nil ?_
    refine c_isi (.str b) (b := true) (by decide +kernel) ?_
    refine ⟨true, rfl, fun _ => ?_, fun z => (nomatch z)⟩
    refine we_one ?_
    refine we_cmp od_eq ?_
    refine we_var 0 rfl ?_
    refine we_var 1 rfl ?_
    show D'.rt (.bl (decide (b = b))) M
    rw [decide_eq_true rfl]
    exact kk
theorem ok_law_same (C : Ct K mg base) : ∀ n : Nat, DefOk P w K mg base CX0 (n + 1) "_law_same" ["actual", "due"] (sp_law_same n)
  | 0 => by
    refine C.df 15 15 (d := Hd.d_law_same) rfl rfl rfl (fun _ _ _ _ _ _ us hl => match us, hl with | [_, _], _ => rfl) fun f fd F => fn_ok F sc_law_same (by rintro _ _ _ _ ⟨_, rfl, _⟩; rfl) ?_
    intro cdv Ar outer s H E ds M Q R hr ⟨d, eds, hd, kk⟩
    subst eds
    exact same_scal C hd ⟨M, Sub.refl M, kk⟩
  | n + 1 => by
    have rec_ := ok_law_same C n
    refine C.df 15 15 (d := Hd.d_law_same) rfl rfl rfl (fun _ _ _ _ _ _ us hl => match us, hl with | [_, _], _ => rfl) fun f fd F => fn_ok F sc_law_same (by rintro _ _ _ _ ⟨_, rfl, _⟩; rfl) ?_
    intro cdv Ar outer s H E ds M Q R hr ⟨d, eds, hd, kk⟩
    subst eds
    have sc := sc_law_same
    rcases hd with hd | ⟨l, rfl, hl, hx⟩
    · exact same_scal C hd ⟨M, Sub.refl M, kk⟩
    refine wss_cons ?_
    refine ws_if ?_
    refine wt_val ?_
    refine we_callB cd_isi (C.fr 49) ?_
    refine wa_cons ?_
    refine we_var 1 rfl ?_
    refine wa_cons ?_
    refine we_ty (T := "tuple") (C.fr 59) ?_
    refine wa_nil ?_
    refine c_isi (.tup l) (b := true) (by decide +kernel) ?_
    refine t_bl ?_
    refine ⟨fun _ => ?_, fun z => (nomatch z)⟩
    refine wss_cons ?_
    refine ws_if ?_
    refine wt_ww ?_
    refine ww_or ?_
    refine wt_not ?_
    refine wt_val ?_
    refine we_callB cd_isi (C.fr 49) ?_
    refine wa_cons ?_
    refine we_var 0 rfl ?_
    refine wa_cons ?_
    refine we_ty (T := "tuple") (C.fr 59) ?_
    refine wa_nil ?_
    refine c_isi (.tup l) (b := true) (by decide +kernel) ?_
    refine t_bl ?_
    refine ⟨fun _ => ?_, fun z => (nomatch z)⟩
    refine ww_or1 ?_
    refine wt_cmp od_ne ?_
    refine we_callB cd_len (C.fr 50) ?_
    refine wa_cons ?_
    refine we_var 0 rfl ?_
    refine wa_nil ?_
    refine c_len rfl ?_
    refine we_callB cd_len (C.fr 50) ?_
    refine wa_cons ?_
    refine we_var 1 rfl ?_
    refine wa_nil ?_
    refine c_len rfl ?_
    refine b_neI ?_
    refine t_bl ?_
    refine ⟨fun z => absurd z (by simp), fun _ => ?_⟩
    refine wss_nil ?_
    refine wss_cons ?_
    refine ws_for PassesOwn.never rfl ?_
    refine wi_range1 (C.fr 54) ?_
    refine we_callB cd_len (C.fr 50) ?_
    refine wa_cons ?_
    refine we_var 1 rfl ?_
    refine wa_nil ?_
    refine c_len rfl ?_
    refine ⟨_, rfl, by omega, by omega, ?_⟩
    refine ⟨fun i (Γ' : Sl) (M' : Mem) => (∃ x2, Γ' = [some (D.tup l), some (D.tup l), x2]) ∧ M' = M, ⟨⟨none, rfl⟩, rfl⟩, fun _ _ _ _ _ => trivial, ?_, ?_⟩
    · rintro i dd _ M' hdd ⟨⟨x2, rfl⟩, eM⟩
      obtain rfl := eM.symm
      obtain ⟨hi, rfl⟩ := rg1_at hdd
      obtain ⟨y, ey⟩ : ∃ y, l[i]? = some y := ⟨_, List.getElem?_eq_getElem (by omega)⟩
      refine wg_name 2 sc.nd ?_
      refine wss_one ?_
      refine ws_if ?_
      refine wt_not ?_
      refine wt_val ?_
      refine we_call rec_ hr ?_ (Nat.le_refl _)
      refine wa_cons ?_
      refine we_sub ?_
      refine we_var 0 rfl ?_
      refine we_var 2 rfl ?_
      refine i_tup (atI_nat ey) ?_
      refine wa_cons ?_
      refine we_sub ?_
      refine we_var 1 rfl ?_
      refine we_var 2 rfl ?_
      refine i_tup (atI_nat ey) ?_
      refine wa_nil ?_
      refine ⟨y, rfl, hx y (List.mem_of_getElem? ey), ?_⟩
      refine t_bl ?_
      refine ⟨fun z => (nomatch z), fun _ => ?_⟩
      refine wss_nil ?_
      exact ⟨⟨_, rfl⟩, rfl⟩
    · rintro _ M' ⟨⟨x2, rfl⟩, eM⟩
      obtain rfl := eM.symm
      refine wss_one (ws_ret ?_)
      refine we_bl ?_
      exact ⟨_, Sub.refl _, kk⟩
/-! ### _law_start -/
def sp_law_start : DSp := fun ds M P R => ∃ (d : D) (ns : List Int), ds = [d] ∧ Scr K d ns ∧ ns.length ≤ 63 ∧ ∀ (B : BA) M', M B.b = none → Sub M M' → Bag M' B → P (.ref B.b) M'
theorem sc_law_start : FnScope ["script", "bag", "cell"] ["script"] (defScope (Hd.topS 68)) := ⟨rfl, rfl, rfl, by decide +kernel, rfl, by decide +kernel, by decide +kernel⟩
theorem ok_law_start (C : Ct K mg base) : DefOk P w K mg base CX0 3 "_law_start" ["script"] (sp_law_start (K := K)) := by
  refine C.df 14 14 (d := Hd.d_law_start) rfl rfl rfl (fun _ _ _ _ _ _ us hl => match us, hl with | [_], _ => rfl) fun f fd F => fn_ok F sc_law_start (by rintro _ _ _ _ ⟨_, _, rfl, _⟩; rfl) ?_
  intro cdv Ar outer s H E ds M Q R hr ⟨d, ns, eds, hsc, hns, kk⟩
  subst eds
  have sc := sc_law_start
  refine wss_cons ?_
  refine ws_set 1 sc.nd ?_
  refine we_lst ?_
  refine wa_cons ?_
  refine we_callT cd_listS (C.fr 51) ?_
  refine wa_cons ?_
  refine we_var 0 rfl ?_
  refine wa_nil ?_
  refine ⟨d, ns, rfl, hsc, fun pc hpc => ?_⟩
  refine wa_cons ?_
  refine we_int ?_
  refine wa_cons ?_
  refine we_int ?_
  refine wa_cons ?_
  refine we_int ?_
  refine wa_cons ?_
  refine we_int ?_
  refine wa_cons ?_
  refine we_int ?_
  refine wa_cons ?_
  refine we_lcG (own := [("cell", 2)]) rfl sc.nd (blkOk_by (own := [("cell", 2)]) (N := ["script", "bag", "cell"]) (sc := defScope (Hd.topS 68)) (by decide +kernel)) rfl gt_name (fun _ _ _ _ _ => pg_name (i := 2) sc.nd rfl (Or.inl rfl)) ?_
  refine wi_scr ?_
  refine we_var 0 rfl ?_
  refine ⟨ns, hsc, fun pe hpe => ?_⟩
  refine lcj_map (fun | .int i => .int (i % 2147483647) | d => d) (by rw [List.length_map]; omega) (fun _ => trivial) (fun _ _ => trivial) ?_ ?_
  · intro k dd hdd l s H Ca cl fp
    obtain ⟨i, _, rfl⟩ := List.mem_map.mp (List.mem_of_getElem? hdd)
    refine we_bin od_mod ?_
    refine we_callT cd_int (C.fr 48) ?_
    refine wa_cons ?_
    refine we_var 2 rfl ?_
    refine wa_nil ?_
    refine c_int ?_
    refine we_int ?_
    refine b_i (show (0 : Int) < 2147483647 by decide) ?_
    exact ⟨rfl, rfl⟩
  have em : (ns.map D.int).map (fun | .int i => .int (i % 2147483647) | d => d) = (ns.map fun i => i % 2147483647).map D.int := by rw [List.map_map, List.map_map]; rfl
  rw [em]
  refine wa_nil ?_
  refine ⟨size_ok (by simp), fun pb hpb => ?_⟩
  have nce : pc ≠ pe := nn put_same hpe
  have hb1 := put_none hpb
  have hb2 := put_none hb1.2
  have hMb : M pb = none := hb2.2
  have eB : ∀ m : Int, Bag (put (put (put M pc (.lst (ns.map D.int))) pe (.lst ((ns.map fun i => i % 2147483647).map D.int))) pb (.lst (bagL pc pe 0 0 0 m 0))) ⟨pb, pc, pe⟩ := fun m =>
    ⟨0, 0, 0, m, 0, ns, ns.map fun i => i % 2147483647, put_same, ((put_ne (Ne.symm hb2.1)).trans (put_ne nce)).trans put_same, (put_ne (Ne.symm hb1.1)).trans put_same, List.length_map .., Ne.symm hb2.1, Ne.symm hb1.1, Int.le_refl _, hns⟩
  have sB : ∀ m : Int, Sub M (put (put (put M pc (.lst (ns.map D.int))) pe (.lst ((ns.map fun i => i % 2147483647).map D.int))) pb (.lst (bagL pc pe 0 0 0 m 0))) := fun m => ((Sub.put hpc).trans (Sub.put hpe)).trans (Sub.put hpb)
  show WSs _ _ _ (put (put (put M pc (.lst (ns.map D.int))) pe (.lst ((ns.map fun i => i % 2147483647).map D.int))) pb (.lst (bagL pc pe 0 0 0 0 0))) _
  have fin : ∀ m : Int, WSs (cxOf CX0 P w K mg base ["script", "bag", "cell"] Hd.d_law_start.qual Hd.d_law_start.scope f cdv Ar outer s H E).nox ((defBody (Hd.topS 68)).drop 2) [some d, some (.ref pb), none] (put (put (put M pc (.lst (ns.map D.int))) pe (.lst ((ns.map fun i => i % 2147483647).map D.int))) pb (.lst (bagL pc pe 0 0 0 m 0))) { nx := fun _ M' => ∃ M2, Sub M2 M' ∧ Q .non M2, rt := fun d M' => ∃ M2, Sub M2 M' ∧ Q d M2 } := fun m => by
    refine wss_cons ?_
    refine ws_expr ?_
    refine we_call (ok_law_draw C) hr ?_
    refine wa_cons ?_
    refine we_var 1 rfl ?_
    refine wa_cons ?_
    refine we_int ?_
    refine wa_nil ?_
    refine ⟨⟨pb, pc, pe⟩, _, rfl, eB m, by omega, by omega, fun v M' _ _ hB hM => ?_⟩
    refine wss_one (ws_ret ?_)
    refine we_var 1 rfl ?_
    exact ⟨_, Sub.refl _, kk ⟨pb, pc, pe⟩ M' hMb (fun x u e => (hM x (nn e hMb)).trans (sB m x u e)) hB⟩
  refine wss_cons ?_
  refine ws_if ?_
  refine wt_ww ?_
  refine ww_or ?_
  refine wt_cmp od_eq ?_
  refine we_callB cd_lenS (C.fr 50) ?_
  refine wa_cons ?_
  refine we_var 0 rfl ?_
  refine wa_nil ?_
  refine ⟨d, ns, rfl, hsc, ?_⟩
  refine we_int ?_
  refine b_eqI ?_
  refine t_bl ?_
  have hset : ∀ (M0 : Mem), M0 = put (put (put M pc (.lst (ns.map D.int))) pe (.lst ((ns.map fun i => i % 2147483647).map D.int))) pb (.lst (bagL pc pe 0 0 0 0 0)) → True := fun _ _ => trivial
  refine ⟨fun hk => ?_, fun hk => ⟨fun _ => ?_, fun z => (nomatch z)⟩⟩
  · refine ww_or1 ?_
    obtain ⟨x0, ex0⟩ : ∃ x, ns[0]? = some x := ⟨_, List.getElem?_eq_getElem (by have := of_decide_eq_false hk; omega)⟩
    refine wt_cmp od_eq ?_
    refine we_bin od_mod ?_
    refine we_callT cd_int (C.fr 48) ?_
    refine wa_cons ?_
    refine we_subS ?_
    refine we_var 0 rfl ?_
    refine we_int ?_
    refine ⟨ns, 0, x0, hsc, rfl, atI_nat (j := 0) ex0, ?_⟩
    refine wa_nil ?_
    refine c_int ?_
    refine we_int ?_
    refine b_i (show (0 : Int) < 2 by decide) ?_
    refine we_int ?_
    refine b_eqI ?_
    refine t_bl ?_
    refine ⟨fun _ => ?_, fun _ => wss_nil (fin 0)⟩
    refine wss_one ?_
    refine ws_asg ?_
    refine we_int ?_
    refine wg_lsub ?_
    refine we_var 1 rfl ?_
    refine we_int ?_
    refine ⟨_, _, 4, rfl, put_same, rfl, Nat.le_of_ble_eq_true rfl, ?_⟩
    rw [put_put]
    exact fin 1
  · refine wss_one ?_
    refine ws_asg ?_
    refine we_int ?_
    refine wg_lsub ?_
    refine we_var 1 rfl ?_
    refine we_int ?_
    refine ⟨_, _, 4, rfl, put_same, rfl, Nat.le_of_ble_eq_true rfl, ?_⟩
    rw [put_put]
    exact fin 1
end
end K82

set_option Elab.async false
set_option linter.all false
set_option maxRecDepth 100000
set_option maxHeartbeats 4000000
namespace K82
open PySem PySem.Spec PyProof.Rows L2 DL
section
variable {P : Program} {w : World} {K : PySem.W.Frag} {mg : Str → Option Value} {base : Heap}
theorem Ct.gi (C : Ct K mg base) (j : Nat) {x : Str} {i : Int} (hj : Hd.fa[j]? = some (.int x i) := by rfl) : ∃ t, mg x = some (.int i t) := He.int_ok C.X C.G (C.c.fact j hj)
def sp_is_number : DSp := fun ds M P R => ∃ i : Int, ds = [.int i] ∧ P (.bl true) M
theorem sc_is_number : FnScope ["value"] ["value"] (defScope (Hd.topS 2)) := ⟨rfl, rfl, rfl, by decide +kernel, rfl, by decide +kernel, by decide +kernel⟩
theorem ok_is_number (C : Ct K mg base) : DefOk P w K mg base CX0 1 "is_number" ["value"] sp_is_number := by
  refine C.df 0 0 (d := Hd.d_is_number) rfl rfl rfl (fun _ _ _ _ _ _ us hl => match us, hl with | [_], _ => rfl) fun f fd F => fn_ok F sc_is_number (by rintro _ _ _ _ ⟨_, rfl, _⟩; rfl) ?_
  intro cdv A outer s H E ds M Q R hr ⟨i, eds, p⟩
  subst eds
  refine wss_one ?_
  refine ws_ret ?_
  refine we_and ?_
  refine we_callB cd_isi (C.fr 49) ?_
  refine wa_cons ?_
  refine we_var 0 rfl ?_
  refine wa_cons ?_
  refine we_ty (T := "int") (C.fr 48) ?_
  refine wa_nil ?_
  refine c_isi (.int i) (b := true) (by decide +kernel) ?_
  refine ⟨true, rfl, fun _ => ?_, fun z => (nomatch z)⟩
  refine we_one ?_
  refine we_not ?_
  refine we_callB cd_isi (C.fr 49) ?_
  refine wa_cons ?_
  refine we_var 0 rfl ?_
  refine wa_cons ?_
  refine we_ty (T := "bool") (C.fr 46) ?_
  refine wa_nil ?_
  refine c_isi (.int i) (b := false) (by decide +kernel) ?_
  exact ⟨false, rfl, M, Sub.refl M, p⟩
def sp_is_from_to : DSp := fun ds M P R => ∃ v a b : Int, ds = [.int v, .int a, .int b] ∧ P (.bl (decide (a ≤ v) && decide (v ≤ b))) M
theorem sc_is_from_to : FnScope ["value", "low", "high"] ["value", "low", "high"] (defScope (Hd.topS 3)) := ⟨rfl, rfl, rfl, by decide +kernel, rfl, by decide +kernel, by decide +kernel⟩
theorem ok_is_from_to (C : Ct K mg base) : DefOk P w K mg base CX0 2 "is_from_to" ["value", "low", "high"] sp_is_from_to := by
  refine C.df 1 1 (d := Hd.d_is_from_to) rfl rfl rfl (fun _ _ _ _ _ _ us hl => match us, hl with | [_, _, _], _ => rfl) fun f fd F => fn_ok F sc_is_from_to (by rintro _ _ _ _ ⟨_, _, _, rfl, _⟩; rfl) ?_
  intro cdv A outer s H E ds M Q R hr ⟨v, a, b, eds, p⟩
  subst eds
  refine wss_one ?_
  refine ws_ret ?_
  refine we_and ?_
  refine we_call (ok_is_number C) hr ?_
  refine wa_cons ?_
  refine we_var 0 rfl ?_
  refine wa_nil ?_
  refine ⟨v, rfl, ?_⟩
  refine ⟨true, rfl, fun _ => ?_, fun z => (nomatch z)⟩
  refine we_one ?_
  refine we_chain od_le od_le ?_
  refine we_var 1 rfl ?_
  refine we_var 0 rfl ?_
  refine b_cmp ?_
  refine ⟨_, rfl, fun hk => ?_, fun hk => ?_⟩
  · refine we_var 2 rfl ?_
    refine b_cmp ?_
    rw [hk, Bool.true_and] at p
    exact ⟨M, Sub.refl M, p⟩
  · rw [hk, Bool.false_and] at p
    exact ⟨M, Sub.refl M, p⟩
def rowB (d : D) (n : Int) : Bool := match d with
  | .tup l => decide ((l.length : Int) = n)
  | _ => false
def sp_is_row : DSp := fun ds M P R => ∃ (d : D) (n : Int), ds = [d, .int n] ∧ (d = .non ∨ ∃ l, d = .tup l) ∧ P (.bl (rowB d n)) M
theorem sc_is_row : FnScope ["value", "many"] ["value", "many"] (defScope (Hd.topS 4)) := ⟨rfl, rfl, rfl, by decide +kernel, rfl, by decide +kernel, by decide +kernel⟩
theorem ok_is_row (C : Ct K mg base) : DefOk P w K mg base CX0 1 "is_row" ["value", "many"] sp_is_row := by
  refine C.df 2 2 (d := Hd.d_is_row) rfl rfl rfl (fun _ _ _ _ _ _ us hl => match us, hl with | [_, _], _ => rfl) fun f fd F => fn_ok F sc_is_row (by rintro _ _ _ _ ⟨_, _, rfl, _⟩; rfl) ?_
  intro cdv A outer s H E ds M Q R hr ⟨d, n, eds, hd, p⟩
  subst eds
  refine wss_one ?_
  refine ws_ret ?_
  refine we_and ?_
  refine we_callB cd_isi (C.fr 49) ?_
  refine wa_cons ?_
  refine we_var 0 rfl ?_
  refine wa_cons ?_
  refine we_ty (T := "tuple") (C.fr 59) ?_
  refine wa_nil ?_
  rcases hd with rfl | ⟨l, rfl⟩
  · refine c_isi .non (b := false) (by decide +kernel) ?_
    exact ⟨false, rfl, fun z => (nomatch z), fun _ => ⟨M, Sub.refl M, p⟩⟩
  · refine c_isi (.tup l) (b := true) (by decide +kernel) ?_
    refine ⟨true, rfl, fun _ => ?_, fun z => (nomatch z)⟩
    refine we_one ?_
    refine we_cmp od_eq ?_
    refine we_callB cd_len (C.fr 50) ?_
    refine wa_cons ?_
    refine we_var 0 rfl ?_
    refine wa_nil ?_
    refine c_len rfl ?_
    refine we_var 1 rfl ?_
    refine b_eqI ?_
    exact ⟨M, Sub.refl M, p⟩
/-! ### the contract's gaps -/
def gh (hs : List Int) (j : Int) : Int := if 0 < j then hs.getD (j.toNat - 1) 0 else 0
def gapBy (hs : List Int) (c t j : Int) : Int :=
  if j ≤ 0 then 0 else if j ≤ (hs.length : Int) then hs.getD (j.toNat - 1) 0 else gh hs (j - (j - (hs.length : Int) + c - 1) / c * c) + (j - (hs.length : Int) + c - 1) / c * t
theorem getD_at {hs : List Int} {j : Int} (h0 : 0 < j) (h1 : j ≤ (hs.length : Int)) : atI (hs.map D.int) (j - 1) = some (.int (hs.getD (j.toNat - 1) 0)) := by
  have hl : j.toNat - 1 < hs.length := by omega
  have e : hs[j.toNat - 1]? = some (hs.getD (j.toNat - 1) 0) := by
    rw [List.getD_eq_getElem?_getD, List.getElem?_eq_getElem hl]
    rfl
  have := atI_nat (map_at (f := D.int) e)
  rw [show ((j.toNat - 1 : Nat) : Int) = j - 1 by omega] at this
  exact this
def dIs (hs : List Int) : D := .tup (hs.map D.int)
def sp_gap_by_head : DSp := fun ds M P R => ∃ (hs : List Int) (j : Int), ds = [dIs hs, .int j] ∧ j ≤ (hs.length : Int) ∧ P (.int (gh hs j)) M
theorem sc_gap_by_head : FnScope ["head", "j"] ["head", "j"] (defScope (Hd.topS 27)) := ⟨rfl, rfl, rfl, by decide +kernel, rfl, by decide +kernel, by decide +kernel⟩
theorem ok_gap_by_head (C : Ct K mg base) : DefOk P w K mg base CX0 1 "gap_by_head" ["head", "j"] sp_gap_by_head := by
  refine C.df 4 4 (d := Hd.d_gap_by_head) rfl rfl rfl (fun _ _ _ _ _ _ us hl => match us, hl with | [_, _], _ => rfl) fun f fd F => fn_ok F sc_gap_by_head (by rintro _ _ _ _ ⟨_, _, rfl, _⟩; rfl) ?_
  intro cdv A outer s H E ds M Q R hr ⟨hs, j, eds, hj, p⟩
  subst eds
  refine wss_one ?_
  refine ws_ret ?_
  refine we_ifexp ?_
  refine wt_cmp od_gt ?_
  refine we_var 1 rfl ?_
  refine we_int ?_
  refine b_cmp ?_
  refine t_bl ?_
  refine ⟨fun hk => ?_, fun hk => ?_⟩
  · have hk := of_decide_eq_true hk
    refine we_sub ?_
    refine we_var 0 rfl ?_
    refine we_bin od_sub ?_
    refine we_var 1 rfl ?_
    refine we_int ?_
    refine b_sub ?_
    refine i_tup (getD_at hk hj) ?_
    unfold gh at p
    rw [if_pos hk] at p
    exact ⟨M, Sub.refl M, p⟩
  · have hk := of_decide_eq_false hk
    refine we_int ?_
    unfold gh at p
    rw [if_neg hk] at p
    exact ⟨M, Sub.refl M, p⟩
def sp_gap_by : DSp := fun ds M P R => ∃ (hs : List Int) (c t j : Int), ds = [dIs hs, .int c, .int t, .int j] ∧ 0 < c ∧ c ≤ 1000 ∧ -1000000 ≤ t ∧ t ≤ 1000000 ∧ P (.int (gapBy hs c t j)) M
theorem sc_gap_by : FnScope ["head", "calls", "ticks", "j", "rounds"] ["head", "calls", "ticks", "j"] (defScope (Hd.topS 26)) := ⟨rfl, rfl, rfl, by decide +kernel, rfl, by decide +kernel, by decide +kernel⟩
theorem ok_gap_by (C : Ct K mg base) : DefOk P w K mg base CX0 2 "gap_by" ["head", "calls", "ticks", "j"] sp_gap_by := by
  refine C.df 3 3 (d := Hd.d_gap_by) rfl rfl rfl (fun _ _ _ _ _ _ us hl => match us, hl with | [_, _, _, _], _ => rfl) fun f fd F => fn_ok F sc_gap_by (by rintro _ _ _ _ ⟨_, _, _, _, rfl, _⟩; rfl) ?_
  intro cdv A outer s H E ds M Q R hr ⟨hs, c, t, j, eds, hc0, hc1, ht0, ht1, p⟩
  subst eds
  have sc := sc_gap_by
  unfold gapBy at p
  refine wss_cons ?_
  refine ws_if ?_
  refine wt_cmp od_le ?_
  refine we_var 3 rfl ?_
  refine we_int ?_
  refine b_cmp ?_
  refine t_bl ?_
  refine ⟨fun hk => ?_, fun hk => ?_⟩
  · have hk := of_decide_eq_true hk
    refine wss_one ?_
    refine ws_ret ?_
    refine we_int ?_
    rw [if_pos hk] at p
    exact ⟨M, Sub.refl M, p⟩
  have hk := of_decide_eq_false hk
  rw [if_neg hk] at p
  refine wss_nil ?_
  refine wss_cons ?_
  refine ws_if ?_
  refine wt_cmp od_le ?_
  refine we_var 3 rfl ?_
  refine we_callB cd_len (C.fr 50) ?_
  refine wa_cons ?_
  refine we_var 0 rfl ?_
  refine wa_nil ?_
  refine c_len rfl ?_
  rw [List.length_map]
  refine b_cmp ?_
  refine t_bl ?_
  refine ⟨fun hk2 => ?_, fun hk2 => ?_⟩
  · have hk2 := of_decide_eq_true hk2
    refine wss_one ?_
    refine ws_ret ?_
    refine we_sub ?_
    refine we_var 0 rfl ?_
    refine we_bin od_sub ?_
    refine we_var 3 rfl ?_
    refine we_int ?_
    refine b_sub ?_
    refine i_tup (getD_at (by omega) hk2) ?_
    rw [if_pos hk2] at p
    exact ⟨M, Sub.refl M, p⟩
  have hk2 := of_decide_eq_false hk2
  rw [if_neg hk2] at p
  refine wss_nil ?_
  refine wss_cons ?_
  refine ws_set 4 sc.nd ?_
  refine we_bin od_div ?_
  refine we_bin od_sub ?_
  refine we_bin od_add ?_
  refine we_bin od_sub ?_
  refine we_var 3 rfl ?_
  refine we_callB cd_len (C.fr 50) ?_
  refine wa_cons ?_
  refine we_var 0 rfl ?_
  refine wa_nil ?_
  refine c_len rfl ?_
  rw [List.length_map]
  refine b_sub ?_
  refine we_var 1 rfl ?_
  refine b_addI ?_
  refine we_int ?_
  refine b_sub ?_
  refine we_var 1 rfl ?_
  refine b_i (show CDiv _ _ from ⟨hc0, by omega⟩) ?_
  refine wss_one ?_
  refine ws_ret ?_
  refine we_bin od_add ?_
  refine we_call (ok_gap_by_head C) hr ?_
  refine wa_cons ?_
  refine we_var 0 rfl ?_
  refine wa_cons ?_
  refine we_bin od_sub ?_
  refine we_var 3 rfl ?_
  refine we_bin od_mul ?_
  refine we_var 4 rfl ?_
  refine we_var 1 rfl ?_
  refine b_mul (.inr ⟨by omega, by omega⟩) ?_
  refine b_sub ?_
  refine wa_nil ?_
  refine ⟨hs, _, rfl, ?_, ?_⟩
  · have h1 := Int.mul_ediv_add_emod (j - (hs.length : Int) + c - 1) c
    have h2 := Int.emod_nonneg (j - (hs.length : Int) + c - 1) (show c ≠ 0 by omega)
    have h3 := Int.emod_lt_of_pos (j - (hs.length : Int) + c - 1) hc0
    rw [Int.mul_comm] at h1
    omega
  refine we_bin od_mul ?_
  refine we_var 4 rfl ?_
  refine we_var 2 rfl ?_
  refine b_mul (.inr ⟨by omega, by omega⟩) ?_
  refine b_addI ?_
  exact ⟨M, Sub.refl M, p⟩
end
end K82

set_option Elab.async false
set_option linter.all false
set_option maxRecDepth 100000
set_option maxHeartbeats 4000000
namespace K82
open PySem PySem.Spec PyProof.Rows L2 DL
section
variable {P : Program} {w : World} {K : PySem.W.Frag} {mg : Str → Option Value} {base : Heap}
def shaped (hs : List Int) (c t : Int) : Bool := (decide (1 ≤ (hs.length : Int)) && decide ((hs.length : Int) ≤ 12)) && ((decide (1 ≤ c) && decide (c ≤ (hs.length : Int))) && decide (0 ≤ t))
def dCon (hs : List Int) (c t : Int) : D := .tup [dIs hs, .int c, .int t]
abbrev qS : He.Defn := ("is_shaped", none)
def sp_is_shaped (K : PySem.W.Frag) : DSp := fun ds M P R => ∃ (hs : List Int) (c t : Int), ds = [dCon hs c t] ∧ hs.length ≤ 1000000 ∧ Tb K qS M ∧ P (.bl (shaped hs c t)) M
theorem sc_is_shaped : FnScope ["value"] ["value"] (defScope (Hd.topS 29)) := ⟨rfl, rfl, rfl, by decide +kernel, rfl, by decide +kernel, by decide +kernel⟩
theorem ok_is_shaped (C : Ct K mg base) : DefOk P w K mg base CX0 4 "is_shaped" ["value"] (sp_is_shaped K) := by
  refine C.dfC 6 6 (d := Hd.d_is_shaped) rfl rfl rfl (fun _ _ _ _ _ _ us hl => match us, hl with | [_], _ => rfl) fun fd F => fn_okC F sc_is_shaped (by rintro _ _ _ _ ⟨_, _, _, rfl, _⟩; rfl) ?_
  intro A outer s H E ds M Q R hr ⟨hs, c, t, eds, hz, htb, p⟩
  subst eds
  unfold shaped at p
  refine wss_cons ?_
  refine ws_if ?_
  refine wt_ww ?_
  refine ww_or ?_
  refine wt_not ?_
  refine wt_val ?_
  refine we_call (ok_is_row C) hr ?_
  refine wa_cons ?_
  refine we_var 0 rfl ?_
  refine wa_cons ?_
  refine we_int ?_
  refine wa_nil ?_
  refine ⟨_, _, rfl, .inr ⟨_, rfl⟩, ?_⟩
  refine t_bl (k := true) ?_
  refine ⟨fun _ => ?_, fun z => (nomatch z)⟩
  refine ww_or ?_
  refine wt_not ?_
  refine wt_val ?_
  refine we_callB cd_isi (C.fr 49) ?_
  refine wa_cons ?_
  refine we_sub ?_
  refine we_var 0 rfl ?_
  refine we_int ?_
  refine i_tup (d := dIs hs) rfl ?_
  refine wa_cons ?_
  refine we_ty (T := "tuple") (C.fr 59) ?_
  refine wa_nil ?_
  refine c_isi (.tup _) (b := true) (by decide +kernel) ?_
  refine t_bl ?_
  refine ⟨fun _ => ?_, fun z => (nomatch z)⟩
  refine ww_or1 ?_
  refine wt_not ?_
  obtain ⟨tk, hmh⟩ := C.gi 61 (x := "MOST_HEAD") (i := 12)
  refine wt_chain od_le od_le ?_
  refine we_int ?_
  refine we_callB cd_len (C.fr 50) ?_
  refine wa_cons ?_
  refine we_sub ?_
  refine we_var 0 rfl ?_
  refine we_int ?_
  refine i_tup (d := dIs hs) rfl ?_
  refine wa_nil ?_
  refine c_len rfl ?_
  rw [List.length_map]
  refine b_cmp ?_
  refine ⟨_, rfl, fun hk => ?_, fun hk => ⟨fun _ => ?_, fun z => (nomatch z)⟩⟩
  · refine we_globI hmh ?_
    refine b_cmp ?_
    refine t_bl ?_
    refine ⟨fun hk2 => ?_, fun hk2 => ?_⟩
    · have hk2 : (!decide ((hs.length : Int) ≤ 12)) = true := hk2
      rw [Bool.not_eq_true'] at hk2
      refine wss_one ?_
      refine ws_ret ?_
      refine we_bl ?_
      rw [hk2, Bool.and_false, Bool.false_and] at p
      exact ⟨M, Sub.refl M, p⟩
    have hk2 : (!decide ((hs.length : Int) ≤ 12)) = false := hk2
    rw [Bool.not_eq_false'] at hk2
    rw [hk, hk2, Bool.true_and, Bool.true_and] at p
    refine wss_nil ?_
    refine wss_cons ?_
    refine ws_if ?_
    refine wt_ww ?_
    refine ww_or ?_
    refine wt_not ?_
    refine wt_val ?_
    refine we_all [".0", "one"] [] [] 2 (defScope (Hd.topS 29)) hr (C.tb 0) rfl (C.fr 44) ?_
    refine wi_tup ?_
    refine we_sub ?_
    refine we_var 0 rfl ?_
    refine we_int ?_
    refine i_tup (d := dIs hs) rfl ?_
    refine ⟨_, rfl, htb, ?_⟩
    refine ⟨fun i M' => M' = M, rfl, fun _ _ _ _ => trivial, ?_, ?_⟩
    · intro i d M' hd eM cl L code A' s' H' fp pn rk
      subst eM
      obtain ⟨z, _, rfl⟩ := List.mem_map.mp (List.mem_of_getElem? hd)
      refine wg_name 1 (show ([".0", "one"] : List Str).Nodup by decide +kernel) ?_
      refine ⟨slE_set rfl, fun _ => ?_, fun z => (nomatch z)⟩
      refine we_call (ok_is_number C) rk ?_
      refine wa_cons ?_
      refine we_var 1 rfl ?_
      refine wa_nil ?_
      exact ⟨z, rfl, true, rfl, fun z => (nomatch z), fun _ => rfl⟩
    · intro M' eM
      subst eM
      refine t_bl (k := true) ?_
      refine ⟨fun _ => ?_, fun z => (nomatch z)⟩
      refine ww_or ?_
      refine wt_not ?_
      refine wt_val ?_
      refine we_call (ok_is_number C) hr ?_
      refine wa_cons ?_
      refine we_sub ?_
      refine we_var 0 rfl ?_
      refine we_int ?_
      refine i_tup (d := .int c) rfl ?_
      refine wa_nil ?_
      refine ⟨_, rfl, ?_⟩
      refine t_bl ?_
      refine ⟨fun _ => ?_, fun z => (nomatch z)⟩
      refine ww_or1 ?_
      refine wt_not ?_
      refine wt_val ?_
      refine we_call (ok_is_number C) hr ?_
      refine wa_cons ?_
      refine we_sub ?_
      refine we_var 0 rfl ?_
      refine we_int ?_
      refine i_tup (d := .int t) rfl ?_
      refine wa_nil ?_
      refine ⟨_, rfl, ?_⟩
      refine t_bl ?_
      refine ⟨fun z => (nomatch z), fun _ => ?_⟩
      refine wss_nil ?_
      refine wss_one ?_
      refine ws_ret ?_
      refine we_and ?_
      refine we_chain od_le od_le ?_
      refine we_int ?_
      refine we_sub ?_
      refine we_var 0 rfl ?_
      refine we_int ?_
      refine i_tup (d := .int c) rfl ?_
      refine b_cmp ?_
      have last : ∀ k : Bool, (k = true → (decide (1 ≤ c) && decide (c ≤ (hs.length : Int))) = true) → (k = false → (decide (1 ≤ c) && decide (c ≤ (hs.length : Int))) = false) → True := fun _ _ _ => trivial
      refine ⟨_, rfl, fun hk => ?_, fun hk => ?_⟩
      · refine we_callB cd_len (C.fr 50) ?_
        refine wa_cons ?_
        refine we_sub ?_
        refine we_var 0 rfl ?_
        refine we_int ?_
        refine i_tup (d := dIs hs) rfl ?_
        refine wa_nil ?_
        refine c_len rfl ?_
        rw [List.length_map]
        refine b_cmp ?_
        rw [hk, Bool.true_and] at p
        refine ⟨_, rfl, fun hk => ?_, fun hk => ?_⟩
        · refine we_one ?_
          refine we_cmp od_ge ?_
          refine we_sub ?_
          refine we_var 0 rfl ?_
          refine we_int ?_
          refine i_tup (d := .int t) rfl ?_
          refine we_int ?_
          refine b_cmp ?_
          rw [hk, Bool.true_and] at p
          exact ⟨_, Sub.refl _, p⟩
        · rw [hk, Bool.false_and] at p
          exact ⟨_, Sub.refl _, p⟩
      · rw [hk, Bool.false_and, Bool.false_and] at p
        exact ⟨false, rfl, fun z => (nomatch z), fun _ => ⟨_, Sub.refl _, p⟩⟩
  · refine wss_one ?_
    refine ws_ret ?_
    refine we_bl ?_
    rw [hk, Bool.false_and, Bool.false_and] at p
    exact ⟨M, Sub.refl M, p⟩
end
end K82

set_option Elab.async false
set_option linter.all false
set_option maxRecDepth 100000
set_option maxHeartbeats 4000000
namespace K82
open PySem PySem.Spec PyProof.Rows L2 DL
theorem rg2_at {a b : Int} {i : Nat} {d : D} (h : (rg2 a b)[i]? = some d) : a + (i : Nat) < b ∧ d = .int (a + (i : Nat)) := by
  unfold rg2 at h
  rw [List.getElem?_map] at h
  cases e : (List.range (b - a).toNat)[i]? with
  | none => rw [e] at h; cases h
  | some j =>
    rw [e] at h
    obtain ⟨h1, h2⟩ := List.getElem?_eq_some_iff.mp e
    rw [List.length_range] at h1
    rw [List.getElem_range] at h2
    subst h2
    exact ⟨by omega, (Option.some.inj h).symm⟩
theorem rg2_len {a b : Int} : (rg2 a b).length = (b - a).toNat := by unfold rg2; rw [List.length_map, List.length_range]
theorem cut1 (l : List D) : DL.cutD l (some 1) none = l.drop 1 := by
  unfold DL.cutD HT.sIx
  simp
  cases l with
  | nil => simp
  | cons a l => simp
def gRow (hs : List Int) (c t : Int) (n : Nat) : List D := (List.range n).map fun j => D.int (gapBy hs c t (j : Nat))
theorem gRow_at {hs : List Int} {c t : Int} {n i : Nat} (h : i < n) : (gRow hs c t n)[i]? = some (.int (gapBy hs c t (i : Nat))) := by
  unfold gRow
  rw [List.getElem?_map, List.getElem?_range h]
  rfl
theorem gRow_len {hs : List Int} {c t : Int} {n : Nat} : (gRow hs c t n).length = n := by unfold gRow; rw [List.length_map, List.length_range]
def risB (hs : List Int) (c t : Int) : Bool := (List.range (hs.length + c.toNat + 1)).all fun k => decide (gapBy hs c t (k : Nat) ≤ gapBy hs c t ((k + 1 : Nat) : Int))
def wideB (hs : List Int) (c t : Int) : Bool := (List.range hs.length).all fun i => (List.range hs.length).all fun j => decide (gapBy hs c t ((i + 1 : Nat) : Int) + gapBy hs c t ((j + 1 : Nat) : Int) ≤ gapBy hs c t ((i + j + 2 : Nat) : Int))
section
variable {P : Program} {w : World} {K : PySem.W.Frag} {mg : Str → Option Value} {base : Heap}
abbrev qR : He.Defn := ("is_rising", none)
abbrev qW : He.Defn := ("is_wide", none)
def sp_is_rising (K : PySem.W.Frag) : DSp := fun ds M P R => ∃ (hs : List Int) (c t : Int), ds = [dIs hs, .int c, .int t] ∧ 0 < c ∧ c ≤ 1000 ∧ -1000000 ≤ t ∧ t ≤ 1000000 ∧ hs.length ≤ 1000 ∧ Tb K qR M ∧ ∀ M', Sub M M' → P (.bl (risB hs c t)) M'
theorem sc_is_rising : FnScope ["head", "calls", "ticks", "row", "j"] ["head", "calls", "ticks"] (defScope (Hd.topS 30)) := ⟨rfl, rfl, rfl, by decide +kernel, rfl, by decide +kernel, by decide +kernel⟩
theorem ok_is_rising (C : Ct K mg base) : DefOk P w K mg base CX0 4 "is_rising" ["head", "calls", "ticks"] (sp_is_rising K) := by
  refine C.dfC 7 7 (d := Hd.d_is_rising) rfl rfl rfl (fun _ _ _ _ _ _ us hl => match us, hl with | [_, _, _], _ => rfl) fun fd F => fn_okC F sc_is_rising (by rintro _ _ _ _ ⟨_, _, _, rfl, _⟩; rfl) ?_
  intro A outer s H E ds M Q R hr ⟨hs, c, t, eds, hc0, hc1, ht0, ht1, hz, htb, p⟩
  subst eds
  have sc := sc_is_rising
  refine wss_cons ?_
  refine ws_lcG 3 (own := [("j", 4)]) rfl sc.nd rfl (blkOk_by (own := [("j", 4)]) (N := ["head", "calls", "ticks", "row", "j"]) (sc := defScope (Hd.topS 30)) (by decide +kernel)) rfl gt_name (fun _ _ _ _ _ => pg_name (i := 4) sc.nd rfl (Or.inl rfl)) ?_
  refine wi_range1 (C.fr 54) ?_
  refine we_bin od_add ?_
  refine we_bin od_add ?_
  refine we_callB cd_len (C.fr 50) ?_
  refine wa_cons ?_
  refine we_var 0 rfl ?_
  refine wa_nil ?_
  refine c_len rfl ?_
  rw [List.length_map]
  refine we_var 1 rfl ?_
  refine b_addI ?_
  refine we_int ?_
  refine b_addI ?_
  refine ⟨_, rfl, by omega, by omega, fun pr hpr => ?_⟩
  refine lcj_ix (fun j => D.int (gapBy hs c t (j : Nat))) hpr (by rw [rg1_len]; omega) (fun _ _ => trivial) (fun _ _ => trivial) ?_ ?_
  · intro k d hd l M1 su hl s H Ca cl fp
    obtain ⟨hk, rfl⟩ := rg1_at hd
    refine we_call (ok_gap_by C) hr ?_
    refine wa_cons ?_
    refine we_var 0 rfl ?_
    refine wa_cons ?_
    refine we_var 1 rfl ?_
    refine wa_cons ?_
    refine we_var 2 rfl ?_
    refine wa_cons ?_
    refine we_var 4 rfl ?_
    refine wa_nil ?_
    exact ⟨hs, c, t, (k : Nat), rfl, hc0, hc1, ht0, ht1, rfl, Sub.refl _⟩
  intro M1 su1 hp1
  have em : (List.range (rg1 ((hs.length : Int) + c + 2)).length).map (fun j => D.int (gapBy hs c t (j : Nat))) = gRow hs c t (hs.length + c.toNat + 2) := by
    unfold gRow
    rw [rg1_len, show ((hs.length : Int) + c + 2).toNat = hs.length + c.toNat + 2 by omega]
  rw [em] at hp1
  refine wss_one ?_
  refine ws_ret ?_
  refine we_all [".0", "one", "other"] [] [] 2 (defScope (Hd.topS 30)) hr (C.tb 1) rfl (C.fr 44) ?_
  refine wi_zip (C.fr 60) ?_
  refine we_var 3 rfl ?_
  refine we_slice ?_
  refine we_var 3 rfl ?_
  refine we_int ?_
  refine ⟨1, rfl, ?_⟩
  refine ⟨_, hp1, fun p2 hp2 => ?_⟩
  rw [cut1]
  have ne : pr ≠ p2 := nn hp1 hp2
  refine ⟨pr, p2, _, _, rfl, rfl, (put_ne ne).trans hp1, put_same, (put_ne (nn (su1 _ _ htb) hp2)).trans (su1 _ _ htb), ?_⟩
  have suF : Sub M (put M1 p2 (.lst ((gRow hs c t (hs.length + c.toNat + 2)).drop 1))) := su1.trans (Sub.put hp2)
  have zl : (zipD (gRow hs c t (hs.length + c.toNat + 2)) ((gRow hs c t (hs.length + c.toNat + 2)).drop 1)).length = hs.length + c.toNat + 1 := by
    unfold zipD
    rw [List.length_map, List.length_zip, List.length_drop, gRow_len]
    omega
  have zat : ∀ {i : Nat} {d : D}, (zipD (gRow hs c t (hs.length + c.toNat + 2)) ((gRow hs c t (hs.length + c.toNat + 2)).drop 1))[i]? = some d → i < hs.length + c.toNat + 1 ∧ d = .tup [.int (gapBy hs c t (i : Nat)), .int (gapBy hs c t ((i + 1 : Nat) : Int))] := fun {i d} h => by
    have hi : i < hs.length + c.toNat + 1 := by rw [← zl]; exact (List.getElem?_eq_some_iff.mp h).1
    refine ⟨hi, ?_⟩
    have h1 : (gRow hs c t (hs.length + c.toNat + 2))[i]? = some _ := gRow_at (by omega)
    have h2 : ((gRow hs c t (hs.length + c.toNat + 2)).drop 1)[i]? = some (.int (gapBy hs c t ((i + 1 : Nat) : Int))) := by
      rw [List.getElem?_drop, show 1 + i = i + 1 by omega]
      exact gRow_at (by omega)
    unfold zipD at h
    rw [List.getElem?_map, show ((gRow hs c t (hs.length + c.toNat + 2)).zip ((gRow hs c t (hs.length + c.toNat + 2)).drop 1))[i]? = some (D.int (gapBy hs c t (i : Nat)), D.int (gapBy hs c t ((i + 1 : Nat) : Int))) from List.getElem?_zip_eq_some.mpr ⟨h1, h2⟩] at h
    exact (Option.some.inj h).symm
  refine ⟨fun i M' => M' = put M1 p2 (.lst ((gRow hs c t (hs.length + c.toNat + 2)).drop 1)) ∧ ∀ k, k < i → gapBy hs c t (k : Nat) ≤ gapBy hs c t ((k + 1 : Nat) : Int), ⟨rfl, fun k h => absurd h (Nat.not_lt_zero _)⟩, fun i M' _ e => by rw [e.1]; exact ⟨(put_ne ne).trans hp1, put_same⟩, ?_, ?_⟩
  · intro i d M' hd ⟨eM, hall⟩ cl L code A' s' H' fp pn rk
    subst eM
    obtain ⟨hi, rfl⟩ := zat hd
    refine wg_tup rfl rfl ?_
    refine wgs_cons ?_
    refine wg_name 1 (show ([".0", "one", "other"] : List Str).Nodup by decide +kernel) ?_
    refine wgs_cons ?_
    refine wg_name 2 (show ([".0", "one", "other"] : List Str).Nodup by decide +kernel) ?_
    refine wgs_nil ?_
    refine ⟨⟨rfl, fun j d e => ?_⟩, fun _ => ?_, fun z => (nomatch z)⟩
    · match j, e with
      | 0, e => cases e
      | 1, e => cases e
      | 2, e => cases e
      | j + 3, e => simp [genG] at e
    refine we_cmp od_le ?_
    refine we_var 1 rfl ?_
    refine we_var 2 rfl ?_
    refine b_cmp ?_
    refine ⟨_, rfl, fun hb => ?_, fun hb => ⟨rfl, fun k hk => ?_⟩⟩
    · have hb := of_decide_eq_false hb
      have e : risB hs c t = false := by
        unfold risB
        rw [List.all_eq_false]
        exact ⟨i, List.mem_range.mpr hi, by simpa using hb⟩
      rw [e] at p
      exact ⟨M, suF, p M (Sub.refl M)⟩
    · rcases Nat.lt_succ_iff_lt_or_eq.mp hk with h | h
      · exact hall k h
      · subst h
        have hb : decide (gapBy hs c t (k : Nat) ≤ gapBy hs c t ((k + 1 : Nat) : Int)) ≠ false := hb
        exact of_decide_eq_true (by simpa using hb)
  · intro M' ⟨eM, hall⟩
    subst eM
    have e : risB hs c t = true := by
      unfold risB
      rw [List.all_eq_true]
      intro k hk
      rw [zl] at hall
      exact decide_eq_true (hall k (List.mem_range.mp hk))
    rw [e] at p
    exact ⟨M, suF, p M (Sub.refl M)⟩
end
end K82

set_option Elab.async false
set_option linter.all false
set_option maxRecDepth 100000
set_option maxHeartbeats 4000000
namespace K82
open PySem PySem.Spec PyProof.Rows L2 DL
section
variable {P : Program} {w : World} {K : PySem.W.Frag} {mg : Str → Option Value} {base : Heap}
def sp_is_wide (K : PySem.W.Frag) : DSp := fun ds M P R => ∃ (hs : List Int) (c t : Int), ds = [dIs hs, .int c, .int t] ∧ 0 < c ∧ c ≤ 1000 ∧ -1000000 ≤ t ∧ t ≤ 1000000 ∧ hs.length ≤ 1000 ∧ Tb K qW M ∧ ∀ M', Sub M M' → P (.bl (wideB hs c t)) M'
theorem sc_is_wide : FnScope ["head", "calls", "ticks", "row", "many", "j"] ["head", "calls", "ticks"] (defScope (Hd.topS 31)) := ⟨rfl, rfl, rfl, by decide +kernel, rfl, by decide +kernel, by decide +kernel⟩
theorem nG : ([".0", "row", "many", "i", "j"] : List Str).Nodup := by decide +kernel
theorem ok_is_wide (C : Ct K mg base) : DefOk P w K mg base CX0 4 "is_wide" ["head", "calls", "ticks"] (sp_is_wide K) := by
  refine C.dfC 8 8 (d := Hd.d_is_wide) rfl rfl rfl (fun _ _ _ _ _ _ us hl => match us, hl with | [_, _, _], _ => rfl) fun fd F => fn_okC F sc_is_wide (by rintro _ _ _ _ ⟨_, _, _, rfl, _⟩; rfl) ?_
  intro A outer s H E ds M Q R hr ⟨hs, c, t, eds, hc0, hc1, ht0, ht1, hz, htb, p⟩
  subst eds
  have sc := sc_is_wide
  refine wss_cons ?_
  refine ws_set 3 sc.nd ?_
  refine we_lcG (own := [("j", 5)]) rfl sc.nd (blkOk_by (own := [("j", 5)]) (N := ["head", "calls", "ticks", "row", "many", "j"]) (sc := defScope (Hd.topS 31)) (by decide +kernel)) rfl gt_name (fun _ _ _ _ _ => pg_name (i := 5) sc.nd rfl (Or.inl rfl)) ?_
  refine wi_range1 (C.fr 54) ?_
  refine we_bin od_add ?_
  refine we_bin od_mul ?_
  refine we_int ?_
  refine we_callB cd_len (C.fr 50) ?_
  refine wa_cons ?_
  refine we_var 0 rfl ?_
  refine wa_nil ?_
  refine c_len rfl ?_
  rw [List.length_map]
  refine b_mul (.inr ⟨by omega, by omega⟩) ?_
  refine we_int ?_
  refine b_addI ?_
  refine ⟨_, rfl, by omega, by omega, fun pr hpr => ?_⟩
  refine lcj_ix (fun j => D.int (gapBy hs c t (j : Nat))) hpr (by rw [rg1_len]; omega) (fun _ _ => trivial) (fun _ _ => trivial) ?_ ?_
  · intro k d hd l M1 su hl s H Ca cl fp
    obtain ⟨hk, rfl⟩ := rg1_at hd
    refine we_call (ok_gap_by C) hr ?_
    refine wa_cons ?_
    refine we_var 0 rfl ?_
    refine wa_cons ?_
    refine we_var 1 rfl ?_
    refine wa_cons ?_
    refine we_var 2 rfl ?_
    refine wa_cons ?_
    refine we_var 5 rfl ?_
    refine wa_nil ?_
    exact ⟨hs, c, t, (k : Nat), rfl, hc0, hc1, ht0, ht1, rfl, Sub.refl _⟩
  intro M1 su1 hp1
  have em : (List.range (rg1 (2 * (hs.length : Int) + 1)).length).map (fun j => D.int (gapBy hs c t (j : Nat))) = gRow hs c t (2 * hs.length + 1) := by
    unfold gRow
    rw [rg1_len, show (2 * (hs.length : Int) + 1).toNat = 2 * hs.length + 1 by omega]
  rw [em] at hp1
  refine wss_cons ?_
  refine ws_set 4 sc.nd ?_
  refine we_bin od_add ?_
  refine we_callB cd_len (C.fr 50) ?_
  refine wa_cons ?_
  refine we_var 0 rfl ?_
  refine wa_nil ?_
  refine c_len rfl ?_
  rw [List.length_map]
  refine we_int ?_
  refine b_addI ?_
  refine wss_one ?_
  refine ws_ret ?_
  refine we_all2 [".0", "row", "many", "i", "j"] ["row", "many"] [3, 4] 2 (defScope (Hd.topS 31)) hr (C.tb 2) rfl (C.fr 44) ?_
  refine wi_range2 (C.fr 54) ?_
  refine we_int ?_
  refine we_var 4 rfl ?_
  refine ⟨1, _, rfl, rfl, ⟨by omega, by omega, by omega, by omega⟩, su1 _ _ htb, ?_⟩
  have rl : ∀ n : Nat, (rg2 1 ((n : Int) + 1)).length = n := fun n => by rw [rg2_len]; omega
  have rowAt : ∀ i : Nat, i < 2 * hs.length + 1 → atI (gRow hs c t (2 * hs.length + 1)) ((i : Nat) : Int) = some (.int (gapBy hs c t (i : Nat))) := fun i h => atI_nat (gRow_at h)
  have ne_ : ∀ {i j : Nat}, i < hs.length → j < hs.length → ¬ (gapBy hs c t ((i + 1 : Nat) : Int) + gapBy hs c t ((j + 1 : Nat) : Int) ≤ gapBy hs c t ((i + j + 2 : Nat) : Int)) → wideB hs c t = false := fun {i j} hi hj h => by
    unfold wideB
    rw [List.all_eq_false]
    refine ⟨i, List.mem_range.mpr hi, ?_⟩
    rw [Bool.not_eq_true, List.all_eq_false]
    exact ⟨j, List.mem_range.mpr hj, by simpa using h⟩
  refine ⟨hs.length, fun i M' => M' = M1 ∧ ∀ a, a < i → ∀ b, b < hs.length → gapBy hs c t ((a + 1 : Nat) : Int) + gapBy hs c t ((b + 1 : Nat) : Int) ≤ gapBy hs c t ((a + b + 2 : Nat) : Int), ⟨rfl, fun a h => absurd h (Nat.not_lt_zero _)⟩, fun _ _ _ _ => trivial, ?_, ?_⟩
  · intro i d M' hd ⟨eM, hall⟩ cl L code A' s' H' fp pn rk
    have eM2 := eM.symm
    subst eM2
    obtain ⟨hi, rfl⟩ := rg2_at hd
    have hi' : i < hs.length := by omega
    refine wg_name 3 nG ?_
    refine ⟨slE_set rfl, fun _ => ?_, fun z => (nomatch z)⟩
    refine wi_range2 (C.fr 54) ?_
    refine we_int ?_
    refine we_var 2 rfl ?_
    refine ⟨1, _, rfl, rfl, ⟨by omega, by omega, by omega, by omega⟩, by rw [rl]; exact Nat.le_refl _, ?_⟩
    refine ⟨fun j M' => M' = M1 ∧ ∀ b, b < j → gapBy hs c t ((i + 1 : Nat) : Int) + gapBy hs c t ((b + 1 : Nat) : Int) ≤ gapBy hs c t ((i + b + 2 : Nat) : Int), ⟨rfl, fun a h => absurd h (Nat.not_lt_zero _)⟩, fun _ _ _ _ => trivial, ?_, ?_⟩
    · intro j d M' hd ⟨eM, hall1⟩ cl L code A' s' H' fp pn rk
      have eM2 := eM.symm
      subst eM2
      obtain ⟨hj, rfl⟩ := rg2_at hd
      have hj' : j < hs.length := by omega
      refine wg_name 4 nG ?_
      refine ⟨slE_set rfl, fun _ => ?_, fun z => (nomatch z)⟩
      refine we_cmp od_ge ?_
      refine we_sub ?_
      refine we_var 1 rfl ?_
      refine we_bin od_add ?_
      refine we_var 3 rfl ?_
      refine we_var 4 rfl ?_
      refine b_addI ?_
      refine i_lst hp1 (by rw [show (1 : Int) + (i : Nat) + (1 + (j : Nat)) = ((i + j + 2 : Nat) : Int) by omega]; exact rowAt _ (by omega)) ?_
      refine we_bin od_add ?_
      refine we_sub ?_
      refine we_var 1 rfl ?_
      refine we_var 3 rfl ?_
      refine i_lst hp1 (by rw [show (1 : Int) + (i : Nat) = ((i + 1 : Nat) : Int) by omega]; exact rowAt _ (by omega)) ?_
      refine we_sub ?_
      refine we_var 1 rfl ?_
      refine we_var 4 rfl ?_
      refine i_lst hp1 (by rw [show (1 : Int) + (j : Nat) = ((j + 1 : Nat) : Int) by omega]; exact rowAt _ (by omega)) ?_
      refine b_addI ?_
      refine b_cmp ?_
      refine ⟨_, rfl, fun hb => ?_, fun hb => ⟨rfl, fun k hk => ?_⟩⟩
      · have hb := of_decide_eq_false hb
        have pp := p M1 su1
        rw [ne_ hi' hj' hb] at pp
        exact ⟨M1, Sub.refl _, pp⟩
      · rcases Nat.lt_succ_iff_lt_or_eq.mp hk with h | h
        · exact hall1 k h
        · subst h
          exact of_decide_eq_true (by simpa using hb)
    · intro M' ⟨eM, hall1⟩
      have eM2 := eM.symm
      subst eM2
      refine ⟨rfl, fun a ha b hb => ?_⟩
      rw [rl] at hall1
      rcases Nat.lt_succ_iff_lt_or_eq.mp ha with h | h
      · exact hall a h b hb
      · subst h
        exact hall1 b hb
  · intro M' ⟨eM, hall⟩
    have eM2 := eM.symm
    subst eM2
    have e : wideB hs c t = true := by
      unfold wideB
      rw [List.all_eq_true]
      intro i hi
      rw [List.all_eq_true]
      intro j hj
      rw [rl] at hall
      exact decide_eq_true (hall i (List.mem_range.mp hi) j (List.mem_range.mp hj))
    have pp := p M1 su1
    rw [e] at pp
    exact ⟨M1, Sub.refl _, pp⟩
/-! ### is_contract -/
def conB (hs : List Int) (c t : Int) : Bool := shaped hs c t && (risB hs c t && wideB hs c t)
def sp_is_contract (K : PySem.W.Frag) : DSp := fun ds M P R => ∃ (hs : List Int) (c t : Int), ds = [dCon hs c t] ∧ -1000000 ≤ t ∧ t ≤ 1000000 ∧ hs.length ≤ 1000 ∧ Tb K qS M ∧ Tb K qR M ∧ Tb K qW M ∧ ∀ M', Sub M M' → P (.bl (conB hs c t)) M'
theorem sc_is_contract : FnScope ["value", "head", "calls", "ticks"] ["value"] (defScope (Hd.topS 32)) := ⟨rfl, rfl, rfl, by decide +kernel, rfl, by decide +kernel, by decide +kernel⟩
theorem ok_is_contract (C : Ct K mg base) : DefOk P w K mg base CX0 5 "is_contract" ["value"] (sp_is_contract K) := by
  refine C.df 9 9 (d := Hd.d_is_contract) rfl rfl rfl (fun _ _ _ _ _ _ us hl => match us, hl with | [_], _ => rfl) fun f fd F => fn_ok F sc_is_contract (by rintro _ _ _ _ ⟨_, _, _, rfl, _⟩; rfl) ?_
  intro cdv A outer s H E ds M Q R hr ⟨hs, c, t, eds, ht0, ht1, hz, hS, hR, hW, p⟩
  subst eds
  have sc := sc_is_contract
  unfold conB at p
  refine wss_cons ?_
  refine ws_if ?_
  refine wt_not ?_
  refine wt_val ?_
  refine we_call (ok_is_shaped C) hr ?_
  refine wa_cons ?_
  refine we_var 0 rfl ?_
  refine wa_nil ?_
  refine ⟨hs, c, t, rfl, by omega, hS, ?_⟩
  refine t_bl ?_
  cases hsh : shaped hs c t with
  | false =>
    refine ⟨fun _ => ?_, fun z => (nomatch z)⟩
    refine wss_one ?_
    refine ws_ret ?_
    refine we_bl ?_
    have pp := p M (Sub.refl M)
    rw [hsh, Bool.false_and] at pp
    exact ⟨M, Sub.refl M, pp⟩
  | true =>
    refine ⟨fun z => (nomatch z), fun _ => ?_⟩
    rw [hsh, Bool.true_and] at p
    unfold shaped at hsh
    simp only [Bool.and_eq_true, decide_eq_true_eq] at hsh
    refine wss_nil ?_
    refine wss_cons ?_
    refine ws_asg ?_
    refine we_var 0 rfl ?_
    refine wg_tup rfl rfl ?_
    refine wgs_cons ?_
    refine wg_name 1 sc.nd ?_
    refine wgs_cons ?_
    refine wg_name 2 sc.nd ?_
    refine wgs_cons ?_
    refine wg_name 3 sc.nd ?_
    refine wgs_nil ?_
    refine wss_one ?_
    refine ws_ret ?_
    refine we_and ?_
    refine we_call (ok_is_rising C) hr ?_
    refine wa_cons ?_
    refine we_var 1 rfl ?_
    refine wa_cons ?_
    refine we_var 2 rfl ?_
    refine wa_cons ?_
    refine we_var 3 rfl ?_
    refine wa_nil ?_
    refine ⟨hs, c, t, rfl, by omega, by omega, ht0, ht1, hz, hR, fun M1 su1 => ?_⟩
    refine ⟨_, rfl, fun hk => ?_, fun hk => ?_⟩
    · refine we_one ?_
      refine we_call (ok_is_wide C) hr ?_
      refine wa_cons ?_
      refine we_var 1 rfl ?_
      refine wa_cons ?_
      refine we_var 2 rfl ?_
      refine wa_cons ?_
      refine we_var 3 rfl ?_
      refine wa_nil ?_
      refine ⟨hs, c, t, rfl, by omega, by omega, ht0, ht1, hz, su1 _ _ hW, fun M2 su2 => ?_⟩
      have pp := p M2 (su1.trans su2)
      rw [hk, Bool.true_and] at pp
      exact ⟨M2, Sub.refl _, pp⟩
    · have pp := p M1 su1
      rw [hk, Bool.false_and] at pp
      exact ⟨M1, Sub.refl _, pp⟩
end
end K82

set_option Elab.async false
set_option linter.all false
set_option maxRecDepth 100000
set_option maxHeartbeats 4000000
namespace K82
open PySem PySem.Spec PyProof.Rows L2 DL NdefX
/-- what is asked of the program -/
structure Pg (P : Program) : Prop where
  f : P.main.file = Hd.mf
  t : (P.main.scope.names.lookup ("super" : Str)).isSome = false
section
variable {P : Program} {w : World} {K : PySem.W.Frag} {mg : Str → Option Value} {base : Heap}
theorem Ct.exBR (C : Ct K mg base) : ExcK Hd.mf K "BadRoad" := excB_ok (by
  have z := C.s.e
  unfold Hd.ex at z
  simp only [Bool.and_eq_true] at z
  exact z.1)
theorem Ct.exRf (C : Ct K mg base) : ExcK Hd.mf K "Refused" := excB_ok (by
  have z := C.s.e
  unfold Hd.ex at z
  simp only [Bool.and_eq_true] at z
  exact z.2.1)
abbrev cBR (K : PySem.W.Frag) : Addr := He.ga K "BadRoad"
abbrev cRf (K : PySem.W.Frag) : Addr := He.ga K "Refused"
theorem ex_Refused {CX : CXT} (C : Ct K mg base) (hP : Pg P) : ExOk P w K mg base CX 1 "Refused" (cRf K) ["word"] := by
  have E := C.exRf
  obtain ⟨F, e1, e2, e3, e4, e5, S⟩ := E.sup (P := P) (mg := mg) (slf := "self") (C.s.f 1 rfl) hP.f (by decide +kernel) (by decide +kernel) (by decide +kernel) rfl rfl hP.t (C.fr 58)
  obtain ⟨n1, n2, n3, n4, n5, n6, n7⟩ := F
  have e1 : n1 = _ := e1
  have e2 : n2 = _ := e2
  have e3 : n3 = _ := e3
  have e4 : n4 = _ := e4
  have e5 : n5 = _ := e5
  subst e1 e2 e3 e4 e5
  have hno : PySem.W.findIn K (.ref (cRf K)) "word" = some none := He.noat_ok (x := "Refused") (f := "word") (C.c.fact 29 (f := .noat "Refused" "word") rfl)
  obtain ⟨fd, ⟨doc, pm, ctv, efd⟩, FO⟩ := fn_sup (CX := CX) (P := P) (w := w) (mg := mg) (base := base) (N := ["self", "word", "__class__"]) (ps := ["word"]) (k := 0) (sp := spExc (cRf K) ["word"]) S (nscope_by (show nscB ["self", "word", "__class__"] ["self", "word"] ["__class__"] (defScope (inClass (Hd.topS 36) 0)) = true by decide +kernel)) rfl
    (by rintro _ _ _ _ ⟨a, ws, rfl, hl, _⟩; rw [List.length_cons, hl]; rfl) (fun A outer s H vs Q E' ⟨a, ws, ev, hl, ha, q⟩ => by
      subst ev
      match ws, hl with
      | [x1], _ =>
        refine ⟨a, _, _, rfl, ha, pa_cons (pe_var (i := 1) rfl (.inl rfl)) pa_nil, pss_one (ps_ost (pe_var (i := 0) rfl (.inl rfl)) (pe_var (i := 1) rfl (.inl rfl))), ?_⟩
        refine ⟨x1, rfl, ?_⟩
        refine ⟨Nat.le_of_ble_eq_true rfl, ha, ?_⟩
        refine ⟨x1, rfl, .ref a, rfl, a, cRf K, rfl, E.o, hno, .inl ⟨ha, fun dx hdx hne => ?_⟩⟩
        exact q dx _ hdx hne upd_same ((upd_ne hne).trans upd_same) fun b hb hd => (upd_ne hb).trans (upd_ne hd))
  refine ⟨_, fd, _, E.o, E.fi, E.ti, He.glo_ok C.X C.G (C.c.fact 28 (f := .glo "Refused") rfl), ?_, FO⟩
  rw [efd]
  intro s us X hl
  match us, hl with
  | [_, _], _ => exact .of_eq rfl
theorem ex_BadRoad {CX : CXT} (C : Ct K mg base) (hP : Pg P) : ExOk P w K mg base CX 1 "BadRoad" (cBR K) ["caller", "part"] := by
  have E := C.exBR
  obtain ⟨F, e1, e2, e3, e4, e5, S⟩ := E.sup (P := P) (mg := mg) (slf := "self") (C.s.f 0 rfl) hP.f (by decide +kernel) (by decide +kernel) (by decide +kernel) rfl rfl hP.t (C.fr 58)
  obtain ⟨n1, n2, n3, n4, n5, n6, n7⟩ := F
  have e1 : n1 = _ := e1
  have e2 : n2 = _ := e2
  have e3 : n3 = _ := e3
  have e4 : n4 = _ := e4
  have e5 : n5 = _ := e5
  subst e1 e2 e3 e4 e5
  have hno1 : PySem.W.findIn K (.ref (cBR K)) "caller" = some none := He.noat_ok (x := "BadRoad") (f := "caller") (C.c.fact 25 (f := .noat "BadRoad" "caller") rfl)
  have hno2 : PySem.W.findIn K (.ref (cBR K)) "part" = some none := He.noat_ok (x := "BadRoad") (f := "part") (C.c.fact 26 (f := .noat "BadRoad" "part") rfl)
  obtain ⟨fd, ⟨doc, pm, ctv, efd⟩, FO⟩ := fn_sup (CX := CX) (P := P) (w := w) (mg := mg) (base := base) (N := ["self", "caller", "part", "__class__"]) (ps := ["caller", "part"]) (k := 0) (sp := spExc (cBR K) ["caller", "part"]) S (nscope_by (show nscB ["self", "caller", "part", "__class__"] ["self", "caller", "part"] ["__class__"] (defScope (inClass (Hd.topS 35) 0)) = true by decide +kernel)) rfl
    (by rintro _ _ _ _ ⟨a, ws, rfl, hl, _⟩; rw [List.length_cons, hl]; rfl) (fun A outer s H vs Q E' ⟨a, ws, ev, hl, ha, q⟩ => by
      subst ev
      match ws, hl with
      | [x1, x2], _ =>
        refine ⟨a, _, _, rfl, ha, pa_cons (pe_var (i := 1) rfl (.inl rfl)) (pa_cons (pe_var (i := 2) rfl (.inl rfl)) pa_nil), pss_cons (ps_ost (pe_var (i := 0) rfl (.inl rfl)) (pe_var (i := 1) rfl (.inl rfl))) (pss_one (ps_ost (pe_var (i := 0) rfl (.inl rfl)) (pe_var (i := 2) rfl (.inl rfl)))), ?_⟩
        refine ⟨x1, rfl, x2, rfl, ?_⟩
        refine ⟨Nat.le_of_ble_eq_true rfl, ha, ?_⟩
        refine ⟨x1, rfl, .ref a, rfl, a, cBR K, rfl, E.o, hno1, .inl ⟨ha, fun dx hdx hne => ?_⟩⟩
        refine ⟨x2, rfl, .ref a, rfl, a, cBR K, rfl, E.o, hno2, .inr ⟨dx, _, upd_same, (upd_ne hne).trans upd_same, Nat.le_of_ble_eq_true rfl, ?_⟩⟩
        exact q dx _ hdx hne ((upd_ne (Ne.symm hne)).trans upd_same) upd_same fun b hb hd => (upd_ne hd).trans ((upd_ne hb).trans (upd_ne hd)))
  refine ⟨_, fd, _, E.o, E.fi, E.ti, He.glo_ok C.X C.G (C.c.fact 24 (f := .glo "BadRoad") rfl), ?_, FO⟩
  rw [efd]
  intro s us X hl
  match us, hl with
  | [_, _, _], _ => exact .of_eq rfl
end
end K82

set_option Elab.async false
set_option linter.all false
set_option maxRecDepth 100000
set_option maxHeartbeats 4000000
namespace K82
open PySem PySem.Spec PyProof.Rows L2 DL
def lowAt (r : List Int) (i : Nat) : Int := if i = 1 ∨ i = 3 then r.getD (i - 1) 0 else 1
def highAt (i : Nat) : Int := if i < 4 then 60 else 3
def badAt (r : List Int) (i : Nat) : Bool := !(decide (lowAt r i ≤ r.getD i 0) && decide (r.getD i 0 ≤ highAt i))
def fwp (r : List Int) : Int := match (List.range 6).find? (badAt r) with
  | some i => (i : Nat)
  | none => -1
theorem fwp_at {r : List Int} {i : Nat} (hi : i < 6) (h : badAt r i = true) (hl : ∀ k, k < i → badAt r k = false) : fwp r = (i : Nat) := by
  unfold fwp
  have e : (List.range 6).find? (badAt r) = some i := by
    rw [List.find?_range_eq_some]
    exact ⟨h, List.mem_range.mpr hi, fun j hj => by rw [hl j hj]; rfl⟩
  rw [e]
theorem fwp_none {r : List Int} (hl : ∀ k, k < 6 → badAt r k = false) : fwp r = -1 := by
  unfold fwp
  have e : (List.range 6).find? (badAt r) = none := by
    rw [List.find?_eq_none]
    intro x hx
    rw [hl x (List.mem_range.mp hx)]
    simp
  rw [e]
theorem at6 {r : List Int} (h : r.length = 6) {i : Nat} (hi : i < 6) : r[i]? = some (r.getD i 0) := by
  rw [List.getD_eq_getElem?_getD, List.getElem?_eq_getElem (by omega)]
  rfl
section
variable {P : Program} {w : World} {K : PySem.W.Frag} {mg : Str → Option Value} {base : Heap}
def sp_first_wrong_part : DSp := fun ds M P R => ∃ r : List Int, ds = [dIs r] ∧ r.length = 6 ∧ P (.int (fwp r)) M
theorem sc_first_wrong_part : FnScope ["road", "lows", "highs", "part", "number", "low"] ["road"] (defScope (Hd.topS 38)) := ⟨rfl, rfl, rfl, by decide +kernel, rfl, by decide +kernel, by decide +kernel⟩
theorem ok_first_wrong_part (C : Ct K mg base) : DefOk P w K mg base CX0 2 "first_wrong_part" ["road"] sp_first_wrong_part := by
  refine C.df 10 10 (d := Hd.d_first_wrong_part) rfl rfl rfl (fun _ _ _ _ _ _ us hl => match us, hl with | [_], _ => rfl) fun f fd F => fn_ok F sc_first_wrong_part (by rintro _ _ _ _ ⟨_, rfl, _⟩; rfl) ?_
  intro cdv A outer s H E ds M Q R hr ⟨r, eds, hl, p⟩
  subst eds
  have sc := sc_first_wrong_part
  refine wss_cons ?_
  refine ws_set 1 sc.nd ?_
  refine we_tup ?_
  refine wa_cons ?_
  refine we_int ?_
  refine wa_cons ?_
  refine we_int ?_
  refine wa_cons ?_
  refine we_int ?_
  refine wa_cons ?_
  refine we_int ?_
  refine wa_cons ?_
  refine we_int ?_
  refine wa_cons ?_
  refine we_int ?_
  refine wa_nil ?_
  refine ⟨size_ok (Nat.le_of_ble_eq_true rfl), ?_⟩
  refine wss_cons ?_
  refine ws_set 2 sc.nd ?_
  refine we_tup ?_
  refine wa_cons ?_
  refine we_int ?_
  refine wa_cons ?_
  refine we_int ?_
  refine wa_cons ?_
  refine we_int ?_
  refine wa_cons ?_
  refine we_int ?_
  refine wa_cons ?_
  refine we_int ?_
  refine wa_cons ?_
  refine we_int ?_
  refine wa_nil ?_
  refine ⟨size_ok (Nat.le_of_ble_eq_true rfl), ?_⟩
  refine wss_cons ?_
  refine ws_for PassesOwn.never rfl ?_
  refine wi_enumT (C.fr 47) ?_
  refine we_var 0 rfl ?_
  refine ⟨_, rfl, ?_⟩
  refine ⟨fun i (Γ' : Sl) M' => (∃ x3 x4 x5, Γ' = [some (dIs r), some (dIs [1, 0, 1, 0, 1, 1]), some (dIs [60, 60, 60, 60, 3, 3]), x3, x4, x5]) ∧ M' = M ∧ ∀ k, k < i → badAt r k = false, ⟨⟨none, none, none, rfl⟩, rfl, fun k h => absurd h (Nat.not_lt_zero _)⟩, fun _ _ _ _ _ => trivial, ?_, ?_⟩
  · rintro i d _ M' hd ⟨⟨x3, x4, x5, rfl⟩, eM, hall⟩
    have eM2 := eM.symm
    subst eM2
    have hi : i < 6 := by
      have h := (List.getElem?_eq_some_iff.mp hd).1
      rw [enumD_len, List.length_map, hl] at h
      exact h
    have e1 := enumD_at (map_at (f := D.int) (at6 hl hi))
    rw [e1] at hd
    have hd := Option.some.inj hd
    subst hd
    refine wg_tup rfl rfl ?_
    refine wgs_cons ?_
    refine wg_name 3 sc.nd ?_
    refine wgs_cons ?_
    refine wg_name 4 sc.nd ?_
    refine wgs_nil ?_
    refine wss_cons ?_
    refine ws_set 5 sc.nd (WE.imp (P := fun d M' => d = D.int (lowAt r i) ∧ M' = M) ?_ ?_)
    · refine we_ifexp ?_
      refine wt_cmp od_in ?_
      refine we_var 3 rfl ?_
      refine we_tup ?_
      refine wa_cons ?_
      refine we_int ?_
      refine wa_cons ?_
      refine we_int ?_
      refine wa_nil ?_
      refine ⟨size_ok (Nat.le_of_ble_eq_true rfl), ?_⟩
      refine ⟨.int (i : Nat), _, [1, 3].map V.int, rfl, .inl rfl, mapM_ints [1, 3], ?_⟩
      refine t_bl (k := inV (.int (i : Nat)) ([1, 3].map V.int)) ?_
      rw [inV_int]
      refine ⟨fun hk => ?_, fun hk => ?_⟩
      · have hk := of_decide_eq_true hk
        have hk : i = 1 ∨ i = 3 := by
          simp only [List.mem_cons, List.not_mem_nil, or_false] at hk
          omega
        refine we_sub ?_
        refine we_var 0 rfl ?_
        refine we_bin od_sub ?_
        refine we_var 3 rfl ?_
        refine we_int ?_
        refine b_sub ?_
        refine i_tup (by rw [show ((i : Nat) : Int) - 1 = ((i - 1 : Nat) : Int) by omega]; exact atI_nat (map_at (at6 hl (by omega)))) ?_
        unfold lowAt
        rw [if_pos hk]
        exact ⟨rfl, rfl⟩
      · have hk := of_decide_eq_false hk
        have hk : ¬ (i = 1 ∨ i = 3) := fun z => hk (by
          simp only [List.mem_cons, List.not_mem_nil, or_false]
          omega)
        refine we_sub ?_
        refine we_var 1 rfl ?_
        refine we_var 3 rfl ?_
        refine i_tup (d := .int 1) (atI_nat (map_at (f := D.int) (x := 1) ?_)) ?_
        · match i, hi, hk with
          | 0, _, _ => rfl
          | 2, _, _ => rfl
          | 4, _, _ => rfl
          | 5, _, _ => rfl
          | 1, _, h => exact absurd (.inl rfl) h
          | 3, _, h => exact absurd (.inr rfl) h
        · unfold lowAt
          rw [if_neg hk]
          exact ⟨rfl, rfl⟩
    rintro _ _ ⟨rfl, rfl⟩
    refine wss_one ?_
    refine ws_if ?_
    refine wt_ww ?_
    refine ww_or ?_
    refine wt_not ?_
    refine wt_val ?_
    refine we_call (ok_is_number C) hr ?_
    refine wa_cons ?_
    refine we_var 4 rfl ?_
    refine wa_nil ?_
    refine ⟨_, rfl, ?_⟩
    refine t_bl ?_
    refine ⟨fun _ => ?_, fun z => (nomatch z)⟩
    refine ww_or1 ?_
    refine wt_not ?_
    refine wt_chain od_le od_le ?_
    refine we_var 5 rfl ?_
    refine we_var 4 rfl ?_
    refine b_cmp ?_
    have hb : badAt r i = !(decide (lowAt r i ≤ r.getD i 0) && decide (r.getD i 0 ≤ highAt i)) := rfl
    refine ⟨_, rfl, fun hk => ?_, fun hk => ⟨fun _ => ?_, fun z => (nomatch z)⟩⟩
    · refine we_sub ?_
      refine we_var 2 rfl ?_
      refine we_var 3 rfl ?_
      refine i_tup (d := .int (highAt i)) (atI_nat (map_at (f := D.int) (x := highAt i) ?_)) ?_
      · match i, hi with
        | 0, _ => rfl
        | 1, _ => rfl
        | 2, _ => rfl
        | 3, _ => rfl
        | 4, _ => rfl
        | 5, _ => rfl
      refine b_cmp ?_
      refine t_bl ?_
      rw [hk, Bool.true_and] at hb
      refine ⟨fun hk2 => ?_, fun hk2 => ?_⟩
      · refine wss_one ?_
        refine ws_ret ?_
        refine we_var 3 rfl ?_
        rw [fwp_at hi (hb.trans hk2) hall] at p
        exact ⟨_, Sub.refl _, p⟩
      · refine wss_nil ?_
        refine ⟨⟨_, _, _, rfl⟩, rfl, fun k hk3 => ?_⟩
        rcases Nat.lt_succ_iff_lt_or_eq.mp hk3 with h | h
        · exact hall k h
        · subst h
          exact hb.trans hk2
    · refine wss_one ?_
      refine ws_ret ?_
      refine we_var 3 rfl ?_
      rw [hk, Bool.false_and] at hb
      rw [fwp_at hi hb hall] at p
      exact ⟨_, Sub.refl _, p⟩
  · rintro _ M' ⟨⟨x3, x4, x5, rfl⟩, eM, hall⟩
    have eM2 := eM.symm
    subst eM2
    refine wss_one ?_
    refine ws_ret ?_
    refine we_neg ?_
    refine we_int ?_
    refine ⟨_, rfl, ?_⟩
    rw [enumD_len, List.length_map, hl] at hall
    rw [fwp_none hall] at p
    exact ⟨_, Sub.refl _, p⟩
end
end K82

set_option Elab.async false
set_option linter.all false
set_option maxRecDepth 100000
set_option maxHeartbeats 4000000
namespace K82
open PySem PySem.Spec PyProof.Rows L2 DL
/-- a road as the bounds may bear it -/
inductive Rd where
  | no
  | row (l : List Int)
def dRd : Rd → D
  | .no => .non
  | .row l => dIs l
def rdBad : Rd → Option Int
  | .no => some (-1)
  | .row l => if l.length ≠ 6 then some (-1) else if 0 ≤ fwp l then some (fwp l) else none
def badRs (rs : List Rd) : Option (Int × Int) := match (List.range rs.length).find? (fun i => (rdBad (rs.getD i .no)).isSome) with
  | some i => (rdBad (rs.getD i .no)).map fun p => (((i : Nat) : Int), p)
  | none => none
theorem badRs_at {rs : List Rd} {i : Nat} {p : Int} (hi : i < rs.length) (h : rdBad (rs.getD i .no) = some p) (hl : ∀ k, k < i → rdBad (rs.getD k .no) = none) : badRs rs = some (((i : Nat) : Int), p) := by
  unfold badRs
  have e : (List.range rs.length).find? (fun i => (rdBad (rs.getD i .no)).isSome) = some i := by
    rw [List.find?_range_eq_some]
    exact ⟨by rw [h]; rfl, List.mem_range.mpr hi, fun j hj => by rw [hl j hj]; rfl⟩
  rw [e]
  show (rdBad (rs.getD i .no)).map _ = _
  rw [h]
  rfl
theorem badRs_none {rs : List Rd} (hl : ∀ k, k < rs.length → rdBad (rs.getD k .no) = none) : badRs rs = none := by
  unfold badRs
  have e : (List.range rs.length).find? (fun i => (rdBad (rs.getD i .no)).isSome) = none := by
    rw [List.find?_eq_none]
    intro x hx
    rw [hl x (List.mem_range.mp hx)]
    simp
  rw [e]
theorem rd_at {rs : List Rd} {i : Nat} (hi : i < rs.length) : rs[i]? = some (rs.getD i .no) := by
  rw [List.getD_eq_getElem?_getD, List.getElem?_eq_getElem hi]
  rfl
/-- a BadRoad's dict -/
def dBR (c p : Int) : List (Str × D) := excD ["caller", "part"] [.int c, .int p]
section
variable {P : Program} {w : World} {K : PySem.W.Frag} {mg : Str → Option Value} {base : Heap}
def sp_check_bounds (K : PySem.W.Frag) : DSp := fun ds M P R => ∃ rs : List Rd, ds = [.tup [.int 1, .tup (rs.map dRd)], .tup (rs.map dRd)] ∧ rs.length ≤ 1000 ∧ (badRs rs = none → P .non M) ∧ ∀ c p, badRs rs = some (c, p) → ∀ d, M d = none → R (.ref (cBR K)) (some d) (put M d (.xd (dBR c p)))
theorem sc_check_bounds : FnScope ["design", "value", "caller", "road", "part"] ["design", "value"] (defScope (Hd.topS 39)) := ⟨rfl, rfl, rfl, by decide +kernel, rfl, by decide +kernel, by decide +kernel⟩
theorem ok_check_bounds (C : Ct K mg base) (hP : Pg P) : DefOk P w K mg base (L2N.CX P w) 4 "check_bounds" ["design", "value"] (sp_check_bounds K) := by
  refine C.df 11 11 (d := Hd.d_check_bounds) rfl rfl rfl (fun _ _ _ _ _ _ us hl => match us, hl with | [_, _], _ => rfl) fun f fd F => fn_okX F sc_check_bounds (by rintro _ _ _ _ ⟨_, rfl, _⟩; rfl) ?_
  intro cdv A outer s H E ds M Q R hr ⟨rs, eds, hz, pn, px⟩ tk
  subst eds
  have sc := sc_check_bounds
  refine wss_cons ?_
  refine ws_if ?_
  refine wt_not ?_
  refine wt_val ?_
  refine we_call (ok_is_row C) hr ?_
  refine wa_cons ?_
  refine we_var 1 rfl ?_
  refine wa_cons ?_
  refine we_callB cd_len (C.fr 50) ?_
  refine wa_cons ?_
  refine we_sub ?_
  refine we_var 0 rfl ?_
  refine we_int ?_
  refine i_tup (d := .tup (rs.map dRd)) rfl ?_
  refine wa_nil ?_
  refine c_len rfl ?_
  refine wa_nil ?_
  refine ⟨_, _, rfl, .inr ⟨_, rfl⟩, ?_⟩
  rw [show rowB (.tup (rs.map dRd)) ((rs.map dRd).length : Nat) = true from decide_eq_true rfl]
  refine t_bl ?_
  refine ⟨fun z => (nomatch z), fun _ => ?_⟩
  refine wss_nil ?_
  refine wss_one ?_
  refine ws_for (passes_of rfl) rfl ?_
  refine wi_enumT (C.fr 47) ?_
  refine we_var 1 rfl ?_
  refine ⟨_, rfl, ?_⟩
  refine ⟨fun i (Γ' : Sl) M' => (∃ x2 x3 x4, Γ' = [some (.tup [.int 1, .tup (rs.map dRd)]), some (.tup (rs.map dRd)), x2, x3, x4]) ∧ M' = M ∧ ∀ k, k < i → rdBad (rs.getD k .no) = none, ⟨⟨none, none, none, rfl⟩, rfl, fun k h => absurd h (Nat.not_lt_zero _)⟩, fun _ _ _ _ _ => trivial, ?_, ?_⟩
  · rintro i d _ M' hd ⟨⟨x2, x3, x4, rfl⟩, eM, hall⟩
    have eM2 := eM.symm
    subst eM2
    have hi : i < rs.length := by
      have h := (List.getElem?_eq_some_iff.mp hd).1
      rw [enumD_len, List.length_map] at h
      exact h
    have e1 := enumD_at (map_at (f := dRd) (rd_at hi))
    rw [e1] at hd
    have hd := Option.some.inj hd
    subst hd
    refine wg_tup rfl rfl ?_
    refine wgs_cons ?_
    refine wg_name 2 sc.nd ?_
    refine wgs_cons ?_
    refine wg_name 3 sc.nd ?_
    refine wgs_nil ?_
    generalize hrd : rs.getD i .no = rd at *
    have fin : ∀ (p : Int), rdBad rd = some p → ∀ d, M d = none → ∃ M2, Sub M2 (put M d (.xd (dBR (i : Nat) p))) ∧ R (.ref (cBR K)) (some d) M2 := fun p hp d hd => ⟨_, Sub.refl _, px _ _ (badRs_at hi (by rw [hrd]; exact hp) hall) d hd⟩
    refine wss_cons ?_
    refine ws_if ?_
    refine wt_not ?_
    refine wt_val ?_
    refine we_call (ok_is_row C) hr ?_
    refine wa_cons ?_
    refine we_var 3 rfl ?_
    refine wa_cons ?_
    refine we_int ?_
    refine wa_nil ?_
    refine ⟨_, _, rfl, ?_, ?_⟩
    · cases rd with
      | no => exact .inl rfl
      | row l => exact .inr ⟨_, rfl⟩
    refine t_bl ?_
    refine ⟨fun hk => ?_, fun hk => ?_⟩
    · have hb : rdBad rd = some (-1) := by
        cases rd with
        | no => rfl
        | row l =>
          have h : l.length ≠ 6 := fun z => by
            have : rowB (dRd (.row l)) 6 = true := decide_eq_true (by rw [List.length_map, z]; rfl)
            rw [this] at hk
            cases hk
          show (if l.length ≠ 6 then some (-1) else _) = some (-1)
          rw [if_pos h]
      refine wss_one ?_
      refine ws_raise (ex_BadRoad C hP) rfl tk hr ?_
      refine wa_cons ?_
      refine we_var 2 rfl ?_
      refine wa_cons ?_
      refine we_neg ?_
      refine we_int ?_
      refine ⟨_, rfl, ?_⟩
      refine wa_nil ?_
      exact ⟨rfl, Nat.le_of_ble_eq_true rfl, fin _ hb⟩
    refine wss_nil ?_
    cases rd with
    | no => cases hk
    | row l =>
      have hl : l.length = 6 := by
        by_cases h : l.length = 6
        · exact h
        · have : rowB (dRd (.row l)) 6 = false := decide_eq_false (by rw [List.length_map]; omega)
          rw [this] at hk
          cases hk
      have hbad : rdBad (.row l) = if 0 ≤ fwp l then some (fwp l) else none := by
        show (if l.length ≠ 6 then some (-1) else _) = _
        rw [if_neg (by omega)]
      refine wss_cons ?_
      refine ws_set 4 sc.nd ?_
      refine we_call (ok_first_wrong_part C) hr ?_
      refine wa_cons ?_
      refine we_var 3 rfl ?_
      refine wa_nil ?_
      refine ⟨l, rfl, hl, ?_⟩
      refine wss_one ?_
      refine ws_if ?_
      refine wt_cmp od_ge ?_
      refine we_var 4 rfl ?_
      refine we_int ?_
      refine b_cmp ?_
      refine t_bl ?_
      refine ⟨fun hk => ?_, fun hk => ?_⟩
      · have hk := of_decide_eq_true hk
        rw [if_pos hk] at hbad
        refine wss_one ?_
        refine ws_raise (ex_BadRoad C hP) rfl tk hr ?_
        refine wa_cons ?_
        refine we_var 2 rfl ?_
        refine wa_cons ?_
        refine we_var 4 rfl ?_
        refine wa_nil ?_
        exact ⟨rfl, Nat.le_of_ble_eq_true rfl, fin _ hbad⟩
      · have hk := of_decide_eq_false hk
        rw [if_neg hk] at hbad
        refine wss_nil ?_
        refine ⟨⟨_, _, _, rfl⟩, rfl, fun k hk3 => ?_⟩
        rcases Nat.lt_succ_iff_lt_or_eq.mp hk3 with h | h
        · exact hall k h
        · subst h
          rw [hrd]
          exact hbad
  · rintro _ M' ⟨⟨x2, x3, x4, rfl⟩, eM, hall⟩
    have eM2 := eM.symm
    subst eM2
    rw [enumD_len, List.length_map] at hall
    exact ⟨M, Sub.refl _, pn (badRs_none hall)⟩
end
end K82

set_option Elab.async false
set_option linter.all false
set_option maxRecDepth 100000
set_option maxHeartbeats 4000000
namespace K82
open PySem PySem.Spec PyProof.Rows L2 DL
abbrev cP (K : PySem.W.Frag) : Addr := He.ga K "Planner"
def plF (bs ws : D) (b : Addr) : List (Str × D) := [("_bounds", bs), ("_wishes", ws), ("_before", .ref b)]
def dRf (x : Str) : List (Str × D) := excD ["word"] [.str x]
section
variable {P : Program} {w : World} {K : PySem.W.Frag} {mg : Str → Option Value} {base : Heap}
theorem Ct.cls (C : Ct K mg base) : Cls K (cP K) := He.cls_ok (C.c.fact 32 (f := .cls "Planner") rfl)
theorem Ct.naB (C : Ct K mg base) : NoAttr K (cP K) "_before" := He.noat_ok (C.c.fact 40 (f := .noat "Planner" "_before") rfl)
theorem Ct.naO (C : Ct K mg base) : NoAttr K (cP K) "_bounds" := He.noat_ok (C.c.fact 41 (f := .noat "Planner" "_bounds") rfl)
theorem Ct.naW (C : Ct K mg base) : NoAttr K (cP K) "_wishes" := He.noat_ok (C.c.fact 42 (f := .noat "Planner" "_wishes") rfl)
theorem Ct.mt {CX : CXT} (C : Ct K mg base) (i j : Nat) {m : Str} {d : He.DefD} {k : Nat} {ps : List Str} {sp : DSp} (hd : d.at_ = (("Planner" : Str), some m)) (h1 : d.dvs K = []) (h2 : d.kws K = [])
    (b : ∀ (kV doc pm : Value) (an : Option Addr) (cdv ct : Value) (us : List Value), us.length = ps.length → bindArgs (PySem.W.fnOf d.name d.qual d.params d.body d.scope .none kV doc pm an cdv ct) ⟨us, []⟩ = pure (ps.zip us))
    (ok : ∀ fd, FunD K d.name d.qual d.params d.body d.scope [] [] (He.fAd K d.at_) fd → FnOk P w K mg base CX k (He.fAd K d.at_) fd ps (lift sp)) (hi : Hd.fn[i]? = some d := by rfl) (hj : Hd.fa[j]? = some (He.Fa.meth "Planner" m) := by rfl) : MethOk P w K mg base CX k (cP K) m ps sp := by
  obtain ⟨fd, F⟩ := C.c.def_ i hi
  rw [h1, h2] at F
  have F2 := ok fd F
  rw [hd] at F F2
  exact ⟨_, fd, He.meth_ok (C.c.fact j hj), F.bindsN b, F2⟩
/-! ### Planner.__init__ -/
def initBad (rs : List Rd) : Option (Int × Int) := if 1 ≤ rs.length ∧ rs.length ≤ 4 then badRs rs else some (-1, -1)
def sp_init (K : PySem.W.Frag) : DSp := fun ds M P R => ∃ (a : Addr) (rs : List Rd), ds = [.ref a, .tup (rs.map dRd)] ∧ rs.length ≤ 1000 ∧ M a = some (.ins (cP K) []) ∧
  (initBad rs = none → ∀ (b : Addr) (M' : Mem), b ≠ a → M b = none → M' a = some (.ins (cP K) (plF (.tup (rs.map dRd)) (.tup []) b)) → M' b = some (.lst []) → (∀ x, x ≠ a → x ≠ b → M' x = M x) → P .non M') ∧
  ∀ c p, initBad rs = some (c, p) → ∀ d, M d = none → R (.ref (cBR K)) (some d) (put M d (.xd (dBR c p)))
theorem sc_init : FnScope ["self", "bounds"] ["self", "bounds"] (defScope (inClass (Hd.topS 64) 0)) := ⟨rfl, rfl, rfl, by decide +kernel, rfl, by decide +kernel, by decide +kernel⟩
theorem fn_init (C : Ct K mg base) (hP : Pg P) {f : Addr} {fd : FuncData} (F : FunD K Hd.d_Planner_init.name Hd.d_Planner_init.qual Hd.d_Planner_init.params Hd.d_Planner_init.body Hd.d_Planner_init.scope [] [] f fd) : FnOk P w K mg base (L2N.CX P w) 5 f fd ["self", "bounds"] (lift (sp_init K)) := by
  refine fn_okX F sc_init (by rintro _ _ _ _ ⟨_, _, rfl, _⟩; rfl) ?_
  intro cdv A outer s H E ds M Q R hr ⟨a, rs, eds, hz, ha, pn, px⟩ tk
  subst eds
  have sc := sc_init
  obtain ⟨tk2, hmc⟩ := C.gi 62 (x := "MOST_CALLERS") (i := 4)
  have bad : ¬ (1 ≤ rs.length ∧ rs.length ≤ 4) → ∀ d, M d = none → ∃ M2, Sub M2 (put M d (.xd (dBR (-1) (-1)))) ∧ R (.ref (cBR K)) (some d) M2 := fun h d hd => ⟨_, Sub.refl _, px _ _ (by unfold initBad; rw [if_neg h]) d hd⟩
  refine wss_cons ?_
  refine ws_if ?_
  refine wt_ww ?_
  refine ww_or ?_
  refine wt_not ?_
  refine wt_val ?_
  refine we_callB cd_isi (C.fr 49) ?_
  refine wa_cons ?_
  refine we_var 1 rfl ?_
  refine wa_cons ?_
  refine we_ty (T := "tuple") (C.fr 59) ?_
  refine wa_nil ?_
  refine c_isi (.tup _) (b := true) (by decide +kernel) ?_
  refine t_bl ?_
  refine ⟨fun _ => ?_, fun z => (nomatch z)⟩
  refine ww_or1 ?_
  refine wt_not ?_
  refine wt_chain od_le od_le ?_
  refine we_int ?_
  refine we_callB cd_len (C.fr 50) ?_
  refine wa_cons ?_
  refine we_var 1 rfl ?_
  refine wa_nil ?_
  refine c_len rfl ?_
  rw [List.length_map]
  refine b_cmp ?_
  have rest : (1 ≤ rs.length ∧ rs.length ≤ 4) → WSs (cxOf (L2N.CX P w) P w K mg base ["self", "bounds"] Hd.d_Planner_init.qual Hd.d_Planner_init.scope f cdv A outer s H E) ((defBody (inClass (Hd.topS 64) 0)).drop 1) [some (.ref a), some (.tup (rs.map dRd))] M { nx := fun _ M' => ∃ M2, Sub M2 M' ∧ Q .non M2, rt := fun d M' => ∃ M2, Sub M2 M' ∧ Q d M2 } := fun h14 => by
    unfold initBad at pn px
    rw [if_pos h14] at pn px
    refine wss_cons ?_
    refine WS.ofT fun Hb => wst_expr ?_
    refine wet_call (ok_check_bounds C hP) (fun cls d M' => ∃ c p dd, badRs rs = some (c, p) ∧ cls = .ref (cBR K) ∧ d = some dd ∧ M dd = none ∧ M' = put M dd (.xd (dBR c p))) (airF tk fun cls d M' ⟨c, p, dd, h1, h2, h3, h4, h5⟩ => by
      subst h2 h3 h5
      exact ⟨_, Sub.refl _, px c p h1 dd h4⟩) hr ?_
    refine wa_cons ?_
    refine we_tup ?_
    refine wa_cons ?_
    refine we_int ?_
    refine wa_cons ?_
    refine we_var 1 rfl ?_
    refine wa_nil ?_
    refine ⟨size_ok (Nat.le_of_ble_eq_true rfl), ?_⟩
    refine wa_cons ?_
    refine we_var 1 rfl ?_
    refine wa_nil ?_
    refine ⟨rs, rfl, hz, fun hb => ?_, fun c p hb d hd => ⟨c, p, d, hb, rfl, rfl, hd, rfl⟩⟩
    refine wss_cons ?_
    refine ws_fld ?_
    refine we_var 1 rfl ?_
    refine we_var 0 rfl ?_
    refine ⟨a, _, _, rfl, ha, C.cls, C.naO, Nat.le_of_ble_eq_true rfl, ?_⟩
    refine wss_cons ?_
    refine ws_fld ?_
    refine we_tup ?_
    refine wa_nil ?_
    refine ⟨size_ok (Nat.le_of_ble_eq_true rfl), ?_⟩
    refine we_var 0 rfl ?_
    refine ⟨a, _, _, rfl, put_same, C.cls, C.naW, Nat.le_of_ble_eq_true rfl, ?_⟩
    rw [put_put]
    refine wss_one ?_
    refine ws_fld ?_
    refine we_lst ?_
    refine wa_nil ?_
    refine ⟨size_ok (Nat.le_of_ble_eq_true rfl), fun b hb2 => ?_⟩
    have hba := put_none hb2
    refine we_var 0 rfl ?_
    refine ⟨a, _, _, rfl, (put_ne (Ne.symm hba.1)).trans put_same, C.cls, C.naB, Nat.le_of_ble_eq_true rfl, ?_⟩
    refine ⟨_, Sub.refl _, pn hb b _ hba.1 hba.2 put_same ((put_ne hba.1).trans put_same) fun x h1 h2 => ?_⟩
    rw [put_ne h1, put_ne h2, put_ne h1]
  refine ⟨_, rfl, fun hk => ?_, fun hk => ⟨fun _ => ?_, fun z => (nomatch z)⟩⟩
  · have hk := of_decide_eq_true hk
    refine we_globI hmc ?_
    refine b_cmp ?_
    refine t_bl ?_
    refine ⟨fun hk2 => ?_, fun hk2 => ?_⟩
    · have hk2 : (!decide ((rs.length : Int) ≤ 4)) = true := hk2
      rw [Bool.not_eq_true', decide_eq_false_iff_not] at hk2
      refine wss_one ?_
      refine ws_raise (ex_BadRoad C hP) rfl tk hr ?_
      refine wa_cons ?_
      refine we_neg ?_
      refine we_int ?_
      refine ⟨_, rfl, ?_⟩
      refine wa_cons ?_
      refine we_neg ?_
      refine we_int ?_
      refine ⟨_, rfl, ?_⟩
      refine wa_nil ?_
      exact ⟨rfl, Nat.le_of_ble_eq_true rfl, bad (by omega)⟩
    · have hk2 : (!decide ((rs.length : Int) ≤ 4)) = false := hk2
      rw [Bool.not_eq_false', decide_eq_true_eq] at hk2
      exact wss_nil (rest ⟨by omega, by omega⟩)
  · have hk := of_decide_eq_false hk
    refine wss_one ?_
    refine ws_raise (ex_BadRoad C hP) rfl tk hr ?_
    refine wa_cons ?_
    refine we_neg ?_
    refine we_int ?_
    refine ⟨_, rfl, ?_⟩
    refine wa_cons ?_
    refine we_neg ?_
    refine we_int ?_
    refine ⟨_, rfl, ?_⟩
    refine wa_nil ?_
    exact ⟨rfl, Nat.le_of_ble_eq_true rfl, bad (by omega)⟩
/-! ### Planner.undo -/
def sp_undo (K : PySem.W.Frag) : DSp := fun ds M P R => ∃ (a b : Addr) (bs ws : D) (hist : List D), ds = [.ref a] ∧ b ≠ a ∧ M a = some (.ins (cP K) (plF bs ws b)) ∧ M b = some (.lst hist) ∧
  (∀ l y, hist = l ++ [y] → ∀ M' : Mem, M' a = some (.ins (cP K) (plF bs y b)) → M' b = some (.lst l) → (∀ x, x ≠ a → x ≠ b → M' x = M x) → P .non M') ∧
  (hist = [] → ∀ d, M d = none → R (.ref (cRf K)) (some d) (put M d (.xd (dRf "undo"))))
theorem sc_undo : FnScope ["self"] ["self"] (defScope (inClass (Hd.topS 64) 3)) := ⟨rfl, rfl, rfl, by decide +kernel, rfl, by decide +kernel, by decide +kernel⟩
theorem ok_undo (C : Ct K mg base) (hP : Pg P) : MethOk P w K mg base (L2N.CX P w) 4 (cP K) "undo" ["self"] (sp_undo K) := by
  refine C.mt 25 35 (d := Hd.d_Planner_undo) rfl rfl rfl (fun _ _ _ _ _ _ us hl => match us, hl with | [_], _ => rfl) fun fd F => fn_okX F sc_undo (by rintro _ _ _ _ ⟨_, _, _, _, _, rfl, _⟩; rfl) ?_
  intro cdv A outer s H E ds M Q R hr ⟨a, b, bs, ws, hist, eds, hne, ha, hb, pn, px⟩ tk
  subst eds
  have sc := sc_undo
  refine wss_cons ?_
  refine ws_if ?_
  refine wt_not ?_
  refine wt_truth ?_
  refine we_attr ?_
  refine we_var 0 rfl ?_
  refine ⟨a, _, _, _, rfl, ha, C.cls, C.naB, rfl, ?_⟩
  refine ⟨_, .inl ⟨_, hb, rfl⟩, ?_⟩
  rcases List.eq_nil_or_concat hist with e | ⟨l, y, e⟩
  · subst e
    refine ⟨fun _ => ?_, fun z => (nomatch z)⟩
    refine wss_one ?_
    refine ws_raise (ex_Refused C hP) rfl tk hr ?_
    refine wa_cons ?_
    refine we_str ?_
    refine wa_nil ?_
    exact ⟨rfl, Nat.le_of_ble_eq_true rfl, fun d hd => ⟨_, Sub.refl _, px rfl d hd⟩⟩
  · have e : hist = l ++ [y] := by simpa using e
    subst e
    refine ⟨fun z => absurd z (by simp), fun _ => ?_⟩
    refine wss_nil ?_
    refine wss_one ?_
    refine ws_fld ?_
    refine we_pop ?_
    refine we_attr ?_
    refine we_var 0 rfl ?_
    refine ⟨a, _, _, _, rfl, ha, C.cls, C.naB, rfl, ?_⟩
    refine ⟨b, _, y, rfl, hb, by simp, ?_⟩
    refine we_var 0 rfl ?_
    refine ⟨a, _, _, rfl, (put_ne (Ne.symm hne)).trans ha, C.cls, C.naW, Nat.le_of_ble_eq_true rfl, ?_⟩
    refine ⟨_, Sub.refl _, pn l y rfl _ put_same ((put_ne hne).trans (by rw [put_same, List.dropLast_concat])) fun x h1 h2 => ?_⟩
    rw [put_ne h1, put_ne h2]
end
end K82

set_option Elab.async false
set_option linter.all false
set_option maxRecDepth 100000
set_option maxHeartbeats 4000000
namespace K82
open PySem PySem.Spec PyProof.Rows L2 DL
structure Wi where
  (who : Int) (hs : List Int) (c t most : Int)
def dWi (x : Wi) : D := .tup [.int x.who, dCon x.hs x.c x.t, .int x.most]
def putWi (ws : List Wi) (n : Wi) : List Wi := if (ws.any fun o => decide (o.who = n.who)) = true then ws.map (fun o => if o.who = n.who then n else o) else ws ++ [n]
def wWord (nb : Int) (n : Wi) : Option Str := if (decide (0 ≤ n.who) && decide (n.who ≤ nb - 1)) = false then some "caller" else if conB n.hs n.c n.t = false then some "contract" else if n.most < 1 then some "most" else none
abbrev qV : He.Defn := ("Planner", some "wish")
section
variable {P : Program} {w : World} {K : PySem.W.Frag} {mg : Str → Option Value} {base : Heap}
def sp_wish (K : PySem.W.Frag) : DSp := fun ds M P R => ∃ (a b : Addr) (bsl : List D) (ws : List Wi) (hist : List D) (n : Wi), ds = [.ref a, .int n.who, dCon n.hs n.c n.t, .int n.most] ∧ b ≠ a ∧ M a = some (.ins (cP K) (plF (.tup bsl) (.tup (ws.map dWi)) b)) ∧ M b = some (.lst hist) ∧
  (bsl.length ≤ 1000 ∧ ws.length ≤ 1000 ∧ hist.length ≤ 1000 ∧ n.hs.length ≤ 1000 ∧ -1000000 ≤ n.t ∧ n.t ≤ 1000000) ∧ (Tb K qS M ∧ Tb K qR M ∧ Tb K qW M ∧ Tb K qV M) ∧
  (wWord bsl.length n = none → ∀ M' : Mem, M' a = some (.ins (cP K) (plF (.tup bsl) (.tup ((putWi ws n).map dWi)) b)) → M' b = some (.lst (hist ++ [.tup (ws.map dWi)])) → (∀ x m, x ≠ a → x ≠ b → M x = some m → M' x = some m) → P .non M') ∧
  ∀ x, wWord bsl.length n = some x → ∀ d M1, Sub M M1 → M1 d = none → R (.ref (cRf K)) (some d) (put M1 d (.xd (dRf x)))
theorem sc_wish : FnScope ["self", "caller", "contract", "most", "new", "old"] ["self", "caller", "contract", "most"] (defScope (inClass (Hd.topS 64) 2)) := ⟨rfl, rfl, rfl, by decide +kernel, rfl, by decide +kernel, by decide +kernel⟩
theorem fn_wish (C : Ct K mg base) (hP : Pg P) {fd : FuncData} (F : FunD K Hd.d_Planner_wish.name Hd.d_Planner_wish.qual Hd.d_Planner_wish.params Hd.d_Planner_wish.body Hd.d_Planner_wish.scope [] [] (He.fAd K Hd.d_Planner_wish.at_) fd) :
    FnOk P w K mg base (L2N.CX P w) 6 (He.fAd K Hd.d_Planner_wish.at_) fd ["self", "caller", "contract", "most"] (lift (sp_wish K)) := by
  refine fn_okXC F sc_wish (by rintro _ _ _ _ ⟨_, _, _, _, _, _, rfl, _⟩; rfl) ?_
  intro A outer s H E ds M Q R hr ⟨a, b, bsl, ws, hist, n, eds, hne, ha, hb, ⟨z1, z2, z3, z4, z5, z6⟩, ⟨tS, tR, tW, tV⟩, pn, px⟩ tk
  subst eds
  have sc := sc_wish
  unfold wWord at pn px
  refine wss_cons ?_
  refine ws_if ?_
  refine wt_not ?_
  refine wt_val ?_
  refine we_call (ok_is_from_to C) hr ?_
  refine wa_cons ?_
  refine we_var 1 rfl ?_
  refine wa_cons ?_
  refine we_int ?_
  refine wa_cons ?_
  refine we_bin od_sub ?_
  refine we_callB cd_len (C.fr 50) ?_
  refine wa_cons ?_
  refine we_attr ?_
  refine we_var 0 rfl ?_
  refine ⟨a, _, _, _, rfl, ha, C.cls, C.naO, rfl, ?_⟩
  refine wa_nil ?_
  refine c_len rfl ?_
  refine we_int ?_
  refine b_sub ?_
  refine wa_nil ?_
  refine ⟨_, _, _, rfl, ?_⟩
  refine t_bl ?_
  cases h1 : (decide (0 ≤ n.who) && decide (n.who ≤ (bsl.length : Int) - 1)) with
  | false =>
    rw [if_pos h1] at px
    refine ⟨fun _ => ?_, fun z => (nomatch z)⟩
    refine wss_one ?_
    refine ws_raise (ex_Refused C hP) rfl tk hr ?_
    refine wa_cons ?_
    refine we_str ?_
    refine wa_nil ?_
    exact ⟨rfl, Nat.le_of_ble_eq_true rfl, fun d hd => ⟨_, Sub.refl _, px _ rfl d M (Sub.refl M) hd⟩⟩
  | true =>
  rw [if_neg (by rw [h1]; decide)] at pn px
  refine ⟨fun z => (nomatch z), fun _ => ?_⟩
  refine wss_nil ?_
  refine wss_cons ?_
  refine ws_if ?_
  refine wt_not ?_
  refine wt_val ?_
  refine we_call (ok_is_contract C) hr ?_
  refine wa_cons ?_
  refine we_var 2 rfl ?_
  refine wa_nil ?_
  refine ⟨n.hs, n.c, n.t, rfl, z5, z6, z4, tS, tR, tW, fun M1 su1 => ?_⟩
  refine t_bl ?_
  cases h2 : conB n.hs n.c n.t with
  | false =>
    rw [if_pos h2] at px
    refine ⟨fun _ => ?_, fun z => (nomatch z)⟩
    refine wss_one ?_
    refine ws_raise (ex_Refused C hP) rfl tk hr ?_
    refine wa_cons ?_
    refine we_str ?_
    refine wa_nil ?_
    exact ⟨rfl, Nat.le_of_ble_eq_true rfl, fun d hd => ⟨_, Sub.refl _, px _ rfl d M1 su1 hd⟩⟩
  | true =>
  rw [if_neg (by rw [h2]; decide)] at pn px
  refine ⟨fun z => (nomatch z), fun _ => ?_⟩
  refine wss_nil ?_
  refine wss_cons ?_
  refine ws_if ?_
  refine wt_ww ?_
  refine ww_or ?_
  refine wt_not ?_
  refine wt_val ?_
  refine we_call (ok_is_number C) hr ?_
  refine wa_cons ?_
  refine we_var 3 rfl ?_
  refine wa_nil ?_
  refine ⟨_, rfl, ?_⟩
  refine t_bl ?_
  refine ⟨fun _ => ?_, fun z => (nomatch z)⟩
  refine ww_or1 ?_
  refine wt_cmp od_lt ?_
  refine we_var 3 rfl ?_
  refine we_int ?_
  refine b_cmp ?_
  refine t_bl ?_
  refine ⟨fun h3 => ?_, fun h3 => ?_⟩
  · have h3 := of_decide_eq_true h3
    rw [if_pos h3] at px
    refine wss_one ?_
    refine ws_raise (ex_Refused C hP) rfl tk hr ?_
    refine wa_cons ?_
    refine we_str ?_
    refine wa_nil ?_
    exact ⟨rfl, Nat.le_of_ble_eq_true rfl, fun d hd => ⟨_, Sub.refl _, px _ rfl d M1 su1 hd⟩⟩
  have h3 := of_decide_eq_false h3
  rw [if_neg h3] at pn
  have pn := pn rfl
  have ha1 := su1 _ _ ha
  have hb1 := su1 _ _ hb
  refine wss_nil ?_
  refine wss_cons ?_
  refine ws_expr ?_
  refine we_append ?_
  refine we_attr ?_
  refine we_var 0 rfl ?_
  refine ⟨a, _, _, _, rfl, ha1, C.cls, C.naB, rfl, ?_⟩
  refine ⟨b, _, rfl, hb1, ?_⟩
  refine we_attr ?_
  refine we_var 0 rfl ?_
  refine ⟨a, _, _, _, rfl, ha1, C.cls, C.naW, rfl, ?_⟩
  refine ⟨_, hb1, by have : sizeLine = 16777216 := sizeLine_eq; omega, ?_⟩
  refine wss_cons ?_
  refine ws_set 4 sc.nd ?_
  refine we_tup ?_
  refine wa_cons ?_
  refine we_var 1 rfl ?_
  refine wa_cons ?_
  refine we_var 2 rfl ?_
  refine wa_cons ?_
  refine we_var 3 rfl ?_
  refine wa_nil ?_
  refine ⟨size_ok (Nat.le_of_ble_eq_true rfl), ?_⟩
  generalize hM2 : put M1 b (.lst (hist ++ [.tup (ws.map dWi)])) = M2
  have ha2 : M2 a = some (.ins (cP K) (plF (.tup bsl) (.tup (ws.map dWi)) b)) := by rw [← hM2, put_ne (Ne.symm hne)]; exact ha1
  have hb2 : M2 b = some (.lst (hist ++ [.tup (ws.map dWi)])) := by rw [← hM2, put_same]
  have k2 : ∀ x m, x ≠ b → M x = some m → M2 x = some m := fun x m hx e => by rw [← hM2, put_ne hx]; exact su1 _ _ e
  have ntb : (He.cT K qV).2 ≠ b := fun z => by rw [← z] at hb; rw [tV] at hb; cases hb
  refine wss_one ?_
  refine ws_if ?_
  refine wt_val ?_
  refine we_any [".0", "caller", "old"] ["caller"] [1] 4 (defScope (inClass (Hd.topS 64) 2)) hr (C.tb 3) rfl (C.fr 45) ?_
  refine wi_tup ?_
  refine we_attr ?_
  refine we_var 0 rfl ?_
  refine ⟨a, _, _, _, rfl, ha2, C.cls, C.naW, rfl, ?_⟩
  refine ⟨_, rfl, k2 _ _ ntb tV, ?_⟩
  refine ⟨fun i M' => M' = M2 ∧ ∀ k o, k < i → ws[k]? = some o → o.who ≠ n.who, ⟨rfl, fun k o h => absurd h (Nat.not_lt_zero _)⟩, fun _ _ _ _ => trivial, ?_, ?_⟩
  · intro i d M' hd ⟨eM, hall⟩ cl L code A' s' H' fp pn' rk
    have eM2 := eM.symm
    subst eM2
    rw [List.getElem?_map] at hd
    cases eo : ws[i]? with
    | none => rw [eo] at hd; cases hd
    | some o =>
    rw [eo] at hd
    cases hd
    refine wg_name 2 (show ([".0", "caller", "old"] : List Str).Nodup by decide +kernel) ?_
    refine ⟨slE_set rfl, fun _ => ?_, fun z => (nomatch z)⟩
    refine we_cmp od_eq ?_
    refine we_sub ?_
    refine we_var 2 rfl ?_
    refine we_int ?_
    refine i_tup (d := .int o.who) rfl ?_
    refine we_var 1 rfl ?_
    refine b_eqI ?_
    refine ⟨_, rfl, fun hbq => ?_, fun hbq => ⟨rfl, fun k o' hk ek => ?_⟩⟩
    · have hw := of_decide_eq_true hbq
      have yes : (ws.any fun o => decide (o.who = n.who)) = true := List.any_eq_true.mpr ⟨o, List.mem_of_getElem? eo, decide_eq_true hw⟩
      unfold putWi at pn
      rw [if_pos yes] at pn
      refine t_bl (k := true) ?_
      refine ⟨fun _ => ?_, fun z => (nomatch z)⟩
      refine wss_one ?_
      refine ws_fld ?_
      refine we_callT cd_tuple (C.fr 59) ?_
      refine wa_cons ?_
      refine we_lcG (own := [("old", 5)]) rfl sc.nd (blkOk_by (own := [("old", 5)]) (N := ["self", "caller", "contract", "most", "new", "old"]) (sc := defScope (inClass (Hd.topS 64) 2)) (by decide +kernel)) rfl gt_name (fun _ _ _ _ _ => pg_name (i := 5) sc.nd rfl (Or.inl rfl)) ?_
      refine wi_tup ?_
      refine we_attr ?_
      refine we_var 0 rfl ?_
      refine ⟨a, _, _, _, rfl, ha2, C.cls, C.naW, rfl, ?_⟩
      refine ⟨_, rfl, fun pl hpl => ?_⟩
      refine lcj_ix (fun k => dWi (if (ws.getD k n).who = n.who then n else ws.getD k n)) hpl (by rw [List.length_map]; omega) (fun _ _ => trivial) (fun _ _ => trivial) ?_ ?_
      · intro k dd hdd l M3 su3 hl3 s H Ca cl fp
        rw [List.getElem?_map] at hdd
        cases eo2 : ws[k]? with
        | none => rw [eo2] at hdd; cases hdd
        | some o2 =>
        rw [eo2] at hdd
        cases hdd
        have eg : ws.getD k n = o2 := by rw [List.getD_eq_getElem?_getD, eo2]; rfl
        rw [eg]
        refine we_ifexp ?_
        refine wt_cmp od_eq ?_
        refine we_sub ?_
        refine we_var 5 rfl ?_
        refine we_int ?_
        refine i_tup (d := .int o2.who) rfl ?_
        refine we_var 1 rfl ?_
        refine b_eqI ?_
        refine t_bl ?_
        refine ⟨fun hk => ?_, fun hk => ?_⟩
        · have hk := of_decide_eq_true hk
          rw [if_pos hk]
          refine we_var 4 rfl ?_
          exact ⟨rfl, Sub.refl _⟩
        · have hk := of_decide_eq_false hk
          rw [if_neg hk]
          refine we_var 5 rfl ?_
          exact ⟨rfl, Sub.refl _⟩
      intro M3 su3 hp3
      have em : (List.range (ws.map dWi).length).map (fun k => dWi (if (ws.getD k n).who = n.who then n else ws.getD k n)) = (ws.map (fun o => if o.who = n.who then n else o)).map dWi := by
        rw [List.length_map]
        apply List.ext_getElem?
        intro j
        simp only [List.getElem?_map]
        by_cases hj : j < ws.length
        · rw [List.getElem?_range hj, List.getElem?_eq_getElem hj, Option.map_some, Option.map_some, Option.map_some, List.getD_eq_getElem?_getD, List.getElem?_eq_getElem hj]
          rfl
        · rw [List.getElem?_eq_none (by simpa using hj), List.getElem?_eq_none (by omega)]
          rfl
      rw [em] at hp3
      refine wa_nil ?_
      refine c_tupL hp3 ?_
      refine we_var 0 rfl ?_
      refine ⟨a, _, _, rfl, su3 _ _ ha2, C.cls, C.naW, Nat.le_of_ble_eq_true rfl, ?_⟩
      exact ⟨_, Sub.refl _, pn _ put_same ((put_ne hne).trans (su3 _ _ hb2)) fun x m h1 h2 e => (put_ne h1).trans (su3 _ _ (k2 x m h2 e))⟩
    · rcases Nat.lt_succ_iff_lt_or_eq.mp hk with h | h
      · exact hall k o' h ek
      · subst h
        rw [eo] at ek
        cases ek
        exact of_decide_eq_false (by simpa using hbq)
  · intro M' ⟨eM, hall⟩
    have eM2 := eM.symm
    subst eM2
    have no : ¬ (ws.any fun o => decide (o.who = n.who)) = true := fun z => by
      obtain ⟨o, ho, e⟩ := List.any_eq_true.mp z
      obtain ⟨k, hk, e2⟩ := List.getElem_of_mem ho
      exact hall k o (by rw [List.length_map]; exact hk) (by rw [List.getElem?_eq_getElem hk, e2]) (of_decide_eq_true e)
    unfold putWi at pn
    rw [if_neg no] at pn
    refine t_bl (k := false) ?_
    refine ⟨fun z => (nomatch z), fun _ => ?_⟩
    refine wss_one ?_
    refine ws_fld ?_
    refine we_bin od_add ?_
    refine we_attr ?_
    refine we_var 0 rfl ?_
    refine ⟨a, _, _, _, rfl, ha2, C.cls, C.naW, rfl, ?_⟩
    refine we_tup ?_
    refine wa_cons ?_
    refine we_var 4 rfl ?_
    refine wa_nil ?_
    refine ⟨size_ok (Nat.le_of_ble_eq_true rfl), ?_⟩
    refine b_addT (by rw [List.length_map]; exact size_ok (by simp; omega)) ?_
    refine we_var 0 rfl ?_
    refine ⟨a, _, _, rfl, ha2, C.cls, C.naW, Nat.le_of_ble_eq_true rfl, ?_⟩
    refine ⟨_, Sub.refl _, pn _ ?_ ((put_ne hne).trans hb2) fun x m h1 h2 e => (put_ne h1).trans (k2 x m h2 e)⟩
    rw [put_same, List.map_append]
    rfl
theorem ok_wish (C : Ct K mg base) (hP : Pg P) : MethOk P w K mg base (L2N.CX P w) 6 (cP K) "wish" ["self", "caller", "contract", "most"] (sp_wish K) :=
  C.mt 24 34 (d := Hd.d_Planner_wish) rfl rfl rfl (fun _ _ _ _ _ _ us hl => match us, hl with | [_, _, _, _], _ => rfl) fun fd F => fn_wish C hP F
end
end K82

set_option Elab.async false
set_option linter.all false
set_option maxRecDepth 100000
set_option maxHeartbeats 4000000
namespace DL
open PySem PySem.Spec PyProof.Rows L2
section
variable {X : Cx} {H : Hp}
/-- sorted of no items -/
def BSortE : BC := fun ds M P => ∃ a, ds = [.ref a] ∧ M a = some (.lst []) ∧ ∀ p, M p = none → P (.ref p) (put M p (.lst []))
theorem cd_sortedE : CaD X (.builtin "sorted") BSortE := .of cr_sortedI fun H ds xs M P r hm ⟨a, e, h, p⟩ => by
  subst e
  obtain ⟨v, rfl, r1⟩ := one_of r
  cases r1
  obtain ⟨ys, h1, h2⟩ := hm a _ h
  cases h2
  refine ⟨a, [], rfl, SqL.of h1, fun ns' q hp _ hq => ?_⟩
  obtain rfl := List.perm_nil.mp hp
  exact fin_new hq .nil hm p
theorem vals_rev : ∀ {vs : List V} {us : List Value}, Vals vs us → Vals vs.reverse us.reverse
  | _, _, .nil => .nil
  | _, _, .cons h t => by
    rw [List.reverse_cons, List.reverse_cons]
    exact (vals_rev t).append (.cons h .nil)
end
end DL
namespace K82
open PySem PySem.Spec PyProof.Rows L2 DL
section
variable {P : Program} {w : World} {K : PySem.W.Frag} {mg : Str → Option Value} {base : Heap}
theorem Ct.kmt {CX : CXT} (C : Ct K mg base) (i j : Nat) {m : Str} {d : He.DefD} {k : Nat} {ps ks : List Str} {sp : DSp} (hd : d.at_ = (("Planner" : Str), some m)) (h1 : d.dvs K = []) (h2 : d.kws K = [])
    (b : ∀ (kV doc pm : Value) (an : Option Addr) (cdv ct : Value) (u : Value) (ws : List Value), ws.length = ks.length → bindArgs (PySem.W.fnOf d.name d.qual d.params d.body d.scope .none kV doc pm an cdv ct) ⟨[u], ks.zip ws⟩ = pure (ps.zip (u :: ws.reverse)))
    (ok : ∀ fd, FunD K d.name d.qual d.params d.body d.scope [] [] (He.fAd K d.at_) fd → FnOk P w K mg base CX k (He.fAd K d.at_) fd ps (lift sp)) (hi : Hd.fn[i]? = some d := by rfl) (hj : Hd.fa[j]? = some (He.Fa.meth "Planner" m) := by rfl) : KMethOk P w K mg base CX k (cP K) m ps ks (fun d ds => d :: ds.reverse) sp := by
  obtain ⟨fd, F⟩ := C.c.def_ i hi
  rw [h1, h2] at F
  have F2 := ok fd F
  rw [hd] at F F2
  refine ⟨_, fd, fun us ws => us ++ ws.reverse, fun vs zs => vs ++ zs.reverse, He.meth_ok (C.c.fact j hj), ⟨fun s us ws X l1 l2 => ?_, fun r1 r2 => r1.append (vals_rev r2)⟩, F2, fun H d v ds vs _ r1 r2 => .cons r1 r2.reverse⟩
  obtain ⟨oc, od, dV, kV, doc, pm, an, cdv, ct, osl, rfl, lk, hcd, hD, hK⟩ := F.ex
  match us, l1 with
  | [u], _ =>
    rcases hD with ⟨_, rfl⟩ | ⟨e, _⟩
    · exact .of_eq (b kV doc pm an cdv ct u ws l2)
    · exact absurd rfl e
def sp_missed (K : PySem.W.Frag) : DSp := fun ds M P R => ∃ (a b : Addr) (bs d : D), ds = [.ref a, d] ∧ M a = some (.ins (cP K) (plF bs (.tup []) b)) ∧ ∀ M', Sub M M' → P (.tup []) M'
theorem sc_missed : FnScope ["self", "design", "one"] ["self", "design"] (defScope (inClass (Hd.topS 64) 7)) := ⟨rfl, rfl, rfl, by decide +kernel, rfl, by decide +kernel, by decide +kernel⟩
theorem fn_missed (C : Ct K mg base) {f : Addr} {fd : FuncData} (F : FunD K Hd.d_Planner_missed.name Hd.d_Planner_missed.qual Hd.d_Planner_missed.params Hd.d_Planner_missed.body Hd.d_Planner_missed.scope [] [] f fd) : FnOk P w K mg base CX0 2 f fd ["self", "design"] (lift (sp_missed K)) := by
  refine fn_ok F sc_missed (by rintro _ _ _ _ ⟨_, _, _, _, rfl, _⟩; rfl) ?_
  intro cdv A outer s H E ds M Q R hr ⟨a, b, bs, d, eds, ha, p⟩
  subst eds
  have sc := sc_missed
  refine wss_one ?_
  refine ws_ret ?_
  refine we_callT cd_tuple (C.fr 59) ?_
  refine wa_cons ?_
  refine we_callB cd_sortedE (C.fr 56) ?_
  refine wa_cons ?_
  refine we_lcTG (own := [("one", 2)]) rfl sc.nd (blkOk_by (own := [("one", 2)]) (N := ["self", "design", "one"]) (sc := defScope (inClass (Hd.topS 64) 7)) (by decide +kernel)) rfl gt_name (fun _ _ _ _ _ => pg_name (i := 2) sc.nd rfl (Or.inl rfl)) ?_
  refine wi_tup ?_
  refine we_attr ?_
  refine we_var 0 rfl ?_
  refine ⟨a, _, _, _, rfl, ha, C.cls, C.naW, rfl, ?_⟩
  refine ⟨[], rfl, fun pl hpl => ?_⟩
  refine ⟨fun d hd => (nomatch hd), fun k M' => M' = put M pl (.lst []), rfl, fun _ _ _ _ => trivial, fun k d M' hd => (nomatch (show (none : Option D) = some d from hd)), fun M' eM => ?_⟩
  subst eM
  refine wa_nil ?_
  refine ⟨pl, rfl, put_same, fun p2 hp2 => ?_⟩
  refine wa_nil ?_
  refine c_tupL put_same ?_
  exact ⟨_, Sub.refl _, p _ ((Sub.put hpl).trans (Sub.put hp2))⟩
theorem ok_missed (C : Ct K mg base) : MethOk P w K mg base CX0 2 (cP K) "missed" ["self", "design"] (sp_missed K) :=
  C.mt 29 39 (d := Hd.d_Planner_missed) rfl rfl rfl (fun _ _ _ _ _ _ us hl => match us, hl with | [_, _], _ => rfl) fun fd F => fn_missed C F
theorem kw_missed (C : Ct K mg base) : KMethOk P w K mg base CX0 2 (cP K) "missed" ["self", "design"] ["design"] (fun d ds => d :: ds.reverse) (sp_missed K) :=
  C.kmt 29 39 (d := Hd.d_Planner_missed) rfl rfl rfl (fun _ _ _ _ _ _ u ws hl => match ws, hl with | [_], _ => rfl) fun fd F => fn_missed C F
theorem kw_wish (C : Ct K mg base) (hP : Pg P) : KMethOk P w K mg base (L2N.CX P w) 6 (cP K) "wish" ["self", "caller", "contract", "most"] ["most", "contract", "caller"] (fun d ds => d :: ds.reverse) (sp_wish K) :=
  C.kmt 24 34 (d := Hd.d_Planner_wish) rfl rfl rfl (fun _ _ _ _ _ _ u ws hl => match ws, hl with | [_, _, _], _ => rfl) fun fd F => fn_wish C hP F
theorem mk_Planner (C : Ct K mg base) (hP : Pg P) : MkOk P w K mg base (L2N.CX P w) 5 "Planner" (cP K) ["self", "bounds"] (sp_init K) := by
  obtain ⟨fd, F⟩ := C.c.def_ 23 (d := Hd.d_Planner_init) rfl
  exact ⟨_, fd, He.glo_ok C.X C.G (C.c.fact 31 (f := .glo "Planner") rfl), He.mkr_ok (C.c.fact 33 (f := .mkr "Planner") rfl), F.bindsN (fun _ _ _ _ _ _ us hl => match us, hl with | [_, _], _ => rfl), fn_init C hP F⟩
theorem kmk_Planner (C : Ct K mg base) (hP : Pg P) : KMkOk P w K mg base (L2N.CX P w) 5 "Planner" (cP K) ["self", "bounds"] ["bounds"] (fun d ds => d :: ds.reverse) (sp_init K) := by
  obtain ⟨fd, F⟩ := C.c.def_ 23 (d := Hd.d_Planner_init) rfl
  refine ⟨_, fd, fun us ws => us ++ ws.reverse, fun vs zs => vs ++ zs.reverse, He.glo_ok C.X C.G (C.c.fact 31 (f := .glo "Planner") rfl), He.mkr_ok (C.c.fact 33 (f := .mkr "Planner") rfl), ⟨fun s us ws X l1 l2 => ?_, fun r1 r2 => r1.append (vals_rev r2)⟩, fn_init C hP F, fun H d v ds vs _ r1 r2 => .cons r1 r2.reverse⟩
  obtain ⟨oc, od, dV, kV, doc, pm, an, cdv, ct, osl, rfl, lk, hcd, hD, hK⟩ := F.ex
  match us, l1, ws, l2 with
  | [u], _, [v], _ =>
    rcases hD with ⟨_, rfl⟩ | ⟨e, _⟩
    · exact .of_eq rfl
    · exact absurd rfl e
/-- the property wishes -/
theorem Ct.prop (C : Ct K mg base) : PropOf K (cP K) "wishes" (propA K "Planner" "wishes") (getA K (propA K "Planner" "wishes")) := propB_ok (by
  have z := C.s.e
  unfold Hd.ex at z
  simp only [Bool.and_eq_true] at z
  exact z.2.2.2.2.1)
theorem Ct.exm (C : Ct K mg base) : PySem.W.kitOne K (.ref (cBR K)) (.ref (He.ga K "WireError")) = some true ∧ PySem.W.kitOne K (.ref (cBR K)) (.ref (cRf K)) = some false := by
  have z := C.s.e
  unfold Hd.ex at z
  simp only [Bool.and_eq_true, decide_eq_true_eq] at z
  exact z.2.2.2.2.2.2
theorem Ct.iscBR (C : Ct K mg base) : ExcC K (cBR K) := iscB_ok C.exBR.xf (by
  have z := C.s.e
  unfold Hd.ex at z
  simp only [Bool.and_eq_true] at z
  exact z.2.2.1)
theorem fn_wishes (C : Ct K mg base) : ∃ fd : FuncData, Binds K fd ["self"] [] ∧ FnOk P w K mg base CX0 1 (getA K (propA K "Planner" "wishes")) fd ["self"] (getSp (cP K) "_wishes") := by
  have z := C.s.e
  unfold Hd.ex at z
  simp only [Bool.and_eq_true] at z
  obtain ⟨oc, od, doc, pm, cdv, ct, osl, lk, hcd⟩ := getB_fn z.2.2.2.2.1 z.2.2.2.2.2.1 (C.s.f 2 rfl)
  have sc : FnScope ["self"] ["self"] (defScope (inClass (Hd.topS 64) 1)) := ⟨rfl, rfl, rfl, by decide +kernel, rfl, by decide +kernel, by decide +kernel⟩
  refine ⟨_, ?_, fn_getter (k := 0) lk hcd sc rfl rfl C.cls C.naW⟩
  exact .all fun us hl => match us, hl with | [_], _ => rfl
end
end K82

set_option Elab.async false
set_option linter.all false
set_option maxRecDepth 100000
set_option maxHeartbeats 4000000
/-! VB: _law_same within an except suite. -/
namespace K82
open PySem PySem.Spec PyProof.Rows L2 DL
section
variable {P : Program} {w : World} {K : PySem.W.Frag} {mg : Str → Option Value} {base : Heap}
abbrev Xh (P : Program) (w : World) (K : PySem.W.Frag) (mg : Str → Option Value) (base : Heap) (f : Addr) (cdv : Value) (A : Around) (outer : List Env) (s : Shared) (H : Hp) (E : XK) (q : PySem.Addr × Obj) : Cx :=
  (L2H.cxH CX0 P w K mg base ["actual", "due", "k"] Hd.d_law_same.qual Hd.d_law_same.scope f cdv A outer s H E q).nox
theorem same_scalH (C : Ct K mg base) {f : Addr} {cdv : Value} {A : Around} {outer : List Env} {s : Shared} {H : Hp} {E : XK} {q : PySem.Addr × Obj} {d : D} {M : Mem} {D' : DE} (hd : Scal d) (kk : D'.rt (.bl true) M) :
    WSs (Xh P w K mg base f cdv A outer s H E q) (defBody (Hd.topS 69)) (start ["actual", "due", "k"] [d, d]) M D' := by
  have ht : ∃ S, TyD M d S ∧ kitB S "tuple" = some false := by
    cases hd with
    | non => exact ⟨_, .non, by decide +kernel⟩
    | bl b => exact ⟨_, .bl b, by decide +kernel⟩
    | int b => exact ⟨_, .int b, by decide +kernel⟩
    | str b => exact ⟨_, .str b, by decide +kernel⟩
  obtain ⟨S, t1, t2⟩ := ht
  refine wss_cons ?_
  refine ws_if ?_
  refine wt_val ?_
  refine we_callB cd_isi (C.fr 49) ?_
  refine wa_cons ?_
  refine we_var 1 rfl ?_
  refine wa_cons ?_
  refine we_ty (T := "tuple") (C.fr 59) ?_
  refine wa_nil ?_
  refine c_isi t1 t2 ?_
  refine t_bl ?_
  refine ⟨fun z => (nomatch z), fun _ => ?_⟩
  refine wss_nil ?_
  refine wss_cons ?_
  refine ws_if ?_
  refine wt_cmp od_is ?_
  refine we_var 1 rfl ?_
  refine we_non ?_
  refine b_is ?_
  refine t_bl ?_
  refine ⟨fun hk => ?_, fun hk => ?_⟩
  · cases hd with
    | non =>
      refine wss_one (ws_ret ?_)
      refine we_cmp od_is ?_
      refine we_var 0 rfl ?_
      refine we_non ?_
      refine b_is ?_
      exact kk
    | bl b => cases hk
    | int b => cases hk
    | str b => cases hk
  refine wss_nil ?_
  refine wss_cons ?_
  refine ws_if ?_
  refine wt_val ?_
  refine we_callB cd_isi (C.fr 49) ?_
  refine wa_cons ?_
  refine we_var 1 rfl ?_
  refine wa_cons ?_
  refine we_ty (T := "bool") (C.fr 46) ?_
  refine wa_nil ?_
  cases hd with
  | non => cases hk
  | bl b =>
    refine c_isi (.bl b) (b := true) (by decide +kernel) ?_
    refine t_bl ?_
    refine ⟨fun _ => ?_, fun z => (nomatch z)⟩
    refine wss_one (ws_ret ?_)
    refine we_and ?_
    refine we_callB cd_isi (C.fr 49) ?_
    refine wa_cons ?_
    refine we_var 0 rfl ?_
    refine wa_cons ?_
    refine we_ty (T := "bool") (C.fr 46) ?_
    refine wa_nil ?_
    refine c_isi (.bl b) (b := true) (by decide +kernel) ?_
    refine ⟨true, rfl, fun _ => ?_, fun z => (nomatch z)⟩
    refine we_one ?_
    refine we_cmp od_eq ?_
    refine we_var 0 rfl ?_
    refine we_var 1 rfl ?_
    show D'.rt (.bl (decide (b = b))) M
    rw [decide_eq_true rfl]
    exact kk
  | int b =>
    refine c_isi (.int b) (b := false) (by decide +kernel) ?_
    refine t_bl ?_
    refine ⟨fun z => (nomatch z), fun _ => ?_⟩
    refine wss_nil ?_
    refine wss_cons ?_
    refine ws_if ?_
    refine wt_val ?_
    refine we_callB cd_isi (C.fr 49) ?_
    refine wa_cons ?_
    refine we_var 1 rfl ?_
    refine wa_cons ?_
    refine we_ty (T := "str") (C.fr 57) ?_
    refine wa_nil ?_
    refine c_isi (.int b) (b := false) (by decide +kernel) ?_
    refine t_bl ?_
    refine ⟨fun z => (nomatch z), fun _ => ?_⟩
    refine wss_nil ?_
    refine wss_one (ws_ret ?_)
    refine we_and ?_
    refine we_callB cd_isi (C.fr 49) ?_
    refine wa_cons ?_
    refine we_var 0 rfl ?_
    refine wa_cons ?_
    refine we_ty (T := "int") (C.fr 48) ?_
    refine wa_nil ?_
    refine c_isi (.int b) (b := true) (by decide +kernel) ?_
    refine ⟨true, rfl, fun _ => ?_, fun z => (nomatch z)⟩
    refine we_and ?_
    refine we_not ?_
    refine we_callB cd_isi (C.fr 49) ?_
    refine wa_cons ?_
    refine we_var 0 rfl ?_
    refine wa_cons ?_
    refine we_ty (T := "bool") (C.fr 46) ?_
    refine wa_nil ?_
    refine c_isi (.int b) (b := false) (by decide +kernel) ?_
    refine ⟨false, rfl, true, rfl, fun _ => ?_, fun z => (nomatch z)⟩
    refine we_one ?_
    refine we_cmp od_eq ?_
    refine we_var 0 rfl ?_
    refine we_var 1 rfl ?_
    show D'.rt (.bl (decide (b = b))) M
    rw [decide_eq_true rfl]
    exact kk
  | str b =>
    refine c_isi (.str b) (b := false) (by decide +kernel) ?_
    refine t_bl ?_
    refine ⟨fun z => (nomatch z), fun _ => ?_⟩
    refine wss_nil ?_
    refine wss_cons ?_
    refine ws_if ?_
    refine wt_val ?_
    refine we_callB cd_isi (C.fr 49) ?_
    refine wa_cons ?_
    refine we_var 1 rfl ?_
    refine wa_cons ?_
    refine we_ty (T := "str") (C.fr 57) ?_
    refine wa_nil ?_
    refine c_isi (.str b) (b := true) (by decide +kernel) ?_
    refine t_bl ?_
    refine ⟨fun _ => ?_, fun z => (nomatch z)⟩
    refine wss_one (ws_ret ?_)
    refine we_and ?_
    refine we_callB cd_isi (C.fr 49) ?_
    refine wa_cons ?_
    refine we_var 0 rfl ?_
    refine wa_cons ?_
    refine we_ty (T := "str") (C.fr 57) ?_
    refine wa_nil ?_
    refine c_isi (.str b) (b := true) (by decide +kernel) ?_
    refine ⟨true, rfl, fun _ => ?_, fun z => (nomatch z)⟩
    refine we_one ?_
    refine we_cmp od_eq ?_
    refine we_var 0 rfl ?_
    refine we_var 1 rfl ?_
    show D'.rt (.bl (decide (b = b))) M
    rw [decide_eq_true rfl]
    exact kk
theorem okH_law_same (C : Ct K mg base) : ∀ n : Nat, DefOkH P w K mg base (n + 1) "_law_same" ["actual", "due"] (sp_law_same n)
  | 0 => by
    refine C.dfH 15 15 (d := Hd.d_law_same) rfl rfl rfl (fun _ _ _ _ _ _ us hl => match us, hl with | [_, _], _ => rfl) fun f fd F => fn_okH F sc_law_same (by rintro _ _ _ _ ⟨_, rfl, _⟩; rfl) ?_
    intro cdv Ar outer s H E q ds M Q R hr hot ⟨d, eds, hd, kk⟩
    subst eds
    exact same_scalH C hd ⟨M, Sub.refl M, kk⟩
  | n + 1 => by
    have rec_ := okH_law_same C n
    refine C.dfH 15 15 (d := Hd.d_law_same) rfl rfl rfl (fun _ _ _ _ _ _ us hl => match us, hl with | [_, _], _ => rfl) fun f fd F => fn_okH F sc_law_same (by rintro _ _ _ _ ⟨_, rfl, _⟩; rfl) ?_
    intro cdv Ar outer s H E q ds M Q R hr hot ⟨d, eds, hd, kk⟩
    subst eds
    have sc := sc_law_same
    rcases hd with hd | ⟨l, rfl, hl, hx⟩
    · exact same_scalH C hd ⟨M, Sub.refl M, kk⟩
    refine wss_cons ?_
    refine ws_if ?_
    refine wt_val ?_
    refine we_callB cd_isi (C.fr 49) ?_
    refine wa_cons ?_
    refine we_var 1 rfl ?_
    refine wa_cons ?_
    refine we_ty (T := "tuple") (C.fr 59) ?_
    refine wa_nil ?_
    refine c_isi (.tup l) (b := true) (by decide +kernel) ?_
    refine t_bl ?_
    refine ⟨fun _ => ?_, fun z => (nomatch z)⟩
    refine wss_cons ?_
    refine ws_if ?_
    refine wt_ww ?_
    refine ww_or ?_
    refine wt_not ?_
    refine wt_val ?_
    refine we_callB cd_isi (C.fr 49) ?_
    refine wa_cons ?_
    refine we_var 0 rfl ?_
    refine wa_cons ?_
    refine we_ty (T := "tuple") (C.fr 59) ?_
    refine wa_nil ?_
    refine c_isi (.tup l) (b := true) (by decide +kernel) ?_
    refine t_bl ?_
    refine ⟨fun _ => ?_, fun z => (nomatch z)⟩
    refine ww_or1 ?_
    refine wt_cmp od_ne ?_
    refine we_callB cd_len (C.fr 50) ?_
    refine wa_cons ?_
    refine we_var 0 rfl ?_
    refine wa_nil ?_
    refine c_len rfl ?_
    refine we_callB cd_len (C.fr 50) ?_
    refine wa_cons ?_
    refine we_var 1 rfl ?_
    refine wa_nil ?_
    refine c_len rfl ?_
    refine b_neI ?_
    refine t_bl ?_
    refine ⟨fun z => absurd z (by simp), fun _ => ?_⟩
    refine wss_nil ?_
    refine wss_cons ?_
    refine ws_forRH PassesOwn.never hot (C.fr 54) ?_
    refine we_callB cd_len (C.fr 50) ?_
    refine wa_cons ?_
    refine we_var 1 rfl ?_
    refine wa_nil ?_
    refine c_len rfl ?_
    refine ⟨_, rfl, by omega, by omega, ?_⟩
    refine ⟨fun i (Γ' : Sl) (M' : Mem) => (∃ x2, Γ' = [some (D.tup l), some (D.tup l), x2]) ∧ M' = M, ⟨⟨none, rfl⟩, rfl⟩, ?_, ?_⟩
    · rintro i dd _ M' hdd ⟨⟨x2, rfl⟩, eM⟩
      obtain rfl := eM.symm
      obtain ⟨hi, rfl⟩ := rg1_at hdd
      obtain ⟨y, ey⟩ : ∃ y, l[i]? = some y := ⟨_, List.getElem?_eq_getElem (by omega)⟩
      refine wg_name 2 sc.nd ?_
      refine wss_one ?_
      refine ws_if ?_
      refine wt_not ?_
      refine wt_val ?_
      refine we_callH rec_ hr hot ?_ (Nat.le_refl _)
      refine wa_cons ?_
      refine we_sub ?_
      refine we_var 0 rfl ?_
      refine we_var 2 rfl ?_
      refine i_tup (atI_nat ey) ?_
      refine wa_cons ?_
      refine we_sub ?_
      refine we_var 1 rfl ?_
      refine we_var 2 rfl ?_
      refine i_tup (atI_nat ey) ?_
      refine wa_nil ?_
      refine ⟨y, rfl, hx y (List.mem_of_getElem? ey), ?_⟩
      refine t_bl ?_
      refine ⟨fun z => (nomatch z), fun _ => ?_⟩
      refine wss_nil ?_
      exact ⟨⟨_, rfl⟩, rfl⟩
    · rintro _ M' ⟨⟨x2, rfl⟩, eM⟩
      obtain rfl := eM.symm
      refine wss_one (ws_ret ?_)
      refine we_bl ?_
      exact ⟨_, Sub.refl _, kk⟩
end
end K82

set_option Elab.async false
set_option linter.all false
set_option maxRecDepth 100000
set_option maxHeartbeats 4000000
/-! VC: the law's bounds with one wrong part: the plain part. -/
namespace K82
open PySem PySem.Spec PyProof.Rows L2 DL
def bRow (b : Bnd) : List Int := [b.lo, b.hi, b.low, b.high, b.fails, b.extra]
def rdB (b : Bnd) : Rd := .row (bRow b)
theorem dBnds_rd (l : List Bnd) : l.map dBnd = (l.map rdB).map dRd := by
  rw [List.map_map]
  rfl
theorem good_row {b : Bnd} (h : b.In 3) : ∀ k, k < 6 → badAt (bRow b) k = false := fun k hk => by
  have h1 := h.lo; have h2 := h.hi; have h3 := h.low; have h4 := h.high; have h5 := h.f0; have h6 := h.f1; have h7 := h.hi1; have h8 := h.high1; have h9 := h.ex0; have h10 := h.ex1
  unfold badAt
  rw [Bool.not_eq_false', Bool.and_eq_true, decide_eq_true_eq, decide_eq_true_eq]
  match k, hk with
  | 0, _ => show 1 ≤ b.lo ∧ b.lo ≤ 60; omega
  | 1, _ => show b.lo ≤ b.hi ∧ b.hi ≤ 60; omega
  | 2, _ => show 1 ≤ b.low ∧ b.low ≤ 60; omega
  | 3, _ => show b.low ≤ b.high ∧ b.high ≤ 60; omega
  | 4, _ => show 1 ≤ b.fails ∧ b.fails ≤ 3; omega
  | 5, _ => show 1 ≤ b.extra ∧ b.extra ≤ 3; omega
theorem good_rd {b : Bnd} (h : b.In 3) : rdBad (rdB b) = none := by
  show (if (bRow b).length ≠ 6 then some (-1) else if 0 ≤ fwp (bRow b) then some (fwp (bRow b)) else none) = none
  rw [if_neg (by simp [bRow]), fwp_none (good_row h), if_neg (by decide)]
/-- the bounds with a wrong road at c -/
theorem bent_at {bs : List Bnd} {c : Nat} {rd : Rd} {behind : List Rd} {p : Int} (hb : ∀ b ∈ bs, b.In 3) (hc : c < bs.length) (h4 : bs.length ≤ 4) (hr : rdBad rd = some p) (hl : behind.length = bs.length - (c + 1)) :
    initBad ((bs.take c).map rdB ++ [rd] ++ behind) = some (((c : Nat) : Int), p) := by
  have len : ((bs.take c).map rdB ++ [rd] ++ behind).length = bs.length := by
    simp only [List.length_append, List.length_map, List.length_take, List.length_cons, List.length_nil, hl]
    omega
  unfold initBad
  rw [if_pos (by rw [len]; omega)]
  have lt : ((bs.take c).map rdB).length = c := by rw [List.length_map, List.length_take]; omega
  refine badRs_at (by rw [len]; exact hc) ?_ fun k hk => ?_
  · rw [List.getD_eq_getElem?_getD, List.append_assoc, List.getElem?_append_right (by omega), lt, Nat.sub_self]
    exact hr
  · rw [List.getD_eq_getElem?_getD, List.append_assoc, List.getElem?_append_left (by omega), List.getElem?_map, List.getElem?_take_of_lt hk, List.getElem?_eq_getElem (by omega)]
    exact good_rd (hb _ (List.getElem_mem _))
/-- a row whose part is wrong, the parts ahead of it being a good road's -/
theorem bent_row {b : Bnd} {r : List Int} {part : Nat} (h : b.In 3) (hl : r.length = 6) (hp : part < 6) (hk : ∀ k, k < part → r.getD k 0 = (bRow b).getD k 0) (hbad : ¬ (lowAt (bRow b) part ≤ r.getD part 0 ∧ r.getD part 0 ≤ highAt part)) :
    rdBad (.row r) = some ((part : Nat) : Int) := by
  have low : ∀ k, k ≤ part → lowAt r k = lowAt (bRow b) k := fun k hkp => by
    unfold lowAt
    by_cases h1 : k = 1 ∨ k = 3
    · rw [if_pos h1, if_pos h1, hk (k - 1) (by omega)]
    · rw [if_neg h1, if_neg h1]
  have e : fwp r = ((part : Nat) : Int) := fwp_at hp (by
    unfold badAt
    rw [low part (Nat.le_refl _), Bool.not_eq_true', Bool.and_eq_false_iff, decide_eq_false_iff_not, decide_eq_false_iff_not]
    omega) fun k hk2 => by
      have := good_row h k (by omega)
      unfold badAt at this ⊢
      rw [low k (by omega), hk k hk2]
      exact this
  show (if r.length ≠ 6 then some (-1) else if 0 ≤ fwp r then some (fwp r) else none) = _
  rw [if_neg (by omega), e, if_pos (by omega)]
theorem cut_to (l : List D) (k : Nat) : DL.cutD l none (some (k : Int)) = l.take k := by
  unfold DL.cutD
  rw [HT.sIx_none, HT.sIx_nat, Nat.sub_zero, List.drop_zero]
  rcases Nat.le_total k l.length with h | h
  · rw [Nat.min_eq_left h]
  · rw [Nat.min_eq_right h, List.take_of_length_le (Nat.le_refl _), List.take_of_length_le h]
theorem cut_from (l : List D) (k : Nat) : DL.cutD l (some (k : Int)) none = l.drop k := by
  unfold DL.cutD
  rw [HT.sIx_none, HT.sIx_nat]
  rcases Nat.le_total k l.length with h | h
  · rw [Nat.min_eq_left h, List.take_of_length_le (by rw [List.length_drop]; exact Nat.le_refl _)]
  · rw [Nat.min_eq_right h, Nat.sub_self, List.take_zero, List.drop_eq_nil_of_le h]
theorem sl_tup {l : List D} {lo hi : Option Int} {M : Mem} {P : PD} (k : P (.tup (DL.cutD l lo hi)) M) : SlD (.tup l) lo hi M P := k
theorem wp_none {X : Cx} {Γ : Sl} {M : Mem} {P : Option Int → Mem → Prop} (k : P none M) : WP X none Γ M P := k
theorem bd_high (i : Nat) (hi : i < 6) : ([60, 60, 60, 60, 3, 3] : List Int)[i]? = some (highAt i) := by
  match i, hi with
  | 0, _ => rfl
  | 1, _ => rfl
  | 2, _ => rfl
  | 3, _ => rfl
  | 4, _ => rfl
  | 5, _ => rfl
theorem low_pos {b : Bnd} (h : b.In 3) (k : Nat) : 1 ≤ lowAt (bRow b) k := by
  unfold lowAt
  by_cases h1 : k = 1 ∨ k = 3
  · rw [if_pos h1]
    rcases h1 with rfl | rfl
    · exact h.lo
    · exact h.low
  · rw [if_neg h1]
    exact Int.le_refl _
theorem high_le (i : Nat) : 3 ≤ highAt i ∧ highAt i ≤ 60 := by
  unfold highAt
  split <;> omega
theorem getD_set {l : List Int} {i k : Nat} {x : Int} (hi : i < l.length) : (l.set i x).getD k 0 = if k = i then x else l.getD k 0 := by
  rw [List.getD_eq_getElem?_getD, List.getD_eq_getElem?_getD]
  by_cases h : k = i
  · subst h
    rw [List.getElem?_set_self hi, if_pos rfl]
    rfl
  · rw [List.getElem?_set_ne (Ne.symm h), if_neg h]
end K82

set_option Elab.async false
set_option linter.all false
set_option maxRecDepth 100000
set_option maxHeartbeats 8000000
/-! VD: _law_bent_bounds. -/
namespace K82
open PySem PySem.Spec PyProof.Rows L2 DL
theorem Bag.mono {B : BA} {M M' : Mem} (h : Bag M B) (q : Addr) (hq : q ∉ [B.b, B.c, B.e]) (k : ∀ x, x ≠ q → M' x = M x) : Bag M' B := h.fr fun x hx => k x fun e => hq (e ▸ hx)
section
variable {P : Program} {w : World} {K : PySem.W.Frag} {mg : Str → Option Value} {base : Heap}
def sp_bent : DSp := fun ds M P R => ∃ (B : BA) (bs : List Bnd), ds = [.ref B.b, dBnds bs] ∧ Bag M B ∧ 0 < bs.length ∧ bs.length ≤ 4 ∧ (∀ b ∈ bs, b.In 3) ∧ ∀ (rs : List Rd) (c p : Int) M', rs.length ≤ 1000 → initBad rs = some (c, p) → Bag M' B → Bf B.b M M' → P (.tup [.tup (rs.map dRd), .int c, .int p]) M'
theorem sc_bent : FnScope ["bag", "bounds", "way", "one", "most", "later", "behind", "caller", "part", "other"] ["bag", "bounds"] (defScope (Hd.topS 72)) := ⟨rfl, rfl, rfl, by decide +kernel, rfl, by decide +kernel, by decide +kernel⟩
theorem ok_bent (C : Ct K mg base) : DefOk P w K mg base CX0 3 "_law_bent_bounds" ["bag", "bounds"] sp_bent := by
  refine C.df 18 18 (d := Hd.d_law_bent_bounds) rfl rfl rfl (fun _ _ _ _ _ _ us hl => match us, hl with | [_, _], _ => rfl) fun f fd F => fn_ok F sc_bent (by rintro _ _ _ _ ⟨_, _, rfl, _⟩; rfl) ?_
  intro cdv Ar outer s H E ds M Q R hr ⟨B, bs, eds, hB, hb0, hb4, hin, kk⟩
  subst eds
  have sc := sc_bent
  refine wss_cons ?_
  refine ws_par 7 8 rfl sc.nd ?_
  refine wa_cons ?_
  refine we_call (ok_law_draw C) hr ?_
  refine wa_cons ?_
  refine we_var 0 rfl ?_
  refine wa_cons ?_
  refine we_callB cd_len (C.fr 50) ?_
  refine wa_cons ?_
  refine we_var 1 rfl ?_
  refine wa_nil ?_
  refine c_len rfl ?_
  rw [List.length_map]
  refine wa_nil ?_
  refine ⟨B, _, rfl, hB, by omega, by omega, fun c M1 c0 c1 hB1 e1 => ?_⟩
  refine wa_cons ?_
  refine we_call (ok_law_draw C) hr ?_
  refine wa_cons ?_
  refine we_var 0 rfl ?_
  refine wa_cons ?_
  refine we_int ?_
  refine wa_nil ?_
  refine ⟨B, _, rfl, hB1, by omega, by omega, fun pt M2 p0 p1 hB2 e2 => ?_⟩
  refine wa_nil ?_
  refine ⟨_, _, rfl, ?_⟩
  obtain ⟨cn, rfl⟩ : ∃ n : Nat, c = (n : Nat) := ⟨c.toNat, by omega⟩
  obtain ⟨pn, rfl⟩ : ∃ n : Nat, pt = (n : Nat) := ⟨pt.toNat, by omega⟩
  have hcn : cn < bs.length := by omega
  have hpn : pn < 6 := by omega
  obtain ⟨b, eb⟩ : ∃ b, bs[cn]? = some b := ⟨_, List.getElem?_eq_getElem hcn⟩
  have hbI := hin b (List.mem_of_getElem? eb)
  refine wss_cons ?_
  refine ws_set 2 sc.nd ?_
  refine we_call (ok_law_draw C) hr ?_
  refine wa_cons ?_
  refine we_var 0 rfl ?_
  refine wa_cons ?_
  refine we_int ?_
  refine wa_nil ?_
  refine ⟨B, _, rfl, hB2, by omega, by omega, fun way M3 w0 w1 hB3 e3 => ?_⟩
  have f3 : Bf B.b M M3 := ((Bf.of_eq e1).trans (Bf.of_eq e2)).trans (Bf.of_eq e3)
  refine wss_cons ?_
  refine ws_if ?_
  refine wt_cmp od_eq ?_
  refine we_var 2 rfl ?_
  refine we_int ?_
  refine b_eqI ?_
  refine t_bl ?_
  refine ⟨fun _ => ?_, fun _ => ?_⟩
  · refine wss_one ?_
    refine ws_ret ?_
    refine we_tup ?_
    refine wa_cons ?_
    refine we_tup ?_
    refine wa_nil ?_
    refine ⟨size_ok (Nat.le_of_ble_eq_true rfl), ?_⟩
    refine wa_cons ?_
    refine we_neg ?_
    refine we_int ?_
    refine ⟨_, rfl, ?_⟩
    refine wa_cons ?_
    refine we_neg ?_
    refine we_int ?_
    refine ⟨_, rfl, ?_⟩
    refine wa_nil ?_
    exact ⟨size_ok (Nat.le_of_ble_eq_true rfl), _, Sub.refl _, kk [] (-1) (-1) M3 (by decide) rfl hB3 f3⟩
  refine wss_nil ?_
  refine wss_cons ?_
  refine ws_if ?_
  refine wt_cmp od_eq ?_
  refine we_var 2 rfl ?_
  refine we_int ?_
  refine b_eqI ?_
  refine t_bl ?_
  refine ⟨fun _ => ?_, fun _ => ?_⟩
  · refine wss_one ?_
    refine ws_ret ?_
    refine we_tup ?_
    refine wa_cons ?_
    refine we_bin od_add ?_
    refine we_bin od_add ?_
    refine we_bin od_add ?_
    refine we_bin od_add ?_
    refine we_var 1 rfl ?_
    refine we_var 1 rfl ?_
    refine b_addT (size_ok (by simp only [List.length_map, List.length_append]; omega)) ?_
    refine we_var 1 rfl ?_
    refine b_addT (size_ok (by simp only [List.length_map, List.length_append]; omega)) ?_
    refine we_var 1 rfl ?_
    refine b_addT (size_ok (by simp only [List.length_map, List.length_append]; omega)) ?_
    refine we_var 1 rfl ?_
    refine b_addT (size_ok (by simp only [List.length_map, List.length_append]; omega)) ?_
    refine wa_cons ?_
    refine we_neg ?_
    refine we_int ?_
    refine ⟨_, rfl, ?_⟩
    refine wa_cons ?_
    refine we_neg ?_
    refine we_int ?_
    refine ⟨_, rfl, ?_⟩
    refine wa_nil ?_
    have e5 : bs.map dBnd ++ bs.map dBnd ++ bs.map dBnd ++ bs.map dBnd ++ bs.map dBnd = (bs.map rdB ++ bs.map rdB ++ bs.map rdB ++ bs.map rdB ++ bs.map rdB).map dRd := by
      simp only [List.map_append, dBnds_rd]
    rw [e5]
    refine ⟨size_ok (Nat.le_of_ble_eq_true rfl), _, Sub.refl _, kk _ (-1) (-1) M3 (by simp only [List.length_append, List.length_map]; omega) ?_ hB3 f3⟩
    unfold initBad
    rw [if_neg (by simp only [List.length_append, List.length_map]; omega)]
  refine wss_nil ?_
  refine wss_cons ?_
  refine ws_set 3 sc.nd ?_
  refine we_callT cd_list (C.fr 51) ?_
  refine wa_cons ?_
  refine we_sub ?_
  refine we_var 1 rfl ?_
  refine we_var 7 rfl ?_
  refine i_tup (d := dIs (bRow b)) (atI_nat (map_at (f := dBnd) eb)) ?_
  refine wa_nil ?_
  refine ⟨_, (bRow b).map D.int, rfl, .inl rfl, fun q hq => ?_⟩
  have hqB := hB3.ne hq
  have hqb : q ≠ B.b := fun e => hqB (by rw [e]; simp)
  have hB4 : Bag (put M3 q (.lst ((bRow b).map D.int))) B := hB3.put hB3 hq
  have f4 : Bf B.b M (put M3 q (.lst ((bRow b).map D.int))) := f3.trans (Bf.new hq)
  have cut : ∀ (rd : Rd) (p : Int), rdBad rd = some p → ∀ (behind : List Rd), behind.length = bs.length - (cn + 1) → initBad ((bs.take cn).map rdB ++ [rd] ++ behind) = some (((cn : Nat) : Int), p) := fun rd p h behind hl => bent_at hin hcn hb4 h hl
  have e_take : (bs.map dBnd).take cn = ((bs.take cn).map rdB).map dRd := by rw [← dBnds_rd, List.map_take]
  have e_drop : (bs.map dBnd).drop (cn + 1) = ((bs.drop (cn + 1)).map rdB).map dRd := by rw [← dBnds_rd, List.map_drop]
  have ldrop : ((bs.drop (cn + 1)).map rdB).length = bs.length - (cn + 1) := by rw [List.length_map, List.length_drop]
  have e_all : ∀ (rd : Rd) (behind : List Rd), ((bs.take cn).map rdB).map dRd ++ [dRd rd] ++ behind.map dRd = ((bs.take cn).map rdB ++ [rd] ++ behind).map dRd := fun rd behind => by
    simp only [List.map_append, List.map_cons, List.map_nil]
  have l_all : ∀ (rd : Rd) (behind : List Rd), behind.length = bs.length - (cn + 1) → ((bs.take cn).map rdB ++ [rd] ++ behind).length ≤ 1000 := fun rd behind hl => by
    simp only [List.length_append, List.length_map, List.length_take, List.length_cons, List.length_nil, hl]
    omega
  refine wss_cons ?_
  refine ws_if ?_
  refine wt_cmp od_eq ?_
  refine we_var 2 rfl ?_
  refine we_int ?_
  refine b_eqI ?_
  refine t_bl ?_
  refine ⟨fun _ => ?_, fun _ => ?_⟩
  · refine wss_cons ?_
    refine ws_set 3 sc.nd ?_
    refine we_callT cd_tuple (C.fr 59) ?_
    refine wa_cons ?_
    refine we_slice ?_
    refine we_var 3 rfl ?_
    refine we_int ?_
    refine ⟨5, rfl, ?_⟩
    refine ⟨_, put_same, fun q2 hq2 => ?_⟩
    refine wa_nil ?_
    refine c_tupL put_same ?_
    rw [show DL.cutD ((bRow b).map D.int) none (some 5) = [b.lo, b.hi, b.low, b.high, b.fails].map D.int from cut_to _ 5]
    refine wss_one ?_
    refine ws_ret ?_
    refine we_tup ?_
    refine wa_cons ?_
    refine we_bin od_add ?_
    refine we_bin od_add ?_
    refine we_slice ?_
    refine we_var 1 rfl ?_
    refine we_var 7 rfl ?_
    refine ⟨((cn : Nat) : Int), rfl, ?_⟩
    show DL.WE _ _ _ _ _
    rw [cut_to, e_take]
    refine we_tup ?_
    refine wa_cons ?_
    refine we_var 3 rfl ?_
    refine wa_nil ?_
    refine ⟨size_ok (Nat.le_of_ble_eq_true rfl), ?_⟩
    refine b_addT (size_ok (by simp only [List.length_map, List.length_take, List.length_cons, List.length_nil]; omega)) ?_
    refine we_slice ?_
    refine we_var 1 rfl ?_
    refine we_bin od_add ?_
    refine we_var 7 rfl ?_
    refine we_int ?_
    refine b_addI ?_
    refine ⟨((cn + 1 : Nat) : Int), by simp, ?_⟩
    refine wp_none ?_
    refine sl_tup (l := bs.map dBnd) ?_
    rw [cut_from, e_drop]
    refine b_addT (size_ok (by simp only [List.length_append, List.length_map, List.length_take, List.length_drop, List.length_cons, List.length_nil]; omega)) ?_
    refine wa_cons ?_
    refine we_var 7 rfl ?_
    refine wa_cons ?_
    refine we_neg ?_
    refine we_int ?_
    refine ⟨_, rfl, ?_⟩
    refine wa_nil ?_
    rw [show D.tup ([b.lo, b.hi, b.low, b.high, b.fails].map D.int) = dRd (.row [b.lo, b.hi, b.low, b.high, b.fails]) from rfl, e_all]
    exact ⟨size_ok (Nat.le_of_ble_eq_true rfl), _, Sub.refl _, kk _ _ (-1) _ (l_all _ _ ldrop) (cut _ (-1) rfl _ ldrop) (hB4.put hB4 hq2) (f4.trans (Bf.new hq2))⟩
  refine wss_nil ?_
  refine wss_cons ?_
  refine ws_if ?_
  refine wt_cmp od_eq ?_
  refine we_var 2 rfl ?_
  refine we_int ?_
  refine b_eqI ?_
  refine t_bl ?_
  refine ⟨fun _ => ?_, fun _ => ?_⟩
  · refine wss_one ?_
    refine ws_ret ?_
    refine we_tup ?_
    refine wa_cons ?_
    refine we_bin od_add ?_
    refine we_bin od_add ?_
    refine we_slice ?_
    refine we_var 1 rfl ?_
    refine we_var 7 rfl ?_
    refine ⟨((cn : Nat) : Int), rfl, ?_⟩
    show DL.WE _ _ _ _ _
    rw [cut_to, e_take]
    refine we_tup ?_
    refine wa_cons ?_
    refine we_non ?_
    refine wa_nil ?_
    refine ⟨size_ok (Nat.le_of_ble_eq_true rfl), ?_⟩
    refine b_addT (size_ok (by simp only [List.length_map, List.length_take, List.length_cons, List.length_nil]; omega)) ?_
    refine we_slice ?_
    refine we_var 1 rfl ?_
    refine we_bin od_add ?_
    refine we_var 7 rfl ?_
    refine we_int ?_
    refine b_addI ?_
    refine ⟨((cn + 1 : Nat) : Int), by simp, ?_⟩
    refine wp_none ?_
    refine sl_tup (l := bs.map dBnd) ?_
    rw [cut_from, e_drop]
    refine b_addT (size_ok (by simp only [List.length_append, List.length_map, List.length_take, List.length_drop, List.length_cons, List.length_nil]; omega)) ?_
    refine wa_cons ?_
    refine we_var 7 rfl ?_
    refine wa_cons ?_
    refine we_neg ?_
    refine we_int ?_
    refine ⟨_, rfl, ?_⟩
    refine wa_nil ?_
    rw [show D.non = dRd .no from rfl, e_all]
    exact ⟨size_ok (Nat.le_of_ble_eq_true rfl), _, Sub.refl _, kk _ _ (-1) _ (l_all _ _ ldrop) (cut _ (-1) rfl _ ldrop) hB4 f4⟩
  refine wss_nil ?_
  refine wss_cons ?_
  refine ws_set 4 sc.nd ?_
  refine we_lst ?_
  refine wa_cons ?_
  refine we_int ?_
  refine wa_cons ?_
  refine we_int ?_
  refine wa_cons ?_
  refine we_int ?_
  refine wa_cons ?_
  refine we_int ?_
  refine wa_cons ?_
  refine we_int ?_
  refine wa_cons ?_
  refine we_int ?_
  refine wa_nil ?_
  refine ⟨size_ok (Nat.le_of_ble_eq_true rfl), fun pm hpm => ?_⟩
  have hpmq := put_none hpm
  have hpmB := hB4.ne hpm
  show WSs _ _ _ (put (put M3 q (.lst ((bRow b).map D.int))) pm (.lst (([60, 60, 60, 60, 3, 3] : List Int).map D.int))) _
  have hB5 : Bag (put (put M3 q (.lst ((bRow b).map D.int))) pm (.lst (([60, 60, 60, 60, 3, 3] : List Int).map D.int))) B := hB4.put hB4 hpm
  have f5 := f4.trans (Bf.new (b := B.b) (m := .lst (([60, 60, 60, 60, 3, 3] : List Int).map D.int)) hpm)
  have q5 : (put (put M3 q (.lst ((bRow b).map D.int))) pm (.lst (([60, 60, 60, 60, 3, 3] : List Int).map D.int))) q = some (.lst ((bRow b).map D.int)) := (put_ne (Ne.symm hpmq.1)).trans put_same
  have m5 : (put (put M3 q (.lst ((bRow b).map D.int))) pm (.lst (([60, 60, 60, 60, 3, 3] : List Int).map D.int))) pm = some (.lst (([60, 60, 60, 60, 3, 3] : List Int).map D.int)) := put_same
  generalize put (put M3 q (.lst ((bRow b).map D.int))) pm (.lst (([60, 60, 60, 60, 3, 3] : List Int).map D.int)) = M5 at *
  refine wss_cons ?_
  refine ws_asg ?_
  refine we_sub ?_
  refine we_lst ?_
  refine wa_cons ?_
  refine we_int ?_
  refine wa_cons ?_
  refine we_bin od_add ?_
  refine we_sub ?_
  refine we_var 4 rfl ?_
  refine we_var 8 rfl ?_
  refine i_lst m5 (atI_nat (map_at (f := D.int) (bd_high pn hpn))) ?_
  refine we_int ?_
  refine b_addI ?_
  refine wa_cons ?_
  refine we_bin od_sub ?_
  refine we_int ?_
  refine we_int ?_
  refine b_sub ?_
  refine wa_nil ?_
  refine ⟨size_ok (Nat.le_of_ble_eq_true rfl), fun p6 hp6 => ?_⟩
  have hp6B := hB5.ne hp6
  have hB6 : Bag (put M5 p6 (.lst [.int 0, .int (highAt pn + 1), .int (0 - 1)])) B := hB5.put hB5 hp6
  refine we_call (ok_law_draw C) hr ?_
  refine wa_cons ?_
  refine we_var 0 rfl ?_
  refine wa_cons ?_
  refine we_int ?_
  refine wa_nil ?_
  refine ⟨B, _, rfl, hB6, by omega, by omega, fun v M7 v0 v1 hB7 e7 => ?_⟩
  have hp6b : p6 ≠ B.b := fun e => hp6B (by rw [e]; simp)
  have q7 : M7 q = some (.lst ((bRow b).map D.int)) := (e7 q hqb).trans ((put_ne (nn q5 hp6)).trans q5)
  have f7 : Bf B.b M M7 := f5.trans ((Bf.new hp6).trans (Bf.of_eq e7))
  obtain ⟨x, hx, hxb⟩ : ∃ x : Int, atI ([D.int 0, D.int (highAt pn + 1), D.int (0 - 1)]) v = some (.int x) ∧ (x = 0 ∨ x = highAt pn + 1 ∨ x = -1) := by
    obtain ⟨vn, rfl⟩ : ∃ n : Nat, v = (n : Nat) := ⟨v.toNat, by omega⟩
    match vn, v1 with
    | 0, _ => exact ⟨0, atI_nat (j := 0) rfl, .inl rfl⟩
    | 1, _ => exact ⟨highAt pn + 1, atI_nat (j := 1) rfl, .inr (.inl rfl)⟩
    | 2, _ => exact ⟨-1, atI_nat (j := 2) rfl, .inr (.inr rfl)⟩
    | n + 3, h => exfalso; omega
  refine i_lst ((e7 p6 hp6b).trans put_same) hx ?_
  refine wg_lsub ?_
  refine we_var 3 rfl ?_
  refine we_var 8 rfl ?_
  have l6 : (bRow b).length = 6 := rfl
  refine ⟨q, _, pn, rfl, q7, rfl, by rw [List.length_map, l6]; exact hpn, ?_⟩
  rw [← List.map_set]
  have hqB' : q ∉ [B.b, B.c, B.e] := hqB
  let Ok : List Int → Prop := fun r => r.length = 6 ∧ (∀ k, k < pn → r.getD k 0 = (bRow b).getD k 0) ∧ ¬ (lowAt (bRow b) pn ≤ r.getD pn 0 ∧ r.getD pn 0 ≤ highAt pn)
  have okSet : ∀ (r : List Int) (y : Int), r.length = 6 → (∀ k, k < pn → r.getD k 0 = (bRow b).getD k 0) → (y < 1 ∨ highAt pn < y ∨ y < lowAt (bRow b) pn) → Ok (r.set pn y) := fun r y hl hk hy => by
    have hp := low_pos hbI pn
    refine ⟨by rw [List.length_set]; exact hl, fun k hk2 => ?_, ?_⟩
    · rw [getD_set (by omega), if_neg (by omega)]
      exact hk k hk2
    · rw [getD_set (by omega), if_pos rfl]
      omega
  have hi3 := high_le pn
  have ok0 : Ok ((bRow b).set pn x) := okSet _ x l6 (fun _ _ => rfl) (by omega)
  have tail : ∀ (M8 : Mem) (r : List Int), Bag M8 B → Bf B.b M M8 → M8 q = some (.lst (r.map D.int)) → Ok r →
      WSs (cxOf CX0 P w K mg base ["bag", "bounds", "way", "one", "most", "later", "behind", "caller", "part", "other"] Hd.d_law_bent_bounds.qual Hd.d_law_bent_bounds.scope f cdv Ar outer s H E).nox ((defBody (Hd.topS 72)).drop 11) [some (.ref B.b), some (dBnds bs), some (.int way), some (.ref q), some (.ref pm), none, none, some (.int (cn : Nat)), some (.int (pn : Nat)), none] M8
        { nx := fun _ M' => ∃ M2, Sub M2 M' ∧ Q .non M2, rt := fun d M' => ∃ M2, Sub M2 M' ∧ Q d M2 } := fun M8 r hB8 f8 q8 ok8 => by
    refine wss_cons ?_
    refine ws_for PassesOwn.never rfl ?_
    refine wi_range2 (C.fr 54) ?_
    refine we_bin od_add ?_
    refine we_var 8 rfl ?_
    refine we_int ?_
    refine b_addI ?_
    refine we_int ?_
    refine ⟨_, _, rfl, rfl, ⟨by omega, by omega, by omega, by omega⟩, ?_⟩
    refine ⟨fun i (Γ' : Sl) M' => (∃ x5, Γ' = [some (.ref B.b), some (dBnds bs), some (.int way), some (.ref q), some (.ref pm), x5, none, some (.int (cn : Nat)), some (.int (pn : Nat)), none]) ∧ ∃ r', Bag M' B ∧ Bf B.b M M' ∧ M' q = some (.lst (r'.map D.int)) ∧ Ok r', ⟨⟨none, rfl⟩, r, hB8, f8, q8, ok8⟩, fun _ _ _ _ _ => trivial, ?_, ?_⟩
    · rintro i d _ M9 hd ⟨⟨x5, rfl⟩, r9, hB9, f9, q9, ok9⟩
      obtain ⟨hi6, rfl⟩ := rg2_at hd
      refine wg_name 5 sc.nd ?_
      refine wss_one ?_
      refine ws_asg (DL.WE.imp (P := fun d M0 => ∃ y : Int, d = .int y ∧ Bag M0 B ∧ ∀ x, x ≠ B.b → M0 x = M9 x) ?_ ?_)
      · refine we_ifexp ?_
        refine wt_cmp od_eq ?_
        refine we_call (ok_law_draw C) hr ?_
        refine wa_cons ?_
        refine we_var 0 rfl ?_
        refine wa_cons ?_
        refine we_int ?_
        refine wa_nil ?_
        refine ⟨B, _, rfl, hB9, by omega, by omega, fun v10 M10 _ _ hB10 e10 => ?_⟩
        refine we_int ?_
        refine b_eqI ?_
        refine t_bl ?_
        refine ⟨fun _ => ?_, fun _ => ?_⟩
        · refine we_int ?_
          exact ⟨0, rfl, hB10, e10⟩
        · refine we_sub ?_
          refine we_var 3 rfl ?_
          refine we_var 5 rfl ?_
          refine i_lst ((e10 q hqb).trans q9) (by rw [show ((pn : Nat) : Int) + 1 + (i : Nat) = ((pn + 1 + i : Nat) : Int) by omega]; exact atI_nat (map_at (at6 ok9.1 (by omega)))) ?_
          exact ⟨_, rfl, hB10, e10⟩
      · rintro _ M10 ⟨y, rfl, hB10, e10⟩
        refine wg_lsub ?_
        refine we_var 3 rfl ?_
        refine we_var 5 rfl ?_
        refine ⟨q, _, pn + 1 + i, rfl, (e10 q hqb).trans q9, by simp, by rw [List.length_map, ok9.1]; omega, ?_⟩
        rw [← List.map_set]
        refine ⟨⟨_, rfl⟩, r9.set (pn + 1 + i) y, hB10.put2 hqB', fun x m hx e => ?_, put_same, ⟨by rw [List.length_set]; exact ok9.1, fun k hk => ?_, ?_⟩⟩
        · by_cases hxq : x = q
          · exfalso
            subst hxq
            have := f3 x m hx e
            rw [hq] at this
            cases this
          · rw [put_ne hxq, e10 x hx]
            exact f9 x m hx e
        · rw [getD_set (by rw [ok9.1]; omega), if_neg (by omega)]
          exact ok9.2.1 k hk
        · rw [getD_set (by rw [ok9.1]; omega), if_neg (by omega)]
          exact ok9.2.2
    · rintro _ M9 ⟨⟨x5, rfl⟩, r9, hB9, f9, q9, ok9⟩
      have hrow : rdBad (.row r9) = some ((pn : Nat) : Int) := bent_row hbI ok9.1 hpn ok9.2.1 ok9.2.2
      refine wss_cons ?_
      refine ws_lcG 6 (own := [("other", 9)]) rfl sc.nd rfl (blkOk_by (own := [("other", 9)]) (N := ["bag", "bounds", "way", "one", "most", "later", "behind", "caller", "part", "other"]) (sc := defScope (Hd.topS 72)) (by decide +kernel)) rfl gt_name (fun _ _ _ _ _ => pg_name (i := 9) sc.nd rfl (Or.inl rfl)) ?_
      refine wi_tup ?_
      refine we_slice ?_
      refine we_var 1 rfl ?_
      refine we_bin od_add ?_
      refine we_var 7 rfl ?_
      refine we_int ?_
      refine b_addI ?_
      refine ⟨((cn + 1 : Nat) : Int), by simp, ?_⟩
      refine wp_none ?_
      refine sl_tup (l := bs.map dBnd) ?_
      rw [cut_from, e_drop]
      refine ⟨_, rfl, fun pl hpl => ?_⟩
      have hplb : pl ≠ B.b := fun e => hB9.ne hpl (by rw [e]; simp)
      have hplq : q ≠ pl := nn q9 hpl
      refine ⟨fun _ _ => trivial, fun k M' => ∃ rows : List Rd, rows.length = k ∧ M' pl = some (.lst (rows.map dRd)) ∧ Bag M' B ∧ M' q = some (.lst (r9.map D.int)) ∧ Bf B.b M M', ⟨[], rfl, put_same, hB9.put hB9 hpl, (put_ne hplq).trans q9, f9.trans (Bf.new hpl)⟩, fun _ _ _ _ => trivial, ?_, ?_⟩
      · rintro k d M' hd ⟨rows, hrl, hrp, hB', hq', f'⟩ s' H' Ca cl fp
        have hk : k < bs.length := by
          have := (List.getElem?_eq_some_iff.mp hd).1
          simp only [List.length_map, List.length_drop] at this
          omega
        obtain ⟨rd, rfl⟩ : ∃ rd, d = dRd rd := by
          rw [List.getElem?_map] at hd
          cases e : ((bs.drop (cn + 1)).map rdB)[k]? with
          | none => rw [e] at hd; cases hd
          | some rd => rw [e] at hd; exact ⟨rd, (Option.some.inj hd).symm⟩
        have fin : ∀ (M0 : Mem) (rd : Rd), Bag M0 B → (∀ x, x ≠ B.b → M0 x = M' x) → ∃ acc, M0 pl = some (.lst acc) ∧ acc.length < sizeLine ∧ ∃ rows : List Rd, rows.length = k + 1 ∧ (put M0 pl (.lst (acc ++ [dRd rd]))) pl = some (.lst (rows.map dRd)) ∧ Bag (put M0 pl (.lst (acc ++ [dRd rd]))) B ∧ (put M0 pl (.lst (acc ++ [dRd rd]))) q = some (.lst (r9.map D.int)) ∧ Bf B.b M (put M0 pl (.lst (acc ++ [dRd rd]))) := fun M0 rd hB0 e0 => by
          refine ⟨_, (e0 pl hplb).trans hrp, by rw [List.length_map]; have : sizeLine = 16777216 := sizeLine_eq; omega, rows ++ [rd], by rw [List.length_append, hrl]; rfl, by rw [put_same, List.map_append]; rfl, hB0.put2 (hB9.ne hpl), (put_ne hplq).trans ((e0 q hqb).trans hq'), fun x m hx e => ?_⟩
          by_cases hxp : x = pl
          · exfalso
            subst hxp
            have := f9 x m hx e
            rw [hpl] at this
            cases this
          · rw [put_ne hxp, e0 x hx]
            exact f' x m hx e
        refine we_ifexp ?_
        refine wt_cmp od_eq ?_
        refine we_call (ok_law_draw C) hr ?_
        refine wa_cons ?_
        refine we_var 0 rfl ?_
        refine wa_cons ?_
        refine we_int ?_
        refine wa_nil ?_
        refine ⟨B, _, rfl, hB', by omega, by omega, fun v10 M10 _ _ hB10 e10 => ?_⟩
        refine we_int ?_
        refine b_eqI ?_
        refine t_bl ?_
        refine ⟨fun _ => ?_, fun _ => ?_⟩
        · refine we_tup ?_
          refine wa_cons ?_
          refine we_int ?_
          refine wa_cons ?_
          refine we_int ?_
          refine wa_cons ?_
          refine we_int ?_
          refine wa_cons ?_
          refine we_int ?_
          refine wa_cons ?_
          refine we_int ?_
          refine wa_cons ?_
          refine we_int ?_
          refine wa_nil ?_
          exact ⟨size_ok (Nat.le_of_ble_eq_true rfl), fin M10 (.row [0, 0, 0, 0, 0, 0]) hB10 e10⟩
        · refine we_var 9 rfl ?_
          exact fin M10 rd hB10 e10
      · rintro M' ⟨rows, hrl, hrp, hB', hq', f'⟩
        have hrl2 : rows.length = bs.length - (cn + 1) := by
          rw [hrl, List.length_map]
          exact ldrop
        refine wss_one ?_
        refine ws_ret ?_
        refine we_tup ?_
        refine wa_cons ?_
        refine we_bin od_add ?_
        refine we_bin od_add ?_
        refine we_slice ?_
        refine we_var 1 rfl ?_
        refine we_var 7 rfl ?_
        refine ⟨((cn : Nat) : Int), rfl, ?_⟩
        refine sl_tup (l := bs.map dBnd) ?_
        rw [cut_to, e_take]
        refine we_tup ?_
        refine wa_cons ?_
        refine we_callT cd_tuple (C.fr 59) ?_
        refine wa_cons ?_
        refine we_var 3 rfl ?_
        refine wa_nil ?_
        refine c_tupL hq' ?_
        refine wa_nil ?_
        refine ⟨size_ok (Nat.le_of_ble_eq_true rfl), ?_⟩
        refine b_addT (size_ok (by simp only [List.length_map, List.length_take, List.length_cons, List.length_nil]; omega)) ?_
        refine we_callT cd_tuple (C.fr 59) ?_
        refine wa_cons ?_
        refine we_var 6 rfl ?_
        refine wa_nil ?_
        refine c_tupL hrp ?_
        refine b_addT (size_ok (by simp only [List.length_append, List.length_map, List.length_take, List.length_cons, List.length_nil]; omega)) ?_
        refine wa_cons ?_
        refine we_var 7 rfl ?_
        refine wa_cons ?_
        refine we_var 8 rfl ?_
        refine wa_nil ?_
        rw [show D.tup (r9.map D.int) = dRd (.row r9) from rfl, e_all]
        exact ⟨size_ok (Nat.le_of_ble_eq_true rfl), _, Sub.refl _, kk _ _ _ _ (l_all _ _ hrl2) (cut _ _ hrow _ hrl2) hB' f'⟩
  have mid : ∀ (M8 : Mem) (r : List Int), Bag M8 B → Bf B.b M M8 → M8 q = some (.lst (r.map D.int)) → Ok r →
      WSs (cxOf CX0 P w K mg base ["bag", "bounds", "way", "one", "most", "later", "behind", "caller", "part", "other"] Hd.d_law_bent_bounds.qual Hd.d_law_bent_bounds.scope f cdv Ar outer s H E).nox ((defBody (Hd.topS 72)).drop 10) [some (.ref B.b), some (dBnds bs), some (.int way), some (.ref q), some (.ref pm), none, none, some (.int (cn : Nat)), some (.int (pn : Nat)), none] M8
        { nx := fun _ M' => ∃ M2, Sub M2 M' ∧ Q .non M2, rt := fun d M' => ∃ M2, Sub M2 M' ∧ Q d M2 } := fun M8 r hB8 f8 q8 ok8 => by
    refine wss_cons ?_
    refine ws_if ?_
    refine wt_ww ?_
    refine ww_and ?_
    refine wt_cmp od_in ?_
    refine we_var 8 rfl ?_
    refine we_tup ?_
    refine wa_cons ?_
    refine we_int ?_
    refine wa_cons ?_
    refine we_int ?_
    refine wa_nil ?_
    refine ⟨size_ok (Nat.le_of_ble_eq_true rfl), ?_⟩
    refine ⟨.int (pn : Nat), _, [0, 2].map V.int, rfl, .inl rfl, mapM_ints [0, 2], ?_⟩
    refine t_bl (k := inV (.int (pn : Nat)) ([0, 2].map V.int)) ?_
    refine ⟨fun hk => ?_, fun hk => ⟨fun z => (nomatch z), fun _ => wss_nil (tail M8 r hB8 f8 q8 ok8)⟩⟩
    refine ww_and1 ?_
    refine wt_cmp od_eq ?_
    refine we_sub ?_
    refine we_var 3 rfl ?_
    refine we_var 8 rfl ?_
    refine i_lst q8 (atI_nat (map_at (at6 ok8.1 hpn))) ?_
    refine we_int ?_
    refine b_eqI ?_
    refine t_bl ?_
    refine ⟨fun hk => ?_, fun hk => wss_nil (tail M8 r hB8 f8 q8 ok8)⟩
    refine wss_one ?_
    refine ws_asg ?_
    refine we_int ?_
    refine wg_lsub ?_
    refine we_var 3 rfl ?_
    refine we_var 8 rfl ?_
    refine ⟨q, _, pn, rfl, q8, rfl, by rw [List.length_map, ok8.1]; exact hpn, ?_⟩
    rw [← List.map_set]
    refine tail _ (r.set pn 0) (hB8.put2 hqB') (fun x m hx e => ?_) put_same (okSet r 0 ok8.1 ok8.2.1 (.inl (by decide)))
    by_cases hxq : x = q
    · exfalso
      subst hxq
      have := f3 x m hx e
      rw [hq] at this
      cases this
    · rw [put_ne hxq]
      exact f8 x m hx e
  have put7 : ∀ (M0 : Mem) (l : List D), Bf B.b M M0 → Bf B.b M (put M0 q (.lst l)) := fun M0 l f0 x m hx e => by
    by_cases hxq : x = q
    · exfalso
      subst hxq
      have := f3 x m hx e
      rw [hq] at this
      cases this
    · rw [put_ne hxq]
      exact f0 x m hx e
  refine wss_cons ?_
  refine ws_if ?_
  refine wt_ww ?_
  refine ww_and ?_
  refine wt_cmp od_in ?_
  refine we_var 8 rfl ?_
  refine we_tup ?_
  refine wa_cons ?_
  refine we_int ?_
  refine wa_cons ?_
  refine we_int ?_
  refine wa_nil ?_
  refine ⟨size_ok (Nat.le_of_ble_eq_true rfl), ?_⟩
  refine ⟨.int (pn : Nat), _, [1, 3].map V.int, rfl, .inl rfl, mapM_ints [1, 3], ?_⟩
  refine t_bl (k := inV (.int (pn : Nat)) ([1, 3].map V.int)) ?_
  rw [inV_int]
  refine ⟨fun hk => ?_, fun hk => ⟨fun z => (nomatch z), fun _ => wss_nil (mid _ _ (hB7.put2 hqB') (put7 _ _ f7) put_same ok0)⟩⟩
  have hk := of_decide_eq_true hk
  have hk13 : pn = 1 ∨ pn = 3 := by
    simp only [List.mem_cons, List.not_mem_nil, or_false] at hk
    omega
  refine ww_and1 ?_
  refine wt_cmp od_eq ?_
  refine we_call (ok_law_draw C) hr ?_
  refine wa_cons ?_
  refine we_var 0 rfl ?_
  refine wa_cons ?_
  refine we_int ?_
  refine wa_nil ?_
  refine ⟨B, _, rfl, hB7.put2 hqB', by omega, by omega, fun v8 M8 _ _ hB8 e8 => ?_⟩
  have q8 : M8 q = some (.lst (((bRow b).set pn x).map D.int)) := (e8 q hqb).trans put_same
  have f8 : Bf B.b M M8 := (put7 _ _ f7).trans (Bf.of_eq e8)
  refine we_int ?_
  refine b_eqI ?_
  refine t_bl ?_
  refine ⟨fun _ => ?_, fun _ => wss_nil (mid M8 _ hB8 f8 q8 ok0)⟩
  refine wss_one ?_
  refine ws_asg ?_
  refine we_bin od_sub ?_
  refine we_sub ?_
  refine we_var 3 rfl ?_
  refine we_bin od_sub ?_
  refine we_var 8 rfl ?_
  refine we_int ?_
  refine b_sub ?_
  refine i_lst q8 (by rw [show ((pn : Nat) : Int) - 1 = ((pn - 1 : Nat) : Int) by omega]; exact atI_nat (map_at (at6 ok0.1 (by omega)))) ?_
  refine we_int ?_
  refine b_sub ?_
  refine wg_lsub ?_
  refine we_var 3 rfl ?_
  refine we_var 8 rfl ?_
  refine ⟨q, _, pn, rfl, q8, rfl, by rw [List.length_map, ok0.1]; exact hpn, ?_⟩
  rw [← List.map_set]
  refine mid _ _ (hB8.put2 hqB') (put7 _ _ f8) put_same (okSet _ _ ok0.1 ok0.2.1 (.inr (.inr ?_)))
  have e1 : lowAt (bRow b) pn = (bRow b).getD (pn - 1) 0 := by
    unfold lowAt
    rw [if_pos hk13]
  rw [e1, ok0.2.1 (pn - 1) (by omega)]
  omega
end
end K82

set_option Elab.async false
set_option linter.all false
set_option maxRecDepth 100000
set_option maxHeartbeats 4000000
/-! VE: _law_contract, _law_wrong_contract, _law_wish. -/
namespace K82
open PySem PySem.Spec PyProof.Rows L2 DL
/-! ### contracts that hold -/
def conL (many : Nat) (c g : Int) : List Int := (List.range many).map fun k => (((k : Nat) : Int) + 1) / c * g
theorem conL_at {many : Nat} {c g j : Int} (h0 : 0 < j) (h1 : j ≤ (many : Int)) : (conL many c g).getD (j.toNat - 1) 0 = j / c * g := by
  unfold conL
  rw [List.getD_eq_getElem?_getD, List.getElem?_map, List.getElem?_range (by omega)]
  show (((j.toNat - 1 : Nat) : Int) + 1) / c * g = _
  rw [show ((j.toNat - 1 : Nat) : Int) + 1 = j by omega]
theorem gap_con {many : Nat} {c g j : Int} (hc : 0 < c) (hm : c ≤ (many : Int)) (h0 : 0 ≤ j) : gapBy (conL many c g) c g j = j / c * g := by
  have hl : (conL many c g).length = many := by unfold conL; rw [List.length_map, List.length_range]
  unfold gapBy
  rw [hl]
  by_cases hj : j ≤ 0
  · rw [if_pos hj, show j = 0 by omega, Int.zero_ediv, Int.zero_mul]
  rw [if_neg hj]
  by_cases hj2 : j ≤ (many : Int)
  · rw [if_pos hj2, conL_at (by omega) hj2]
  rw [if_neg hj2]
  generalize hR : (j - (many : Int) + c - 1) / c = r
  have h1 := Int.mul_ediv_add_emod (j - (many : Int) + c - 1) c
  have h2 := Int.emod_nonneg (j - (many : Int) + c - 1) (show c ≠ 0 by omega)
  have h3 := Int.emod_lt_of_pos (j - (many : Int) + c - 1) hc
  rw [hR, Int.mul_comm] at h1
  generalize hrc : r * c = rc at *
  unfold gh
  have e : (j - rc) / c + r = j / c := by
    rw [← hrc, show j - r * c = j + (-r) * c by rw [Int.neg_mul]; omega, Int.add_mul_ediv_right _ _ (by omega)]
    omega
  by_cases hp : 0 < j - rc
  · rw [if_pos hp, conL_at hp (by omega), ← e, Int.add_mul]
  · have hz : j - rc = 0 := by omega
    rw [if_neg hp, ← e, hz, Int.zero_ediv, Int.zero_add, Int.zero_add]
theorem con_ok {many : Nat} {c g : Int} (hc : 0 < c) (hm : c ≤ (many : Int)) (hz : many ≤ 12) (hg : 0 ≤ g) : conB (conL many c g) c g = true := by
  have hl : (conL many c g).length = many := by unfold conL; rw [List.length_map, List.length_range]
  have div_le : ∀ a b : Int, a ≤ b → a / c * g ≤ b / c * g := fun a b h => Int.mul_le_mul_of_nonneg_right (Int.ediv_le_ediv hc h) hg
  unfold conB
  rw [Bool.and_eq_true, Bool.and_eq_true]
  refine ⟨?_, ?_, ?_⟩
  · unfold shaped
    rw [hl]
    simp only [Bool.and_eq_true, decide_eq_true_eq]
    omega
  · unfold risB
    rw [List.all_eq_true]
    intro k hk
    rw [gap_con hc hm (by omega), gap_con hc hm (by omega)]
    exact decide_eq_true (div_le _ _ (by omega))
  · unfold wideB
    rw [List.all_eq_true]
    intro i hi
    rw [List.all_eq_true]
    intro j hj
    rw [gap_con hc hm (by omega), gap_con hc hm (by omega), gap_con hc hm (by omega)]
    refine decide_eq_true ?_
    rw [← Int.add_mul]
    refine Int.mul_le_mul_of_nonneg_right ?_ hg
    have h1 := Int.mul_ediv_add_emod ((i + 1 : Nat) : Int) c
    have h2 := Int.emod_nonneg ((i + 1 : Nat) : Int) (show c ≠ 0 by omega)
    have h3 := Int.mul_ediv_add_emod ((j + 1 : Nat) : Int) c
    have h4 := Int.emod_nonneg ((j + 1 : Nat) : Int) (show c ≠ 0 by omega)
    rw [Int.le_ediv_iff_mul_le hc, Int.add_mul, Int.mul_comm _ c, Int.mul_comm _ c]
    omega
def wrongL : List (List Int × Int × Int) := [([5, 4], 1, 1), ([5, 9], 1, 3), ([5], 1, 4), ([1, 3, 4], 1, 1), ([0, 0, 1, 0], 2, 5), ([0, 7, 7], 2, 6)]
theorem wrong_no : ∀ q ∈ wrongL, conB q.1 q.2.1 q.2.2 = false ∧ q.1.length ≤ 12 ∧ 0 ≤ q.2.2 ∧ q.2.2 ≤ 8000 := by decide +kernel
section
variable {P : Program} {w : World} {K : PySem.W.Frag} {mg : Str → Option Value} {base : Heap}
def sp_contract : DSp := fun ds M P R => ∃ B : BA, ds = [.ref B.b] ∧ Bag M B ∧ ∀ (hs : List Int) (c g : Int) M', conB hs c g = true → hs.length ≤ 12 → 0 ≤ g → g ≤ 8000 → Bag M' B → Bf B.b M M' → P (dCon hs c g) M'
theorem sc_contract : FnScope ["bag", "many", "calls", "gap", "k"] ["bag"] (defScope (Hd.topS 73)) := ⟨rfl, rfl, rfl, by decide +kernel, rfl, by decide +kernel, by decide +kernel⟩
theorem ok_contract (C : Ct K mg base) : DefOk P w K mg base CX0 4 "_law_contract" ["bag"] sp_contract := by
  refine C.df 19 19 (d := Hd.d_law_contract) rfl rfl rfl (fun _ _ _ _ _ _ us hl => match us, hl with | [_], _ => rfl) fun f fd F => fn_ok F sc_contract (by rintro _ _ _ _ ⟨_, rfl, _⟩; rfl) ?_
  intro cdv Ar outer s H E ds M Q R hr ⟨B, eds, hB, kk⟩
  subst eds
  have sc := sc_contract
  refine wss_cons ?_
  refine ws_asg ?_
  refine we_tup ?_
  refine wa_cons ?_
  refine we_bin od_add ?_
  refine we_int ?_
  refine we_call (ok_law_draw C) hr ?_
  refine wa_cons ?_
  refine we_var 0 rfl ?_
  refine wa_cons ?_
  refine we_int ?_
  refine wa_nil ?_
  refine ⟨B, _, rfl, hB, by omega, by omega, fun x1 M1 x10 x11 hB1 e1 => ?_⟩
  refine b_addI ?_
  refine wa_cons ?_
  refine we_call (ok_law_pick C) hr ?_
  refine wa_cons ?_
  refine we_var 0 rfl ?_
  refine wa_cons ?_
  refine we_lst ?_
  refine wa_cons ?_
  refine we_int ?_
  refine wa_cons ?_
  refine we_int ?_
  refine wa_cons ?_
  refine we_int ?_
  refine wa_cons ?_
  refine we_int ?_
  refine wa_cons ?_
  refine we_int ?_
  refine wa_nil ?_
  refine ⟨size_ok (Nat.le_of_ble_eq_true rfl), fun p hp => ?_⟩
  refine wa_nil ?_
  have hpb : p ≠ B.b := fun e => hB1.df B.b (by simp) (e ▸ hp)
  refine ⟨B, p, [0, 1, 7, 30, 8000], rfl, hB1.put hB1 hp, hpb, put_same, by simp, by simp, fun g M2 hg hB2 f2 => ?_⟩
  have hg2 : 0 ≤ g ∧ g ≤ 8000 := by
    simp only [List.mem_cons, List.not_mem_nil, or_false] at hg
    omega
  have f2 : Bf B.b M M2 := (Bf.of_eq e1).trans ((Bf.new hp).trans f2)
  refine wa_nil ?_
  refine ⟨size_ok (Nat.le_of_ble_eq_true rfl), ?_⟩
  refine wg_tup rfl rfl ?_
  refine wgs_cons ?_
  refine wg_name 2 sc.nd ?_
  refine wgs_cons ?_
  refine wg_name 3 sc.nd ?_
  refine wgs_nil ?_
  refine wss_cons ?_
  refine ws_set 1 sc.nd ?_
  refine we_bin od_add ?_
  refine we_var 2 rfl ?_
  refine we_call (ok_law_draw C) hr ?_
  refine wa_cons ?_
  refine we_var 0 rfl ?_
  refine wa_cons ?_
  refine we_bin od_sub ?_
  refine we_int ?_
  refine we_var 2 rfl ?_
  refine b_sub ?_
  refine wa_nil ?_
  refine ⟨B, _, rfl, hB2, by omega, by omega, fun x3 M3 x30 x31 hB3 e3 => ?_⟩
  refine b_addI ?_
  obtain ⟨mn, hmn⟩ : ∃ n : Nat, 1 + x1 + x3 = (n : Nat) := ⟨(1 + x1 + x3).toNat, by omega⟩
  rw [hmn]
  refine wss_one ?_
  refine ws_ret ?_
  refine we_tup ?_
  refine wa_cons ?_
  refine we_callT cd_tuple (C.fr 59) ?_
  refine wa_cons ?_
  refine we_lcG (own := [("k", 4)]) rfl sc.nd (blkOk_by (own := [("k", 4)]) (N := ["bag", "many", "calls", "gap", "k"]) (sc := defScope (Hd.topS 73)) (by decide +kernel)) rfl gt_name (fun _ _ _ _ _ => pg_name (i := 4) sc.nd rfl (Or.inl rfl)) ?_
  refine wi_range1 (C.fr 54) ?_
  refine we_var 1 rfl ?_
  refine ⟨_, rfl, by omega, by omega, fun pl hpl => ?_⟩
  refine lcj_map (fun | .int i => .int ((i + 1) / (1 + x1) * g) | d => d) (by rw [rg1_len]; omega) (fun _ => trivial) (fun _ _ => trivial) ?_ ?_
  · intro k d hd l s' H' Ca cl fp
    obtain ⟨hk, rfl⟩ := rg1_at hd
    refine we_bin od_mul ?_
    refine we_bin od_div ?_
    refine we_bin od_add ?_
    refine we_var 4 rfl ?_
    refine we_int ?_
    refine b_addI ?_
    refine we_var 2 rfl ?_
    refine b_i (show CDiv _ _ from ⟨by omega, by omega⟩) ?_
    refine we_var 3 rfl ?_
    refine b_mul (.inr ⟨by omega, by omega⟩) ?_
    exact ⟨rfl, rfl⟩
  have em : (rg1 (mn : Nat)).map (fun | .int i => .int ((i + 1) / (1 + x1) * g) | d => d) = (conL mn (1 + x1) g).map D.int := by
    rw [rg1_map, List.map_map, List.map_map]
    unfold conL
    rw [List.map_map]
    rfl
  rw [em]
  refine wa_nil ?_
  refine c_tupL put_same ?_
  refine wa_cons ?_
  refine we_var 2 rfl ?_
  refine wa_cons ?_
  refine we_var 3 rfl ?_
  refine wa_nil ?_
  refine ⟨size_ok (Nat.le_of_ble_eq_true rfl), _, Sub.refl _, kk (conL mn (1 + x1) g) (1 + x1) g _ (con_ok (by omega) (by omega) (by omega) hg2.1) ?_ hg2.1 hg2.2 (hB3.put hB3 hpl) (f2.trans ((Bf.of_eq e3).trans (Bf.new hpl)))⟩
  unfold conL
  rw [List.length_map, List.length_range]
  omega
def sp_wrong : DSp := fun ds M P R => ∃ B : BA, ds = [.ref B.b] ∧ Bag M B ∧ ∀ (hs : List Int) (c g : Int) M', conB hs c g = false → hs.length ≤ 12 → 0 ≤ g → g ≤ 8000 → Bag M' B → Bf B.b M M' → P (dCon hs c g) M'
theorem sc_wrong : FnScope ["bag"] ["bag"] (defScope (Hd.topS 74)) := ⟨rfl, rfl, rfl, by decide +kernel, rfl, by decide +kernel, by decide +kernel⟩
end
end K82

set_option Elab.async false
set_option linter.all false
set_option maxRecDepth 100000
set_option maxHeartbeats 4000000
/-! VF: _law_wrong_contract, _law_wish. -/
namespace K82
open PySem PySem.Spec PyProof.Rows L2 DL
section
variable {P : Program} {w : World} {K : PySem.W.Frag} {mg : Str → Option Value} {base : Heap}
theorem ok_wrong (C : Ct K mg base) : DefOk P w K mg base CX0 3 "_law_wrong_contract" ["bag"] sp_wrong := by
  refine C.df 20 20 (d := Hd.d_law_wrong_contract) rfl rfl rfl (fun _ _ _ _ _ _ us hl => match us, hl with | [_], _ => rfl) fun f fd F => fn_ok F sc_wrong (by rintro _ _ _ _ ⟨_, rfl, _⟩; rfl) ?_
  intro cdv Ar outer s H E ds M Q R hr ⟨B, eds, hB, kk⟩
  subst eds
  refine wss_one ?_
  refine ws_ret ?_
  refine we_sub ?_
  refine we_lst ?_
  refine wa_cons ?_
  refine we_tup ?_
  refine wa_cons ?_
  refine we_tup ?_
  refine wa_cons ?_
  refine we_int ?_
  refine wa_cons ?_
  refine we_int ?_
  refine wa_nil ?_
  refine ⟨size_ok (Nat.le_of_ble_eq_true rfl), ?_⟩
  refine wa_cons ?_
  refine we_int ?_
  refine wa_cons ?_
  refine we_int ?_
  refine wa_nil ?_
  refine ⟨size_ok (Nat.le_of_ble_eq_true rfl), ?_⟩
  refine wa_cons ?_
  refine we_tup ?_
  refine wa_cons ?_
  refine we_tup ?_
  refine wa_cons ?_
  refine we_int ?_
  refine wa_cons ?_
  refine we_int ?_
  refine wa_nil ?_
  refine ⟨size_ok (Nat.le_of_ble_eq_true rfl), ?_⟩
  refine wa_cons ?_
  refine we_int ?_
  refine wa_cons ?_
  refine we_int ?_
  refine wa_nil ?_
  refine ⟨size_ok (Nat.le_of_ble_eq_true rfl), ?_⟩
  refine wa_cons ?_
  refine we_tup ?_
  refine wa_cons ?_
  refine we_tup ?_
  refine wa_cons ?_
  refine we_int ?_
  refine wa_nil ?_
  refine ⟨size_ok (Nat.le_of_ble_eq_true rfl), ?_⟩
  refine wa_cons ?_
  refine we_int ?_
  refine wa_cons ?_
  refine we_int ?_
  refine wa_nil ?_
  refine ⟨size_ok (Nat.le_of_ble_eq_true rfl), ?_⟩
  refine wa_cons ?_
  refine we_tup ?_
  refine wa_cons ?_
  refine we_tup ?_
  refine wa_cons ?_
  refine we_int ?_
  refine wa_cons ?_
  refine we_int ?_
  refine wa_cons ?_
  refine we_int ?_
  refine wa_nil ?_
  refine ⟨size_ok (Nat.le_of_ble_eq_true rfl), ?_⟩
  refine wa_cons ?_
  refine we_int ?_
  refine wa_cons ?_
  refine we_int ?_
  refine wa_nil ?_
  refine ⟨size_ok (Nat.le_of_ble_eq_true rfl), ?_⟩
  refine wa_cons ?_
  refine we_tup ?_
  refine wa_cons ?_
  refine we_tup ?_
  refine wa_cons ?_
  refine we_int ?_
  refine wa_cons ?_
  refine we_int ?_
  refine wa_cons ?_
  refine we_int ?_
  refine wa_cons ?_
  refine we_int ?_
  refine wa_nil ?_
  refine ⟨size_ok (Nat.le_of_ble_eq_true rfl), ?_⟩
  refine wa_cons ?_
  refine we_int ?_
  refine wa_cons ?_
  refine we_int ?_
  refine wa_nil ?_
  refine ⟨size_ok (Nat.le_of_ble_eq_true rfl), ?_⟩
  refine wa_cons ?_
  refine we_tup ?_
  refine wa_cons ?_
  refine we_tup ?_
  refine wa_cons ?_
  refine we_int ?_
  refine wa_cons ?_
  refine we_int ?_
  refine wa_cons ?_
  refine we_int ?_
  refine wa_nil ?_
  refine ⟨size_ok (Nat.le_of_ble_eq_true rfl), ?_⟩
  refine wa_cons ?_
  refine we_int ?_
  refine wa_cons ?_
  refine we_int ?_
  refine wa_nil ?_
  refine ⟨size_ok (Nat.le_of_ble_eq_true rfl), ?_⟩
  refine wa_nil ?_
  refine ⟨size_ok (Nat.le_of_ble_eq_true rfl), fun p hp => ?_⟩
  show DL.WE _ _ _ (put M p (.lst (wrongL.map fun q => dCon q.1 q.2.1 q.2.2))) _
  have hpb : p ≠ B.b := fun e => hB.df B.b (by simp) (e ▸ hp)
  refine we_call (ok_law_draw C) hr ?_
  refine wa_cons ?_
  refine we_var 0 rfl ?_
  refine wa_cons ?_
  refine we_int ?_
  refine wa_nil ?_
  refine ⟨B, _, rfl, hB.put hB hp, by omega, by omega, fun v M1 v0 v1 hB1 e1 => ?_⟩
  obtain ⟨n, rfl⟩ : ∃ n : Nat, v = (n : Nat) := ⟨v.toNat, by omega⟩
  obtain ⟨q, eq⟩ : ∃ q, wrongL[n]? = some q := ⟨_, List.getElem?_eq_getElem (show n < 6 by omega)⟩
  refine i_lst ((e1 p hpb).trans put_same) (atI_nat (map_at eq)) ?_
  obtain ⟨h1, h2, h3, h4⟩ := wrong_no q (List.mem_of_getElem? eq)
  exact ⟨_, Sub.refl _, kk _ _ _ M1 h1 h2 h3 h4 hB1 ((Bf.new hp).trans (Bf.of_eq e1))⟩
/-! ### _law_wish -/
def wText (nb : Int) (n : Wi) : Str := match wWord nb n with
  | some x => x
  | none => ""
def sp_lwish (K : PySem.W.Frag) : DSp := fun ds M P R => ∃ (a b : Addr) (bsl : List D) (ws : List Wi) (hist : List D) (n : Wi), ds = [.ref a, .int n.who, dCon n.hs n.c n.t, .int n.most] ∧ b ≠ a ∧ M a = some (.ins (cP K) (plF (.tup bsl) (.tup (ws.map dWi)) b)) ∧ M b = some (.lst hist) ∧
  (bsl.length ≤ 1000 ∧ ws.length ≤ 1000 ∧ hist.length ≤ 1000 ∧ n.hs.length ≤ 1000 ∧ -1000000 ≤ n.t ∧ n.t ≤ 1000000) ∧ (Tb K qS M ∧ Tb K qR M ∧ Tb K qW M ∧ Tb K qV M) ∧
  (wWord bsl.length n = none → ∀ M' : Mem, M' a = some (.ins (cP K) (plF (.tup bsl) (.tup ((putWi ws n).map dWi)) b)) → M' b = some (.lst (hist ++ [.tup (ws.map dWi)])) → (∀ x m, x ≠ a → x ≠ b → M x = some m → M' x = some m) → P (.str "") M') ∧
  ∀ x, wWord bsl.length n = some x → ∀ M', Sub M M' → P (.str x) M'
theorem sc_lwish : FnScope ["planner", "caller", "contract", "most", "e"] ["planner", "caller", "contract", "most"] (defScope (Hd.topS 75)) := ⟨rfl, rfl, rfl, by decide +kernel, rfl, by decide +kernel, by decide +kernel⟩
theorem ok_lwish (C : Ct K mg base) (hP : Pg P) : DefOk P w K mg base CX0 7 "_law_wish" ["planner", "caller", "contract", "most"] (sp_lwish K) := by
  refine C.df 21 21 (d := Hd.d_law_wish) rfl rfl rfl (fun _ _ _ _ _ _ us hl => match us, hl with | [_, _, _, _], _ => rfl) fun f fd F => fn_ok F sc_lwish (by rintro _ _ _ _ ⟨_, _, _, _, _, _, rfl, _⟩; rfl) ?_
  intro cdv Ar outer s H E ds M Q R hr ⟨a, b, bsl, ws, hist, n, eds, hne, ha, hb, hz, hT, pn, px⟩
  subst eds
  have sc := sc_lwish
  refine wss_cons ?_
  refine ws_try_as 4 (fun cls d Γ' M' => cls = .ref (cRf K) ∧ ∃ dd x, d = some dd ∧ wWord bsl.length n = some x ∧ Sub M M' ∧ M' dd = some (.xd (dRf x)) ∧ Γ' = [some (.ref a), some (.int n.who), some (dCon n.hs n.c n.t), some (.int n.most), none])
    rfl rfl sc.nd (x := "Refused") (c := .ref (cRf K)) ⟨rfl, by decide, .inl (He.glo_ok C.X C.G (C.c.fact 28 (f := .glo "Refused") rfl))⟩ (fun Hb pn' xe tk ps => ?_) ?_
  · refine wsst_one (wst_ifNN ?_ rfl)
    refine wet_meth (ok_wish C hP) C.cls (fun cls d M' => ∃ x dd M1, wWord bsl.length n = some x ∧ cls = .ref (cRf K) ∧ d = some dd ∧ Sub M M1 ∧ M1 dd = none ∧ M' = put M1 dd (.xd (dRf x))) (airS tk fun cls d M' ⟨x, dd, M1, h1, h2, h3, h4, h5, h6⟩ => ⟨h2, dd, x, h3, h1, by rw [h6]; exact h4.trans (Sub.put h5), by rw [h6]; exact put_same, rfl⟩) hr ?_
    refine we_var 0 rfl ?_
    refine ⟨a, _, rfl, ha, rfl, ?_⟩
    refine wa_cons ?_
    refine we_var 1 rfl ?_
    refine wa_cons ?_
    refine we_var 2 rfl ?_
    refine wa_cons ?_
    refine we_var 3 rfl ?_
    refine wa_nil ?_
    refine ⟨a, b, bsl, ws, hist, n, rfl, hne, ha, hb, hz, hT, fun hw M' h1 h2 h3 => ?_, fun x hx d M1 su hd => ⟨x, d, M1, hx, rfl, rfl, su, hd, rfl⟩⟩
    refine ⟨fun z => (nomatch z), fun _ => wss_nil ?_⟩
    refine wss_one (ws_ret ?_)
    refine we_str ?_
    exact ⟨_, Sub.refl _, pn hw M' h1 h2 h3⟩
  · rintro cls d Γ' M' ⟨rfl, dd, x, rfl, hx, su, hd, rfl⟩
    refine ⟨He.exm_ok (x := "Refused") (y := "Refused") (b := true) (C.c.fact 30 (f := .exm "Refused" "Refused" true) rfl), fun ae oe pn' hae hzn hf => ?_⟩
    refine wss_one (ws_ret ?_)
    refine we_xf (fs := dRf x) (d := .str x) C.exRf.xf (He.noat_ok (x := "Refused") (f := "word") (C.c.fact 29 (f := .noat "Refused" "word") rfl)) hzn hf ?_
    refine we_var 4 rfl ?_
    exact ⟨rfl, hd, rfl, _, Sub.refl _, px x hx M' su⟩
end
end K82

set_option Elab.async false
set_option linter.all false
set_option maxRecDepth 100000
set_option maxHeartbeats 4000000
/-! VG: a list == a list that is empty. -/
namespace DL
open PySem PySem.Spec PyProof.Rows L2
/-- x == y, two lists, y empty -/
def BEqL0 : B2 := fun x y M P => ∃ a b l, x = .ref a ∧ y = .ref b ∧ M a = some (.lst l) ∧ M b = some (.lst []) ∧ P (.bl l.isEmpty) M
theorem od_eqL0 {X : Cx} (hu : X.A.units < cLine) : OpD X (compareOp .Eq) BEqL0 := by
  intro pins s σ H x y xv yv v u M P I rx ry hx hy hm ⟨a, b, l, ex, ey, ha, hb, p⟩
  subst ex ey
  cases hx
  cases hy
  obtain ⟨xs, h1, h2⟩ := hm a _ ha
  obtain ⟨ys, h3, h4⟩ := hm b _ hb
  cases h4
  cases (show v = Value.ref a from rx)
  cases (show u = Value.ref b from ry)
  obtain ⟨us, r1, p1, _⟩ := I.list (SqL.of h1)
  obtain ⟨ws, r2, p2, _⟩ := I.list (SqL.of h3)
  cases r2
  show wpAny _ _ (richCompare .Eq (.ref a) (.ref b)) _ _ _
  cases h2 with
  | nil =>
    cases r1
    refine SeqAt.rcP_lists (e := fun _ => true) p1.isList p2.isList rfl hu (fun j h1 h2 => absurd h1 (by simp)) _ _ ?_
    exact ⟨.bl true, H, I, rfl, fin (.bl _) hm p⟩
  | cons h2 t =>
    cases r1 with
    | cons r1 rr =>
      refine SeqAt.RcAt.lists_lengths p1.isList p2.isList (by simp) hu _ _ _ _ ?_
      exact ⟨.bl false, H, I, rfl, fin (.bl _) hm p⟩
end DL

set_option Elab.async false
set_option linter.all false
set_option maxRecDepth 100000
set_option maxHeartbeats 4000000
/-! VH: the wishes' list, the plain part. -/
namespace DL
open PySem PySem.Spec PyProof.Rows L2
section
variable {X : Cx} {scope : Scope} {elt c : Expr} {P : PD}
/-- a pure filter -/
theorem lcjT_filter {ok : D → Prop} {Γ1 : D → Sl} {ds : List D} {keep : Mem → Prop} {p : Addr} {M1 : Mem} (g : D → Bool) (f : D → D) (hz : ds.length ≤ 1000000) (hk : ∀ l, keep (put M1 p (.lst l))) (hok : ∀ d ∈ ds, ok d)
    (h : ∀ (k : Nat) (d : D), ds[k]? = some d → ∀ l, Blks X scope fun Y => WT Y c (Γ1 d) (put M1 p (.lst l)) fun b M2 => b = g d ∧ M2 = put M1 p (.lst l))
    (h2 : ∀ (k : Nat) (d : D), ds[k]? = some d → ∀ l, Blks X scope fun Y => WE Y elt (Γ1 d) (put M1 p (.lst l)) fun y M3 => y = f d ∧ M3 = put M1 p (.lst l)) (q : P (.ref p) (put M1 p (.lst ((ds.filter g).map f)))) : LcJT X scope c elt ok Γ1 ds keep p M1 P := by
  refine ⟨hok, fun k M' => M' = put M1 p (.lst (((ds.take k).filter g).map f)), rfl, fun k M' _ e => by rw [e]; exact hk _, fun k d M' hd e => ?_, fun M' e => by rw [e, List.take_length]; exact q⟩
  subst e
  have tk : ds.take (k + 1) = ds.take k ++ [d] := by rw [List.take_add_one, hd]; rfl
  intro s H C cl fp
  have z := h k d hd (((ds.take k).filter g).map f) s H C cl fp
  refine ⟨fun pins s σ H I hs hm => thn (z.run pins s σ H I hs hm) fun u s' ⟨H', I', M', t, m, eb, em⟩ => ⟨H', I', M', t, m, fun e => ?_, fun e => ?_⟩⟩
  · rw [em]
    intro s H C cl fp
    refine WE.imp (h2 k d hd _ s H C cl fp) fun y M3 ⟨ey, em⟩ => ⟨((ds.take k).filter g).map f, by rw [em, put_same], ?_, ?_⟩
    · have e1 : sizeLine = 16777216 := sizeLine_eq
      have h3 := List.length_filter_le g (ds.take k)
      have h4 := List.length_take_le' k ds
      rw [List.length_map]
      omega
    · show put M3 p _ = _
      rw [em, put_put, ey, tk, List.filter_append, List.map_append]
      rw [eb] at e
      simp [e]
  · show M' = put M1 p _
    rw [em, tk, List.filter_append]
    rw [eb] at e
    simp [e]
end
end DL
namespace K82
open PySem PySem.Spec PyProof.Rows L2 DL
/-- a list of wishes as the planner keeps it -/
structure Wok (i : Nat) (ws : List Wi) : Prop where
  len : ws.length ≤ i
  nd : (ws.map (·.who)).Nodup
  hs : ∀ x ∈ ws, x.hs.length ≤ 12
theorem Wok.mono {i j : Nat} {ws : List Wi} (h : Wok i ws) (k : i ≤ j) : Wok j ws := ⟨Nat.le_trans h.len k, h.nd, h.hs⟩
theorem wi_at {ws : List Wi} {k : Nat} (h : k < ws.length) : ws[k]? = some ws[k] := List.getElem?_eq_getElem h
/-- the place of a caller's wish, if it has one -/
theorem place_none {ws : List Wi} {n : Wi} (h : ∀ k (hk : k < ws.length), ws[k].who ≠ n.who) : putWi ws n = ws ++ [n] := by
  unfold putWi
  rw [if_neg]
  intro z
  obtain ⟨o, ho, e⟩ := List.any_eq_true.mp z
  obtain ⟨k, hk, e2⟩ := List.getElem_of_mem ho
  exact h k hk (by rw [e2]; exact of_decide_eq_true e)
theorem place_at {ws : List Wi} {n : Wi} {k : Nat} (hn : (ws.map (·.who)).Nodup) (hk : k < ws.length) (h : ws[k].who = n.who) : putWi ws n = ws.take k ++ [n] ++ ws.drop (k + 1) := by
  unfold putWi
  rw [if_pos (List.any_eq_true.mpr ⟨ws[k], List.getElem_mem hk, decide_eq_true h⟩)]
  have other : ∀ j (hj : j < ws.length), j ≠ k → ws[j].who ≠ n.who := fun j hj hjk e => by
    have e2 : (ws.map (·.who))[j]'(by rw [List.length_map]; exact hj) = (ws.map (·.who))[k]'(by rw [List.length_map]; exact hk) := by
      rw [List.getElem_map, List.getElem_map, e, h]
    have pw := List.pairwise_iff_getElem.mp hn
    rcases Nat.lt_or_gt_of_ne hjk with h1 | h1
    · exact pw j k (by rw [List.length_map]; exact hj) (by rw [List.length_map]; exact hk) h1 e2
    · exact pw k j (by rw [List.length_map]; exact hk) (by rw [List.length_map]; exact hj) h1 e2.symm
  apply List.ext_getElem?
  intro j
  rw [List.getElem?_map]
  by_cases hj : j < ws.length
  · rw [wi_at hj, Option.map_some]
    by_cases hjk : j < k
    · rw [List.append_assoc, List.getElem?_append_left (by rw [List.length_take]; omega), List.getElem?_take_of_lt hjk, wi_at hj, if_neg (other j hj (by omega))]
    · by_cases e : j = k
      · subst e
        rw [if_pos h, List.append_assoc, List.getElem?_append_right (by rw [List.length_take]; omega), List.length_take, Nat.min_eq_left (by omega), Nat.sub_self]
        rfl
      · rw [if_neg (other j hj e), List.getElem?_append_right (by simp; omega), List.getElem?_drop]
        have e3 : k + 1 + (j - (ws.take k ++ [n]).length) = j := by simp; omega
        rw [e3, wi_at hj]
  · rw [List.getElem?_eq_none (by omega), List.getElem?_eq_none (by simp; omega)]
    rfl
theorem who_put {ws : List Wi} {n : Wi} (hn : (ws.map (·.who)).Nodup) : ((putWi ws n).map (·.who)).Nodup := by
  by_cases h : ∀ k (hk : k < ws.length), ws[k].who ≠ n.who
  · rw [place_none h, List.map_append, List.nodup_append]
    refine ⟨hn, by simp, fun x hx y hy => ?_⟩
    obtain ⟨o, ho, e⟩ := List.mem_map.mp hx
    obtain ⟨k, hk, e2⟩ := List.getElem_of_mem ho
    have ey : y = n.who := by simpa using hy
    rw [ey, ← e, ← e2]
    exact h k hk
  · have h' : ∃ k, ∃ hk : k < ws.length, ws[k].who = n.who := by
      apply Classical.byContradiction
      intro z
      exact h fun k hk e => z ⟨k, hk, e⟩
    unfold putWi
    obtain ⟨k, hk, e⟩ := h'
    rw [if_pos (List.any_eq_true.mpr ⟨ws[k], List.getElem_mem hk, decide_eq_true e⟩), List.map_map]
    have e2 : ws.map ((·.who) ∘ fun o => if o.who = n.who then n else o) = ws.map (·.who) := List.map_congr_left fun o _ => by
      show (if o.who = n.who then n else o).who = o.who
      split <;> simp_all
    rw [e2]
    exact hn
theorem put_ok {ws : List Wi} {n : Wi} {i : Nat} (h : Wok i ws) (hn : n.hs.length ≤ 12) : Wok (i + 1) (putWi ws n) := by
  refine ⟨?_, who_put h.nd, fun x hx => ?_⟩
  · have := h.len
    unfold putWi
    split
    · rw [List.length_map]; omega
    · rw [List.length_append, List.length_cons, List.length_nil]; omega
  · unfold putWi at hx
    split at hx
    · obtain ⟨o, ho, e⟩ := List.mem_map.mp hx
      rw [← e]
      split
      · exact hn
      · exact h.hs o ho
    · rcases List.mem_append.mp hx with hx | hx
      · exact h.hs x hx
      · rw [List.mem_singleton.mp hx]
        exact hn
/-- the places the law finds -/
def plc (ws : List Wi) (who : Int) : List Nat := (List.range ws.length).filter fun k => match ws[k]? with
  | some o => decide (o.who = who)
  | none => false
theorem plc_nil {ws : List Wi} {n : Wi} (h : plc ws n.who = []) : putWi ws n = ws ++ [n] := place_none fun k hk e => by
  have := List.filter_eq_nil_iff.mp h k (List.mem_range.mpr hk)
  rw [wi_at hk] at this
  exact this (decide_eq_true e)
theorem plc_cons {ws : List Wi} {n : Wi} {k : Nat} {r : List Nat} (hn : (ws.map (·.who)).Nodup) (h : plc ws n.who = k :: r) : k < ws.length ∧ putWi ws n = ws.take k ++ [n] ++ ws.drop (k + 1) := by
  have hm : k ∈ plc ws n.who := by rw [h]; exact List.mem_cons_self
  obtain ⟨h1, h2⟩ := List.mem_filter.mp hm
  have hk := List.mem_range.mp h1
  rw [wi_at hk] at h2
  exact ⟨hk, place_at hn hk (of_decide_eq_true h2)⟩
theorem deep_ws {i : Nat} {ws : List Wi} (h : Wok i ws) (hi : i ≤ 1000) : deep 4 (.tup (ws.map dWi)) := by
  have sc : ∀ (n : Nat) (z : Int), deep n (.int z) := fun n z => by
    cases n with
    | zero => exact .int z
    | succ n => exact .inl (.int z)
  have hl := h.len
  refine .inr ⟨_, rfl, by rw [List.length_map]; omega, fun d hd => ?_⟩
  obtain ⟨x, hx, rfl⟩ := List.mem_map.mp hd
  have hhs := h.hs x hx
  refine .inr ⟨_, rfl, Nat.le_of_ble_eq_true rfl, fun d hd => ?_⟩
  simp only [List.mem_cons, List.not_mem_nil, or_false] at hd
  rcases hd with rfl | rfl | rfl
  · exact sc _ _
  · refine .inr ⟨_, rfl, Nat.le_of_ble_eq_true rfl, fun d hd => ?_⟩
    simp only [List.mem_cons, List.not_mem_nil, or_false] at hd
    rcases hd with rfl | rfl | rfl
    · refine .inr ⟨_, rfl, by rw [List.length_map]; omega, fun d hd => ?_⟩
      obtain ⟨z, _, rfl⟩ := List.mem_map.mp hd
      exact sc _ _
    · exact sc _ _
    · exact sc _ _
  · exact sc _ _
end K82

set_option Elab.async false
set_option linter.all false
set_option maxRecDepth 100000
set_option maxHeartbeats 8000000
/-! VI: the law's loop, its later part. -/
namespace K82
open PySem PySem.Spec PyProof.Rows L2 DL
abbrev NN : List Str := ["script", "bag", "bounds", "bent", "caller", "part", "e", "planner", "wishes", "elder", "other", "way", "design", "trip", "who", "contract", "most", "due", "places", "row", "k"]
theorem sc_law : FnScope NN ["script"] (defScope (Hd.topS 76)) := ⟨rfl, rfl, rfl, by decide +kernel, rfl, by decide +kernel, by decide +kernel⟩
abbrev LX (P : Program) (w : World) (K : PySem.W.Frag) (mg : Str → Option Value) (base : Heap) (f : Addr) (cdv : Value) (s : Shared) (H : Hp) (E : XK) : Cx := (cxOf CX0 P w K mg base NN Hd.d_law.qual Hd.d_law.scope f cdv callerA [] s H E).nox
def forB : Stmt → List Stmt
  | .For _ _ b _ _ => b
  | _ => []
abbrev lb : List Stmt := forB ((defBody (Hd.topS 76)).getD 8 (.Pass ⟨0, 0, 0, 0⟩))
/-- addresses: the two planners, their lists, the law's list -/
structure AA where
  (a1 b1 a2 b2 el : Addr)
def AA.l (A : AA) : List Addr := [A.a1, A.b1, A.a2, A.b2, A.el]
def TbAll (K : PySem.W.Frag) (M : Mem) : Prop := Tb K qS M ∧ Tb K qR M ∧ Tb K qW M ∧ Tb K qV M
/-- what stands in the loop -/
structure Good (K : PySem.W.Frag) (M : Mem) (B : BA) (A : AA) (bs : List Bnd) (ws : List Wi) (hist : List (List Wi)) : Prop where
  bag : Bag M B
  tb : TbAll K M
  nd : A.l.Nodup
  nb : ∀ x ∈ A.l, x ∉ [B.b, B.c, B.e]
  p1 : M A.a1 = some (.ins (cP K) (plF (dBnds bs) (.tup (ws.map dWi)) A.b1))
  h1 : M A.b1 = some (.lst (hist.map fun w => .tup (w.map dWi)))
  p2 : M A.a2 = some (.ins (cP K) (plF (dBnds bs) (.tup []) A.b2))
  h2 : M A.b2 = some (.lst [])
  el : M A.el = some (.lst (hist.map fun w => .tup (w.map dWi)))
def LG (d0 x3 x4 x5 x12 : Option D) (B : BA) (A : AA) (bs : List Bnd) (ws : List Wi) (way trip who con most due x18 x19 : Option D) : Sl :=
  [d0, some (.ref B.b), some (dBnds bs), x3, x4, x5, none, some (.ref A.a1), some (.tup (ws.map dWi)), some (.ref A.el), some (.ref A.a2), way, x12, trip, who, con, most, due, x18, x19, none]
theorem TbAll.mono {K : PySem.W.Frag} {M M' : Mem} (t : TbAll K M) (k : ∀ x, M x = some .tbl → M' x = some .tbl) : TbAll K M' := ⟨k _ t.1, k _ t.2.1, k _ t.2.2.1, k _ t.2.2.2⟩
section
variable {K : PySem.W.Frag} {M M' : Mem} {B : BA} {A : AA} {bs : List Bnd} {ws : List Wi} {hist : List (List Wi)}
theorem Good.bf (g : Good K M B A bs ws hist) (f : Bf B.b M M') (h : Bag M' B) : Good K M' B A bs ws hist := by
  have nb : ∀ x ∈ A.l, x ≠ B.b := fun x hx e => g.nb x hx (by rw [e]; simp)
  refine ⟨h, g.tb.mono fun x e => f x _ (fun z => ?_) e, g.nd, g.nb, f _ _ (nb _ (by simp [AA.l])) g.p1, f _ _ (nb _ (by simp [AA.l])) g.h1, f _ _ (nb _ (by simp [AA.l])) g.p2, f _ _ (nb _ (by simp [AA.l])) g.h2, f _ _ (nb _ (by simp [AA.l])) g.el⟩
  obtain ⟨i, v, n, m, k, cs, es, e1, _⟩ := g.bag
  rw [z, e1] at e
  cases e
theorem Good.sub (g : Good K M B A bs ws hist) (s : Sub M M') : Good K M' B A bs ws hist := g.bf (Bf.sub s) (g.bag.sub s)
end
section
variable {P : Program} {w : World} {K : PySem.W.Frag} {mg : Str → Option Value} {base : Heap} {f : Addr} {cdv : Value} {s : Shared} {H : Hp} {E : XK}
/-- the planners' wishes are looked at -/
theorem law_chk (C : Ct K mg base) (hr : Room 8 (LX P w K mg base f cdv s H E).A) {D' : DE} {d0 x3 x4 x5 x12 way trip who con most due x18 x19 : Option D} {B : BA} {A : AA} {bs : List Bnd} {ws : List Wi} {hist : List (List Wi)} {M : Mem} {i : Nat}
    (g : Good K M B A bs ws hist) (hw : Wok i ws) (hi : i ≤ 1000) (k : D'.nx (LG d0 x3 x4 x5 x12 B A bs ws way trip who con most due x18 x19) M) : WSs (LX P w K mg base f cdv s H E) (lb.drop 7) (LG d0 x3 x4 x5 x12 B A bs ws way trip who con most due x18 x19) M D' := by
  obtain ⟨fw, bw, Fw⟩ := fn_wishes (P := P) (w := w) (mg := mg) (base := base) C
  refine wss_one ?_
  refine ws_if ?_
  refine wt_ww ?_
  refine ww_or ?_
  refine wt_not ?_
  refine wt_val ?_
  refine we_call (ok_law_same C 4) hr ?_
  refine wa_cons ?_
  refine we_prop C.cls C.prop Fw bw hr ?_
  refine we_var 7 rfl ?_
  refine ⟨A.a1, _, _, rfl, g.p1, rfl, ?_⟩
  refine wa_cons ?_
  refine we_var 8 rfl ?_
  refine wa_nil ?_
  refine ⟨_, rfl, deep_ws hw hi, ?_⟩
  refine t_bl ?_
  refine ⟨fun _ => ?_, fun z => (nomatch z)⟩
  refine ww_or1 ?_
  refine wt_not ?_
  refine wt_val ?_
  refine we_call (ok_law_same C 1) hr ?_
  refine wa_cons ?_
  refine we_prop C.cls C.prop Fw bw hr ?_
  refine we_var 10 rfl ?_
  refine ⟨A.a2, _, _, rfl, g.p2, rfl, ?_⟩
  refine wa_cons ?_
  refine we_tup ?_
  refine wa_nil ?_
  refine ⟨size_ok (Nat.le_of_ble_eq_true rfl), ?_⟩
  refine wa_nil ?_
  refine ⟨_, rfl, .inr ⟨[], rfl, Nat.le_of_ble_eq_true rfl, fun x hx => (nomatch hx)⟩, ?_⟩
  refine t_bl ?_
  refine ⟨fun z => (nomatch z), fun _ => ?_⟩
  exact wss_nil k
end
end K82

set_option Elab.async false
set_option linter.all false
set_option maxRecDepth 100000
set_option maxHeartbeats 8000000
/-! VJ: the law's loop: a wish, an undo. -/
namespace K82
open PySem PySem.Spec PyProof.Rows L2 DL
theorem word_ne {nb : Int} {n : Wi} {x : Str} (h : wWord nb n = some x) : x ≠ "" := by
  unfold wWord at h
  split at h
  · cases h; decide
  · split at h
    · cases h; decide
    · split at h
      · cases h; decide
      · cases h
theorem plc_map (ws : List Wi) (who : Int) : ((rg1 (ws.length : Nat)).filter fun d => match d with
    | .int k => (match ws[k.toNat]? with
      | some o => decide (o.who = who)
      | none => false)
    | _ => false).map (fun d => d) = (plc ws who).map fun k => D.int ((k : Nat) : Int) := by
  rw [List.map_id', rg1_map, List.map_map, List.filter_map]
  unfold plc
  rfl
section
variable {P : Program} {w : World} {K : PySem.W.Frag} {mg : Str → Option Value} {base : Heap} {f : Addr} {cdv : Value} {s : Shared} {H : Hp} {E : XK}
theorem law_tail (C : Ct K mg base) (hP : Pg P) (hr : Room 8 (LX P w K mg base f cdv s H E).A) {D' : DE} {d0 x3 x4 x5 x12 trip x18 x19 : Option D} {way : Int} {n : Wi} {B : BA} {A : AA} {bs : List Bnd} {ws : List Wi} {hist : List (List Wi)} {M : Mem} {i : Nat}
    (g : Good K M B A bs ws hist) (hw : ∀ z ∈ ws :: hist, Wok i z) (hi : i ≤ 500) (hh : hist.length ≤ i) (hbs : bs.length ≤ 4) (hn : n.hs.length ≤ 12 ∧ 0 ≤ n.t ∧ n.t ≤ 8000)
    (fin : ∀ (ws' : List Wi) (hist' : List (List Wi)) (M' : Mem) (y18 y19 : Option D), Good K M' B A bs ws' hist' → (∀ z ∈ ws' :: hist', Wok (i + 1) z) → hist'.length ≤ i + 1 → D'.nx (LG d0 x3 x4 x5 x12 B A bs ws' (some (.int way)) trip (some (.int n.who)) (some (dCon n.hs n.c n.t)) (some (.int n.most)) (some (.str (wText bs.length n))) y18 y19) M') :
    WSs (LX P w K mg base f cdv s H E) (lb.drop 6) (LG d0 x3 x4 x5 x12 B A bs ws (some (.int way)) trip (some (.int n.who)) (some (dCon n.hs n.c n.t)) (some (.int n.most)) (some (.str (wText bs.length n))) x18 x19) M D' := by
  have sc := sc_law
  have nd := g.nd
  simp only [AA.l, List.nodup_cons, List.mem_cons, List.not_mem_nil, or_false, not_or] at nd
  obtain ⟨⟨n1, n2, n3, n4⟩, ⟨n5, n6, n7⟩, ⟨n8, n9⟩, n10, _⟩ := nd
  have notB : ∀ x ∈ A.l, ∀ (M' : Mem) (m : MO), Bag M' B → Bag (put M' x m) B := fun x hx M' m h => h.put2 (g.nb x hx)
  have hw0 := hw ws List.mem_cons_self
  have done_ : ∀ (ws' : List Wi) (hist' : List (List Wi)) (M' : Mem) (y18 y19 : Option D), Good K M' B A bs ws' hist' → (∀ z ∈ ws' :: hist', Wok (i + 1) z) → hist'.length ≤ i + 1 → WSs (LX P w K mg base f cdv s H E) (lb.drop 7) (LG d0 x3 x4 x5 x12 B A bs ws' (some (.int way)) trip (some (.int n.who)) (some (dCon n.hs n.c n.t)) (some (.int n.most)) (some (.str (wText bs.length n))) y18 y19) M' D' :=
    fun ws' hist' M' y18 y19 g' hw' hh' => law_chk C hr g' (hw' ws' List.mem_cons_self) (by omega) (fin ws' hist' M' y18 y19 g' hw' hh')
  have up : ∀ z ∈ ws :: hist, Wok (i + 1) z := fun z hz => (hw z hz).mono (Nat.le_succ i)
  refine wss_cons ?_
  refine ws_if ?_
  refine wt_cmp od_lt ?_
  refine we_var 11 rfl ?_
  refine we_int ?_
  refine b_cmp ?_
  refine t_bl ?_
  refine ⟨fun _ => ?_, fun _ => ?_⟩
  ·
    refine wss_cons ?_
    refine ws_if ?_
    refine wt_not ?_
    refine wt_val ?_
    refine we_call (ok_law_same C 0) hr ?_
    refine wa_cons ?_
    refine we_call (ok_lwish C hP) hr ?_
    refine wa_cons ?_
    refine we_var 7 rfl ?_
    refine wa_cons ?_
    refine we_var 14 rfl ?_
    refine wa_cons ?_
    refine we_var 15 rfl ?_
    refine wa_cons ?_
    refine we_var 16 rfl ?_
    refine wa_nil ?_
    have hl0 := hw0.len
    have e17 : (LG d0 x3 x4 x5 x12 B A bs ws (some (.int way)) trip (some (.int n.who)) (some (dCon n.hs n.c n.t)) (some (.int n.most)) (some (.str (wText bs.length n))) x18 x19)[17]? = some (some (.str (wText bs.length n))) := rfl
    refine ⟨A.a1, A.b1, bs.map dBnd, ws, _, n, rfl, Ne.symm n1, g.p1, g.h1, ⟨by rw [List.length_map]; omega, by omega, by rw [List.length_map]; omega, by omega, by omega, by omega⟩, g.tb, ?_, ?_⟩
    · rw [List.length_map]
      intro hword M' q1 q2 q3
      have ew : wText bs.length n = "" := by unfold wText; rw [hword]
      have e17 := e17.trans (by rw [ew])
      refine wa_cons ?_
      refine we_var 17 e17 ?_
      refine wa_nil ?_
      refine ⟨_, rfl, .str "", ?_⟩
      refine t_bl ?_
      refine ⟨fun z => (nomatch z), fun _ => ?_⟩
      refine wss_nil ?_
      refine wss_one ?_
      refine ws_if ?_
      refine wt_cmp od_eq ?_
      refine we_var 17 e17 ?_
      refine we_str ?_
      refine b_eqS ?_
      refine t_bl (k := true) ?_
      refine ⟨fun _ => ?_, fun z => (nomatch z)⟩
      have qel : M' A.el = some (.lst (hist.map fun w => .tup (w.map dWi))) := q3 _ _ (Ne.symm n4) (Ne.symm n7) g.el
      refine wss_cons ?_
      refine ws_expr ?_
      refine we_append ?_
      refine we_var 9 rfl ?_
      refine ⟨A.el, _, rfl, qel, ?_⟩
      refine we_var 8 rfl ?_
      refine ⟨_, qel, by rw [List.length_map]; have : sizeLine = 16777216 := sizeLine_eq; omega, ?_⟩
      generalize hM1 : put M' A.el (.lst ((hist.map fun w => D.tup (w.map dWi)) ++ [.tup (ws.map dWi)])) = M1
      have k1 : ∀ x, x ≠ A.el → M1 x = M' x := fun x hx => by rw [← hM1, put_ne hx]
      have eL : (hist.map fun w => D.tup (w.map dWi)) ++ [.tup (ws.map dWi)] = (hist ++ [ws]).map fun w => D.tup (w.map dWi) := by rw [List.map_append]; rfl
      have g1 : Good K M1 B A bs (putWi ws n) (hist ++ [ws]) := by
        have bagM : Bag M' B := g.bag.fr fun x hx => by
          have hne1 : x ≠ A.a1 := fun e => g.nb A.a1 (by simp [AA.l]) (e ▸ hx)
          have hne2 : x ≠ A.b1 := fun e => g.nb A.b1 (by simp [AA.l]) (e ▸ hx)
          cases e : M x with
          | none => exact absurd e (g.bag.df x hx)
          | some u => exact q3 x u hne1 hne2 e
        refine ⟨by rw [← hM1]; exact notB A.el (by simp [AA.l]) _ _ bagM, g.tb.mono fun x e => ?_, g.nd, g.nb, (k1 _ n4).trans q1, ?_, (k1 _ n9).trans (q3 _ _ (Ne.symm n2) (Ne.symm n5) g.p2), (k1 _ n10).trans (q3 _ _ (Ne.symm n3) (Ne.symm n6) g.h2), ?_⟩
        · have h1 : x ≠ A.a1 := fun z => by rw [z, g.p1] at e; cases e
          have h2 : x ≠ A.b1 := fun z => by rw [z, g.h1] at e; cases e
          have h3 : x ≠ A.el := fun z => by rw [z, g.el] at e; cases e
          exact (k1 x h3).trans (q3 x _ h1 h2 e)
        · rw [← eL]
          exact (k1 _ n7).trans q2
        · rw [← eL, ← hM1, put_same]
      have hw1 : ∀ z ∈ putWi ws n :: (hist ++ [ws]), Wok (i + 1) z := fun z hz => by
        rcases List.mem_cons.mp hz with e | hz
        · subst e; exact put_ok hw0 hn.1
        · rcases List.mem_append.mp hz with hz | hz
          · exact up z (List.mem_cons_of_mem _ hz)
          · rw [List.mem_singleton.mp hz]; exact up ws List.mem_cons_self
      have hh1 : (hist ++ [ws]).length ≤ i + 1 := by rw [List.length_append, List.length_cons, List.length_nil]; omega
      refine wss_cons ?_
      refine ws_lcTG 18 (own := [("k", 20)]) rfl sc.nd rfl (blkOk_by (own := [("k", 20)]) (N := NN) (sc := defScope (Hd.topS 76)) (by decide +kernel)) rfl gt_name (fun _ _ _ _ _ => pg_name (i := 20) sc.nd rfl (Or.inl rfl)) ?_
      refine wi_range1 (C.fr 54) ?_
      refine we_callB cd_len (C.fr 50) ?_
      refine wa_cons ?_
      refine we_var 8 rfl ?_
      refine wa_nil ?_
      refine c_len rfl ?_
      rw [List.length_map]
      refine ⟨_, rfl, by omega, by omega, fun pp hpp => ?_⟩
      refine lcjT_filter (fun d => match d with
        | .int k => (match ws[k.toNat]? with
          | some o => decide (o.who = n.who)
          | none => false)
        | _ => false) (fun d => d) (by rw [rg1_len]; omega) (fun _ => trivial) (fun _ _ => trivial) ?_ ?_ ?_
      · intro k d hd l s' H' Ca cl fp
        obtain ⟨hk, rfl⟩ := rg1_at hd
        have hk' : k < ws.length := by omega
        refine wt_cmp od_eq ?_
        refine we_sub ?_
        refine we_sub ?_
        refine we_var 8 rfl ?_
        refine we_var 20 rfl ?_
        refine i_tup (d := dWi ws[k]) (atI_nat (map_at (wi_at hk'))) ?_
        refine we_int ?_
        refine i_tup (d := .int ws[k].who) rfl ?_
        refine we_var 14 rfl ?_
        refine b_eqI ?_
        refine t_bl ?_
        refine ⟨?_, rfl⟩
        show decide (ws[k].who = n.who) = (match ws[((k : Nat) : Int).toNat]? with
          | some o => decide (o.who = n.who)
          | none => false)
        rw [Int.toNat_natCast, wi_at hk']
      · intro k d hd l s' H' Ca cl fp
        refine we_var 20 rfl ?_
        exact ⟨rfl, rfl⟩
      rw [plc_map]
      have gs := g1.sub (Sub.put (m := .lst ((plc ws n.who).map fun k => D.int ((k : Nat) : Int))) hpp)
      refine wss_cons ?_
      refine ws_set 19 sc.nd ?_
      refine we_tup ?_
      refine wa_cons ?_
      refine we_var 14 rfl ?_
      refine wa_cons ?_
      refine we_var 15 rfl ?_
      refine wa_cons ?_
      refine we_var 16 rfl ?_
      refine wa_nil ?_
      refine ⟨size_ok (Nat.le_of_ble_eq_true rfl), ?_⟩
      have hplc : (plc ws n.who).length ≤ ws.length := by
        unfold plc
        have := List.length_filter_le (fun k => match ws[k]? with | some o => decide (o.who = n.who) | none => false) (List.range ws.length)
        rw [List.length_range] at this
        exact this
      have last : ∀ M2, Good K M2 B A bs (putWi ws n) (hist ++ [ws]) → (∀ d, d = D.tup ((putWi ws n).map dWi) → WSs (LX P w K mg base f cdv s H E) (lb.drop 7) (LG d0 x3 x4 x5 x12 B A bs (putWi ws n) (some (.int way)) trip (some (.int n.who)) (some (dCon n.hs n.c n.t)) (some (.int n.most)) (some (.str (wText bs.length n))) (some (.ref pp)) (some (dWi n))) M2 D') := fun M2 g2 d _ => done_ _ _ M2 _ _ g2 hw1 hh1
      have hw1len := (hw1 _ List.mem_cons_self).len
      refine wss_one ?_
      refine ws_set 8 sc.nd (DL.WE.imp (P := fun d M2 => d = D.tup ((putWi ws n).map dWi) ∧ Good K M2 B A bs (putWi ws n) (hist ++ [ws])) ?_ ?_)
      · refine we_ifexp ?_
        refine wt_cmp (od_eqL0 (by have := hr.un; omega)) ?_
        refine we_var 18 rfl ?_
        refine we_lst ?_
        refine wa_nil ?_
        refine ⟨size_ok (Nat.le_of_ble_eq_true rfl), fun p3 hp3 => ?_⟩
        refine ⟨pp, p3, _, rfl, rfl, (put_ne (nn put_same hp3)).trans put_same, put_same, ?_⟩
        have gs2 := gs.sub (Sub.put (m := .lst []) hp3)
        refine t_bl ?_
        cases hpl : plc ws n.who with
        | nil =>
          rw [hpl] at gs2
          refine ⟨fun _ => ?_, fun z => (nomatch z)⟩
          refine we_bin od_add ?_
          refine we_var 8 rfl ?_
          refine we_tup ?_
          refine wa_cons ?_
          refine we_var 19 rfl ?_
          refine wa_nil ?_
          refine ⟨size_ok (Nat.le_of_ble_eq_true rfl), ?_⟩
          refine b_addT (by rw [List.length_map]; exact size_ok (by simp; omega)) ?_
          refine ⟨?_, gs2⟩
          rw [plc_nil hpl, List.map_append]
          rfl
        | cons k0 r0 =>
          rw [hpl] at gs2
          obtain ⟨hk0, eput⟩ := plc_cons hw0.nd hpl
          refine ⟨fun z => (nomatch z), fun _ => ?_⟩
          have ap : (put (put M1 pp (.lst ((k0 :: r0).map fun k => D.int ((k : Nat) : Int)))) p3 (.lst [])) pp = some (.lst ((k0 :: r0).map fun k => D.int ((k : Nat) : Int))) := (put_ne (nn put_same hp3 |> fun z => by rw [hpl] at hp3; exact nn put_same hp3)).trans put_same
          refine we_bin od_add ?_
          refine we_bin od_add ?_
          refine we_slice ?_
          refine we_var 8 rfl ?_
          refine we_sub ?_
          refine we_var 18 rfl ?_
          refine we_int ?_
          refine i_lst ap (d := .int (k0 : Nat)) (atI_nat (j := 0) rfl) ?_
          refine ⟨((k0 : Nat) : Int), rfl, ?_⟩
          refine sl_tup (l := ws.map dWi) ?_
          rw [cut_to]
          refine we_tup ?_
          refine wa_cons ?_
          refine we_var 19 rfl ?_
          refine wa_nil ?_
          refine ⟨size_ok (Nat.le_of_ble_eq_true rfl), ?_⟩
          refine b_addT (size_ok (by simp only [List.length_take, List.length_map, List.length_cons, List.length_nil]; omega)) ?_
          refine we_slice ?_
          refine we_var 8 rfl ?_
          refine we_bin od_add ?_
          refine we_sub ?_
          refine we_var 18 rfl ?_
          refine we_int ?_
          refine i_lst ap (d := .int (k0 : Nat)) (atI_nat (j := 0) rfl) ?_
          refine we_int ?_
          refine b_addI ?_
          refine ⟨((k0 + 1 : Nat) : Int), by simp, ?_⟩
          refine wp_none ?_
          refine sl_tup (l := ws.map dWi) ?_
          rw [cut_from]
          refine b_addT (size_ok (by simp only [List.length_append, List.length_take, List.length_drop, List.length_map, List.length_cons, List.length_nil]; omega)) ?_
          refine ⟨?_, gs2⟩
          rw [eput, List.map_append, List.map_append, List.map_take, List.map_drop]
          rfl
      · rintro d M2 ⟨ed, g2⟩
        subst ed
        exact last M2 g2 _ rfl
    · rw [List.length_map]
      intro x hword M' su
      have ew : wText bs.length n = x := by unfold wText; rw [hword]
      have e17 := e17.trans (by rw [ew])
      refine wa_cons ?_
      refine we_var 17 e17 ?_
      refine wa_nil ?_
      refine ⟨_, rfl, .str x, ?_⟩
      refine t_bl ?_
      refine ⟨fun z => (nomatch z), fun _ => ?_⟩
      refine wss_nil ?_
      refine wss_one ?_
      refine ws_if ?_
      refine wt_cmp od_eq ?_
      refine we_var 17 e17 ?_
      refine we_str ?_
      refine b_eqS ?_
      rw [decide_eq_false (word_ne hword)]
      refine t_bl (k := false) ?_
      refine ⟨fun z => (nomatch z), fun _ => ?_⟩
      exact wss_nil (done_ ws hist M' x18 x19 (g.sub su) up (by omega))
  ·
    refine wss_one ?_
    refine ws_if ?_
    refine wt_cmp (od_eqL0 (by have := hr.un; omega)) ?_
    refine we_var 9 rfl ?_
    refine we_lst ?_
    refine wa_nil ?_
    refine ⟨size_ok (Nat.le_of_ble_eq_true rfl), fun p3 hp3 => ?_⟩
    have gs := g.sub (Sub.put (m := .lst []) hp3)
    refine ⟨A.el, p3, _, rfl, rfl, (put_ne (nn g.el hp3)).trans g.el, put_same, ?_⟩
    refine t_bl ?_
    generalize put M p3 (.lst []) = M1 at gs ⊢
    rcases List.eq_nil_or_concat hist with eh | ⟨hl, y, eh⟩
    · subst eh
      refine ⟨fun _ => ?_, fun z => (nomatch z)⟩
      refine wss_one ?_
      refine ws_try_as 6 (fun cls d Γ' M' => cls = .ref (cRf K) ∧ ∃ dd, d = some dd ∧ Sub M1 M' ∧ M' dd = some (.xd (dRf "undo")) ∧ Γ' = LG d0 x3 x4 x5 x12 B A bs ws (some (.int way)) trip (some (.int n.who)) (some (dCon n.hs n.c n.t)) (some (.int n.most)) (some (.str (wText bs.length n))) x18 x19)
        rfl rfl sc.nd (x := "Refused") (c := .ref (cRf K)) ⟨rfl, by decide, .inl (He.glo_ok C.X C.G (C.c.fact 28 (f := .glo "Refused") rfl))⟩ (fun Hb pn' xe tk ps => ?_) ?_
      · refine wsst_cons (wst_expr ?_)
        refine wet_meth0 (ok_undo C hP) C.cls (fun cls d M' => ∃ dd, cls = .ref (cRf K) ∧ d = some dd ∧ M1 dd = none ∧ M' = put M1 dd (.xd (dRf "undo"))) (airS tk fun cls d M' ⟨dd, h2, h3, h5, h6⟩ => ⟨h2, dd, h3, by rw [h6]; exact Sub.put h5, by rw [h6]; exact put_same, rfl⟩) hr ?_
        refine we_var 7 rfl ?_
        refine ⟨A.a1, _, rfl, gs.p1, rfl, ?_⟩
        refine ⟨A.a1, A.b1, _, _, [], rfl, Ne.symm n1, gs.p1, gs.h1, fun l y e => absurd e (by simp), fun _ d hd => ⟨d, rfl, rfl, hd, rfl⟩⟩
      · rintro cls d Γ' M' ⟨rfl, dd, rfl, su, hd, rfl⟩
        refine ⟨He.exm_ok (x := "Refused") (y := "Refused") (b := true) (C.c.fact 30 (f := .exm "Refused" "Refused" true) rfl), fun ae oe pn' hae hzn hf => ?_⟩
        refine wss_one ?_
        refine ws_if ?_
        refine wt_not ?_
        refine wt_val ?_
        refine we_callH (okH_law_same C 0) (j := 8) ⟨hr.dp, hr.un⟩ (hot_suite hzn hf) ?_
        refine wa_cons ?_
        refine we_xf (fs := dRf "undo") (d := .str "undo") C.exRf.xf (He.noat_ok (x := "Refused") (f := "word") (C.c.fact 29 (f := .noat "Refused" "word") rfl)) hzn hf ?_
        refine we_var 6 rfl ?_
        refine ⟨rfl, hd, rfl, ?_⟩
        refine wa_cons ?_
        refine we_str ?_
        refine wa_nil ?_
        refine ⟨_, rfl, .str _, ?_⟩
        refine t_bl ?_
        refine ⟨fun z => (nomatch z), fun _ => ?_⟩
        refine wss_nil ?_
        exact done_ ws [] M' x18 x19 (gs.sub su) up (by omega)
    · have eh : hist = hl ++ [y] := by simpa using eh
      subst eh
      have eL : (hl ++ [y]).map (fun w => D.tup (w.map dWi)) = (hl.map fun w => D.tup (w.map dWi)) ++ [.tup (y.map dWi)] := by rw [List.map_append]; rfl
      refine ⟨fun z => absurd z (by simp), fun _ => ?_⟩
      refine wss_cons ?_
      refine ws_if ?_
      refine wt_cmp od_isnot ?_
      refine DL.WE.ofT fun Hb => ?_
      refine wet_meth0 (ok_undo C hP) C.cls R0 air0 hr ?_
      refine we_var 7 rfl ?_
      refine ⟨A.a1, _, rfl, gs.p1, rfl, ?_⟩
      refine ⟨A.a1, A.b1, _, _, _, rfl, Ne.symm n1, gs.p1, gs.h1, fun l y' e M' q1 q2 q3 => ?_, fun e => absurd e (by simp)⟩
      rw [eL] at e
      obtain ⟨el1, el2⟩ := List.append_inj' e rfl
      have el3 : D.tup (y.map dWi) = y' := by simpa using el2
      subst el1 el3
      refine we_non ?_
      refine b_isnot ?_
      refine t_bl ?_
      refine ⟨fun z => (nomatch z), fun _ => ?_⟩
      refine wss_nil ?_
      have qel := (q3 A.el (Ne.symm n4) (Ne.symm n7)).trans gs.el
      refine wss_one ?_
      refine ws_set 8 sc.nd ?_
      refine we_pop ?_
      refine we_var 9 rfl ?_
      refine ⟨A.el, _, .tup (y.map dWi), rfl, qel, by rw [eL]; simp, ?_⟩
      rw [eL, List.dropLast_concat]
      refine done_ y hl _ x18 x19 ⟨notB A.el (by simp [AA.l]) _ _ (gs.bag.fr fun x hx => q3 x (fun e => g.nb A.a1 (by simp [AA.l]) (e ▸ hx)) fun e => g.nb A.b1 (by simp [AA.l]) (e ▸ hx)), gs.tb.mono fun x e => ?_, g.nd, g.nb, (put_ne n4).trans q1, (put_ne n7).trans q2, (put_ne n9).trans ((q3 _ (Ne.symm n2) (Ne.symm n5)).trans gs.p2), (put_ne n10).trans ((q3 _ (Ne.symm n3) (Ne.symm n6)).trans gs.h2), put_same⟩ (fun z hz => up z (List.mem_cons_of_mem _ (by
        rcases List.mem_cons.mp hz with e | hz
        · subst e; simp
        · exact List.mem_append_left _ hz))) (by rw [List.length_append] at hh; simp at hh; omega)
      have h1 : x ≠ A.a1 := fun z => by rw [z, gs.p1] at e; cases e
      have h2 : x ≠ A.b1 := fun z => by rw [z, gs.h1] at e; cases e
      have h3 : x ≠ A.el := fun z => by rw [z, gs.el] at e; cases e
      exact (put_ne h3).trans ((q3 x h1 h2).trans e)
end
end K82

set_option Elab.async false
set_option linter.all false
set_option maxRecDepth 100000
set_option maxHeartbeats 8000000
/-! VK: the law's loop. -/
namespace K82
open PySem PySem.Spec PyProof.Rows L2 DL
def whoB (nb : Int) (who : Int) : Bool := decide (0 ≤ who) && decide (who ≤ nb - 1)
def wT (a b : Bool) (m : Int) : Str := if a = false then ("caller" : Str) else if b = false then ("contract" : Str) else if m < 1 then ("most" : Str) else ("" : Str)
theorem wText_eq (nb : Int) (n : Wi) : wText nb n = wT (whoB nb n.who) (conB n.hs n.c n.t) n.most := by
  unfold wText wWord whoB wT
  generalize (decide (0 ≤ n.who) && decide (n.who ≤ nb - 1)) = a
  generalize conB n.hs n.c n.t = b
  cases a <;> cases b <;> by_cases h : n.most < 1 <;> simp [h]
theorem wT_empty {a b : Bool} {m : Int} (h : wT a b m = "") : a = true ∧ b = true := by
  unfold wT at h
  cases a with
  | false => exact absurd (show ("caller" : Str) = "" from h) (by decide)
  | true =>
    cases b with
    | false => exact absurd (show ("contract" : Str) = "" from h) (by decide)
    | true => exact ⟨rfl, rfl⟩
theorem wT_keep {a b : Bool} {m m' : Int} (hm : 1 ≤ m) (h : ¬ wT a b m = "") : wT a b m' = wT a b m := by
  unfold wT at h ⊢
  cases a with
  | false => rfl
  | true =>
    cases b with
    | false => rfl
    | true =>
      exfalso
      apply h
      show (if m < 1 then _ else _) = _
      rw [if_neg (by omega)]
theorem wT_keep2 {a b' : Bool} {m m' : Int} (hm : 1 ≤ m) (h : ¬ wT a true m = "") : wT a b' m' = wT a true m := by
  unfold wT at h ⊢
  cases a with
  | false => rfl
  | true =>
    exfalso
    apply h
    show (if m < 1 then _ else _) = _
    rw [if_neg (by omega)]
section
variable {P : Program} {w : World} {K : PySem.W.Frag} {mg : Str → Option Value} {base : Heap} {f : Addr} {cdv : Value} {s : Shared} {H : Hp} {E : XK}
theorem law_body (C : Ct K mg base) (hP : Pg P) (hr : Room 8 (LX P w K mg base f cdv s H E).A) {D' : DE} {d0 x3 x4 x5 x12 trip xw y14 y15 y16 y17 x18 x19 : Option D} {B : BA} {A : AA} {bs : List Bnd} {ws : List Wi} {hist : List (List Wi)} {M : Mem} {i : Nat}
    (g : Good K M B A bs ws hist) (hw : ∀ z ∈ ws :: hist, Wok i z) (hi : i ≤ 500) (hh : hist.length ≤ i) (hb0 : 0 < bs.length) (hbs : bs.length ≤ 4)
    (fin : ∀ (ws' : List Wi) (hist' : List (List Wi)) (M' : Mem) (z11 z14 z15 z16 z17 y18 y19 : Option D), Good K M' B A bs ws' hist' → (∀ z ∈ ws' :: hist', Wok (i + 1) z) → hist'.length ≤ i + 1 → D'.nx (LG d0 x3 x4 x5 x12 B A bs ws' z11 trip z14 z15 z16 z17 y18 y19) M') :
    WSs (LX P w K mg base f cdv s H E) lb (LG d0 x3 x4 x5 x12 B A bs ws xw trip y14 y15 y16 y17 x18 x19) M D' := by
  have sc := sc_law
  have c6 : ∀ (M : Mem) (way : Int) (n : Wi) (due : Str), Good K M B A bs ws hist → (n.hs.length ≤ 12 ∧ 0 ≤ n.t ∧ n.t ≤ 8000) → due = wText bs.length n →
      WSs (LX P w K mg base f cdv s H E) (lb.drop 6) (LG d0 x3 x4 x5 x12 B A bs ws (some (.int way)) trip (some (.int n.who)) (some (dCon n.hs n.c n.t)) (some (.int n.most)) (some (.str due)) x18 x19) M D' := fun M way n due g hn ed => by
    subst ed
    exact law_tail C hP hr g hw hi hh hbs hn fun ws' hist' M' y18 y19 g' hw' hh' => fin ws' hist' M' _ _ _ _ _ y18 y19 g' hw' hh'
  have c5 : ∀ (M : Mem) (way : Int) (n : Wi) (due : Str), Good K M B A bs ws hist → 0 ≤ way → (n.hs.length ≤ 12 ∧ 0 ≤ n.t ∧ n.t ≤ 8000) → 1 ≤ n.most → due = wText bs.length n →
      WSs (LX P w K mg base f cdv s H E) (lb.drop 5) (LG d0 x3 x4 x5 x12 B A bs ws (some (.int way)) trip (some (.int n.who)) (some (dCon n.hs n.c n.t)) (some (.int n.most)) (some (.str due)) x18 x19) M D' := fun M way n due g hway hn hm ed => by
    refine wss_cons ?_
    refine ws_if ?_
    refine wt_ww ?_
    refine ww_and ?_
    refine wt_cmp od_in ?_
    refine we_var 11 rfl ?_
    refine we_tup ?_
    refine wa_cons ?_
    refine we_int ?_
    refine wa_cons ?_
    refine we_int ?_
    refine wa_cons ?_
    refine we_int ?_
    refine wa_nil ?_
    refine ⟨size_ok (Nat.le_of_ble_eq_true rfl), ?_⟩
    refine ⟨.int way, _, [0, 1, 2].map V.int, rfl, .inl rfl, mapM_ints [0, 1, 2], ?_⟩
    refine t_bl (k := inV (.int way) ([0, 1, 2].map V.int)) ?_
    refine ⟨fun hk => ?_, fun hk => ⟨fun z => (nomatch z), fun _ => wss_nil (c6 M way n due g hn ed)⟩⟩
    refine ww_and1 ?_
    refine wt_cmp od_eq ?_
    refine we_call (ok_law_draw C) hr ?_
    refine wa_cons ?_
    refine we_var 1 rfl ?_
    refine wa_cons ?_
    refine we_int ?_
    refine wa_nil ?_
    refine ⟨B, _, rfl, g.bag, by omega, by omega, fun v M1 _ _ hB1 e1 => ?_⟩
    have g1 := g.bf (Bf.of_eq e1) hB1
    refine we_int ?_
    refine b_eqI ?_
    refine t_bl ?_
    refine ⟨fun _ => ?_, fun _ => wss_nil (c6 M1 way n due g1 hn ed)⟩
    refine wss_cons ?_
    refine ws_set 16 sc.nd ?_
    refine we_sub ?_
    refine we_lst ?_
    refine wa_cons ?_
    refine we_int ?_
    refine wa_cons ?_
    refine we_bin od_sub ?_
    refine we_int ?_
    refine we_int ?_
    refine b_sub ?_
    refine wa_nil ?_
    refine ⟨size_ok (Nat.le_of_ble_eq_true rfl), fun p hp => ?_⟩
    have g2 := g1.sub (Sub.put (m := .lst [.int 0, .int (0 - 5)]) hp)
    have hpb : p ≠ B.b := fun e => g1.bag.df B.b (by simp) (e ▸ hp)
    refine we_call (ok_law_draw C) hr ?_
    refine wa_cons ?_
    refine we_var 1 rfl ?_
    refine wa_cons ?_
    refine we_int ?_
    refine wa_nil ?_
    refine ⟨B, _, rfl, g2.bag, by omega, by omega, fun v2 M2 v20 v21 hB2 e2 => ?_⟩
    have g3 := g2.bf (Bf.of_eq e2) hB2
    obtain ⟨x, hx, hxb⟩ : ∃ x : Int, atI ([D.int 0, D.int (0 - 5)]) v2 = some (.int x) ∧ x < 1 := by
      obtain ⟨vn, rfl⟩ : ∃ n : Nat, v2 = (n : Nat) := ⟨v2.toNat, by omega⟩
      match vn, v21 with
      | 0, _ => exact ⟨0, atI_nat (j := 0) rfl, by decide⟩
      | 1, _ => exact ⟨0 - 5, atI_nat (j := 1) rfl, by decide⟩
      | n + 2, h => exfalso; omega
    refine i_lst ((e2 p hpb).trans put_same) hx ?_
    refine wss_one ?_
    refine ws_set 17 sc.nd (DL.WE.imp (P := fun d M' => d = D.str (wText bs.length { n with most := x }) ∧ M' = M2) ?_ ?_)
    · refine we_ifexp ?_
      refine wt_cmp od_eq ?_
      refine we_var 17 rfl ?_
      refine we_str ?_
      refine b_eqS ?_
      refine t_bl ?_
      have e1 := wText_eq bs.length n
      have e2 : wText bs.length { n with most := x } = wT (whoB bs.length n.who) (conB n.hs n.c n.t) x := wText_eq _ _
      refine ⟨fun hk => ?_, fun hk => ?_⟩
      · have hk := of_decide_eq_true hk
        refine we_str ?_
        refine ⟨?_, rfl⟩
        obtain ⟨h1, h2⟩ := wT_empty (e1.symm.trans (ed.symm.trans hk))
        rw [e2, h1, h2]
        show _ = D.str (if x < 1 then _ else _)
        rw [if_pos hxb]
      · have hk := of_decide_eq_false hk
        refine we_var 17 rfl ?_
        refine ⟨?_, rfl⟩
        rw [e2, ed, e1]
        exact congrArg D.str (wT_keep hm (fun z => hk (ed.trans (e1.trans z)))).symm
    · rintro d M' ⟨ed2, eM⟩
      subst ed2 eM
      exact c6 M' way { n with most := x } _ g3 hn rfl
  have c4 : ∀ (M : Mem) (way : Int) (n : Wi) (due : Str), Good K M B A bs ws hist → 0 ≤ way → (n.hs.length ≤ 12 ∧ 0 ≤ n.t ∧ n.t ≤ 8000) → 1 ≤ n.most → conB n.hs n.c n.t = true → due = wText bs.length n →
      WSs (LX P w K mg base f cdv s H E) (lb.drop 4) (LG d0 x3 x4 x5 x12 B A bs ws (some (.int way)) trip (some (.int n.who)) (some (dCon n.hs n.c n.t)) (some (.int n.most)) (some (.str due)) x18 x19) M D' := fun M way n due g hway hn hm hcon ed => by
    refine wss_cons ?_
    refine ws_if ?_
    refine wt_ww ?_
    refine ww_and ?_
    refine wt_cmp od_in ?_
    refine we_var 11 rfl ?_
    refine we_tup ?_
    refine wa_cons ?_
    refine we_int ?_
    refine wa_cons ?_
    refine we_int ?_
    refine wa_nil ?_
    refine ⟨size_ok (Nat.le_of_ble_eq_true rfl), ?_⟩
    refine ⟨.int way, _, [0, 1].map V.int, rfl, .inl rfl, mapM_ints [0, 1], ?_⟩
    refine t_bl (k := inV (.int way) ([0, 1].map V.int)) ?_
    rw [inV_int]
    refine ⟨fun hk => ?_, fun hk => ⟨fun z => (nomatch z), fun _ => wss_nil (c5 M way n due g hway hn hm ed)⟩⟩
    have hk := of_decide_eq_true hk
    simp only [List.mem_cons, List.not_mem_nil, or_false] at hk
    refine ww_and1 ?_
    refine wt_cmp od_eq ?_
    refine we_call (ok_law_draw C) hr ?_
    refine wa_cons ?_
    refine we_var 1 rfl ?_
    refine wa_cons ?_
    refine we_bin od_sub ?_
    refine we_int ?_
    refine we_var 11 rfl ?_
    refine b_sub ?_
    refine wa_nil ?_
    refine ⟨B, _, rfl, g.bag, by omega, by omega, fun v M1 _ _ hB1 e1 => ?_⟩
    have g1 := g.bf (Bf.of_eq e1) hB1
    refine we_int ?_
    refine b_eqI ?_
    refine t_bl ?_
    refine ⟨fun _ => ?_, fun _ => wss_nil (c5 M1 way n due g1 hway hn hm ed)⟩
    refine wss_cons ?_
    refine ws_set 15 sc.nd ?_
    refine we_call (ok_wrong C) hr ?_
    refine wa_cons ?_
    refine we_var 1 rfl ?_
    refine wa_nil ?_
    refine ⟨B, rfl, g1.bag, fun hs c t M2 hc2 hl2 ht0 ht1 hB2 f2 => ?_⟩
    have g2 := g1.bf f2 hB2
    refine wss_one ?_
    refine ws_set 17 sc.nd (DL.WE.imp (P := fun d M' => d = D.str (wText bs.length { n with hs := hs, c := c, t := t }) ∧ M' = M2) ?_ ?_)
    · refine we_ifexp ?_
      refine wt_cmp od_eq ?_
      refine we_var 17 rfl ?_
      refine we_str ?_
      refine b_eqS ?_
      refine t_bl ?_
      have e1 := wText_eq bs.length n
      have e2 : wText bs.length { n with hs := hs, c := c, t := t } = wT (whoB bs.length n.who) (conB hs c t) n.most := wText_eq _ _
      rw [hcon] at e1
      rw [hc2] at e2
      refine ⟨fun hk => ?_, fun hk => ?_⟩
      · have hk := of_decide_eq_true hk
        refine we_str ?_
        refine ⟨?_, rfl⟩
        obtain ⟨h1, _⟩ := wT_empty (e1.symm.trans (ed.symm.trans hk))
        rw [e2, h1]
        rfl
      · have hk := of_decide_eq_false hk
        refine we_var 17 rfl ?_
        refine ⟨?_, rfl⟩
        rw [e2, ed, e1]
        exact congrArg D.str (wT_keep2 hm (fun z => hk (ed.trans (e1.trans z)))).symm
    · rintro d M' ⟨ed2, eM⟩
      subst ed2 eM
      exact c5 M' way { n with hs := hs, c := c, t := t } _ g2 hway ⟨hl2, ht0, ht1⟩ hm rfl
  refine wss_cons ?_
  refine ws_asg ?_
  refine we_tup ?_
  refine wa_cons ?_
  refine we_call (ok_law_draw C) hr ?_
  refine wa_cons ?_
  refine we_var 1 rfl ?_
  refine wa_cons ?_
  refine we_callB cd_len (C.fr 50) ?_
  refine wa_cons ?_
  refine we_var 2 rfl ?_
  refine wa_nil ?_
  refine c_len rfl ?_
  rw [List.length_map]
  refine wa_nil ?_
  refine ⟨B, _, rfl, g.bag, by omega, by omega, fun who M1 w0 w1 hB1 e1 => ?_⟩
  have g1 := g.bf (Bf.of_eq e1) hB1
  refine wa_cons ?_
  refine we_call (ok_contract C) hr ?_
  refine wa_cons ?_
  refine we_var 1 rfl ?_
  refine wa_nil ?_
  refine ⟨B, rfl, g1.bag, fun hs c t M2 hcon hl2 ht0 ht1 hB2 f2 => ?_⟩
  have g2 := g1.bf f2 hB2
  refine wa_cons ?_
  refine we_call (ok_law_pick C) hr ?_
  refine wa_cons ?_
  refine we_var 1 rfl ?_
  refine wa_cons ?_
  refine we_lst ?_
  refine wa_cons ?_
  refine we_int ?_
  refine wa_cons ?_
  refine we_int ?_
  refine wa_cons ?_
  refine we_int ?_
  refine wa_nil ?_
  refine ⟨size_ok (Nat.le_of_ble_eq_true rfl), fun p hp => ?_⟩
  refine wa_nil ?_
  have g3 := g2.sub (Sub.put (m := .lst (([1, 9, 100000] : List Int).map D.int)) hp)
  have hpb : p ≠ B.b := fun e => g2.bag.df B.b (by simp) (e ▸ hp)
  refine ⟨B, p, [1, 9, 100000], rfl, g3.bag, hpb, put_same, by simp, by simp, fun most M4 hm hB4 f4 => ?_⟩
  have g4 := g3.bf f4 hB4
  have hm1 : 1 ≤ most := by
    simp only [List.mem_cons, List.not_mem_nil, or_false] at hm
    omega
  refine wa_nil ?_
  refine ⟨size_ok (Nat.le_of_ble_eq_true rfl), ?_⟩
  refine wg_tup rfl rfl ?_
  refine wgs_cons ?_
  refine wg_name 14 sc.nd ?_
  refine wgs_cons ?_
  refine wg_name 15 sc.nd ?_
  refine wgs_cons ?_
  refine wg_name 16 sc.nd ?_
  refine wgs_nil ?_
  refine wss_cons ?_
  refine ws_set 11 sc.nd ?_
  refine we_call (ok_law_draw C) hr ?_
  refine wa_cons ?_
  refine we_var 1 rfl ?_
  refine wa_cons ?_
  refine we_int ?_
  refine wa_nil ?_
  refine ⟨B, _, rfl, g4.bag, by omega, by omega, fun way M5 way0 way1 hB5 e5 => ?_⟩
  have g5 := g4.bf (Bf.of_eq e5) hB5
  refine wss_cons ?_
  refine ws_set 17 sc.nd ?_
  refine we_str ?_
  refine wss_cons ?_
  refine ws_if ?_
  refine wt_cmp od_eq ?_
  refine we_var 11 rfl ?_
  refine we_int ?_
  refine b_eqI ?_
  refine t_bl ?_
  have hcn : ¬ conB hs c t = false := by rw [hcon]; decide
  refine ⟨fun _ => ?_, fun _ => ?_⟩
  · refine wss_one ?_
    refine ws_asg ?_
    refine we_tup ?_
    refine wa_cons ?_
    refine we_sub ?_
    refine we_lst ?_
    refine wa_cons ?_
    refine we_bin od_sub ?_
    refine we_int ?_
    refine we_int ?_
    refine b_sub ?_
    refine wa_cons ?_
    refine we_callB cd_len (C.fr 50) ?_
    refine wa_cons ?_
    refine we_var 2 rfl ?_
    refine wa_nil ?_
    refine c_len rfl ?_
    rw [List.length_map]
    refine wa_nil ?_
    refine ⟨size_ok (Nat.le_of_ble_eq_true rfl), fun p2 hp2 => ?_⟩
    have g6 := g5.sub (Sub.put (m := .lst [.int (0 - 1), .int (bs.length : Nat)]) hp2)
    have hp2b : p2 ≠ B.b := fun e => g5.bag.df B.b (by simp) (e ▸ hp2)
    refine we_call (ok_law_draw C) hr ?_
    refine wa_cons ?_
    refine we_var 1 rfl ?_
    refine wa_cons ?_
    refine we_int ?_
    refine wa_nil ?_
    refine ⟨B, _, rfl, g6.bag, by omega, by omega, fun v7 M7 v70 v71 hB7 e7 => ?_⟩
    have g7 := g6.bf (Bf.of_eq e7) hB7
    obtain ⟨x, hx, hxb⟩ : ∃ x : Int, atI ([D.int (0 - 1), D.int (bs.length : Nat)]) v7 = some (.int x) ∧ whoB bs.length x = false := by
      obtain ⟨vn, rfl⟩ : ∃ n : Nat, v7 = (n : Nat) := ⟨v7.toNat, by omega⟩
      match vn, v71 with
      | 0, _ => exact ⟨0 - 1, atI_nat (j := 0) rfl, rfl⟩
      | 1, _ => exact ⟨(bs.length : Nat), atI_nat (j := 1) rfl, by unfold whoB; rw [Bool.and_eq_false_iff, decide_eq_false_iff_not, decide_eq_false_iff_not]; omega⟩
      | n + 2, h => exfalso; omega
    refine i_lst ((e7 p2 hp2b).trans put_same) hx ?_
    refine wa_cons ?_
    refine we_str ?_
    refine wa_nil ?_
    refine ⟨size_ok (Nat.le_of_ble_eq_true rfl), ?_⟩
    refine wg_tup rfl rfl ?_
    refine wgs_cons ?_
    refine wg_name 14 sc.nd ?_
    refine wgs_cons ?_
    refine wg_name 17 sc.nd ?_
    refine wgs_nil ?_
    refine c4 M7 way ⟨x, hs, c, t, most⟩ "caller" g7 way0 ⟨hl2, ht0, ht1⟩ hm1 hcon ?_
    rw [wText_eq]
    show _ = wT (whoB bs.length x) _ _
    rw [hxb]
    rfl
  · refine wss_nil ?_
    refine c4 M5 way ⟨who, hs, c, t, most⟩ "" g5 way0 ⟨hl2, ht0, ht1⟩ hm1 hcon ?_
    rw [wText_eq]
    show _ = wT (whoB bs.length who) (conB hs c t) most
    rw [hcon, show whoB bs.length who = true by unfold whoB; rw [Bool.and_eq_true, decide_eq_true_eq, decide_eq_true_eq]; omega]
    show _ = (if most < 1 then _ else _)
    rw [if_neg (by omega)]
end
end K82

set_option Elab.async false
set_option linter.all false
set_option maxRecDepth 100000
set_option maxHeartbeats 8000000
/-! VL: the law. -/
namespace K82
open PySem PySem.Spec PyProof.Rows L2 DL
theorem init_ok {bs : List Bnd} (h0 : 0 < bs.length) (h4 : bs.length ≤ 4) (hb : ∀ b ∈ bs, b.In 3) : initBad (bs.map rdB) = none := by
  unfold initBad
  rw [if_pos (by rw [List.length_map]; omega)]
  refine badRs_none fun k hk => ?_
  rw [List.length_map] at hk
  rw [List.getD_eq_getElem?_getD, List.getElem?_map, List.getElem?_eq_getElem hk]
  exact good_rd (hb _ (List.getElem_mem _))
abbrev cs82 (K : PySem.W.Frag) : List (Addr × Addr) := Hd.tf.map (He.cT K)
theorem tab_at {K : PySem.W.Frag} {q : He.Defn} (h : q ∈ Hd.tf) : Tb K q (tabM (cs82 K)) := tabM_at (List.mem_map.mpr ⟨q, h, rfl⟩)
def n1 : Wi := ⟨0, [9], 1, 9, 1⟩
def n2 : Wi := ⟨0, [9], 1, 9, 2⟩
theorem con9 : conB [9] 1 9 = true := by decide +kernel
theorem word9 {nb : Int} {m : Int} (h : 0 < nb) (hm : 1 ≤ m) : wWord nb ⟨0, [9], 1, 9, m⟩ = none := by
  unfold wWord
  rw [if_neg (by rw [Bool.not_eq_false, Bool.and_eq_true, decide_eq_true_eq, decide_eq_true_eq]; exact ⟨Int.le_refl _, by show (0 : Int) ≤ nb - 1; omega⟩), if_neg (by rw [Bool.not_eq_false]; exact con9), if_neg (by show ¬ m < 1; omega)]
section
variable {P : Program} {w : World} {K : PySem.W.Frag} {mg : Str → Option Value} {base : Heap} {f : Addr} {cdv : Value} {s : Shared} {H : Hp} {E : XK}
abbrev LE : DE := { nx := fun _ _ => False, rt := fun d _ => d = .bl true }
/-- behind the loop -/
theorem law_last (C : Ct K mg base) (hP : Pg P) (hr : Room 8 (LX P w K mg base f cdv s H E).A) {d0 x3 x4 x5 x12 z11 z13 z14 z15 z16 z17 z18 z19 : Option D} {B : BA} {A : AA} {bs : List Bnd} {ws : List Wi} {hist : List (List Wi)} {M : Mem}
    (g : Good K M B A bs ws hist) (hb0 : 0 < bs.length) (hbs : bs.length ≤ 4) : WSs (LX P w K mg base f cdv s H E) ((defBody (Hd.topS 76)).drop 9) (LG d0 x3 x4 x5 x12 B A bs ws z11 z13 z14 z15 z16 z17 z18 z19) M LE := by
  have nd := g.nd
  simp only [AA.l, List.nodup_cons, List.mem_cons, List.not_mem_nil, or_false, not_or] at nd
  obtain ⟨⟨n1', n2', n3', n4'⟩, ⟨n5', n6', n7'⟩, ⟨n8', n9'⟩, n10', _⟩ := nd
  obtain ⟨fw, bw, Fw⟩ := fn_wishes (P := P) (w := w) (mg := mg) (base := base) C
  refine wss_one ?_
  refine ws_ret ?_
  refine we_and ?_
  refine we_cmp od_eq ?_
  refine we_call (ok_lwish C hP) hr ?_
  refine wa_cons ?_
  refine we_var 10 rfl ?_
  refine wa_cons ?_
  refine we_int ?_
  refine wa_cons ?_
  refine we_tup ?_
  refine wa_cons ?_
  refine we_tup ?_
  refine wa_cons ?_
  refine we_int ?_
  refine wa_nil ?_
  refine ⟨size_ok (Nat.le_of_ble_eq_true rfl), ?_⟩
  refine wa_cons ?_
  refine we_int ?_
  refine wa_cons ?_
  refine we_int ?_
  refine wa_nil ?_
  refine ⟨size_ok (Nat.le_of_ble_eq_true rfl), ?_⟩
  refine wa_cons ?_
  refine we_int ?_
  refine wa_nil ?_
  refine ⟨A.a2, A.b2, bs.map dBnd, [], [], n1, rfl, Ne.symm n8', g.p2, g.h2, ⟨by rw [List.length_map]; omega, by decide, by decide, by decide, by decide, by decide⟩, g.tb, fun _ M1 q1 q2 q3 => ?_, fun x hx => ?_⟩
  · refine we_str ?_
    refine b_eqS ?_
    refine ⟨true, rfl, fun _ => ?_, fun z => (nomatch z)⟩
    refine we_and ?_
    refine we_cmp od_is ?_
    refine we_methK passN (kw_wish C hP) C.cls hr ?_
    refine we_var 10 rfl ?_
    refine ⟨A.a2, _, rfl, q1, rfl, ?_⟩
    refine wk_cons ?_
    refine we_int ?_
    refine wk_cons ?_
    refine we_tup ?_
    refine wa_cons ?_
    refine we_tup ?_
    refine wa_cons ?_
    refine we_int ?_
    refine wa_nil ?_
    refine ⟨size_ok (Nat.le_of_ble_eq_true rfl), ?_⟩
    refine wa_cons ?_
    refine we_int ?_
    refine wa_cons ?_
    refine we_int ?_
    refine wa_nil ?_
    refine ⟨size_ok (Nat.le_of_ble_eq_true rfl), ?_⟩
    refine wk_cons ?_
    refine we_int ?_
    refine wk_nil ?_
    have tb1 : TbAll K M1 := g.tb.mono fun x e => q3 x _ (fun z => by rw [z, g.p2] at e; cases e) (fun z => by rw [z, g.h2] at e; cases e) e
    refine ⟨rfl, A.a2, A.b2, bs.map dBnd, putWi [] n1, _, n2, rfl, Ne.symm n8', q1, q2, ⟨by rw [List.length_map]; omega, by decide, by decide, by decide, by decide, by decide⟩, tb1, fun _ M2 r1 r2 r3 => ?_, fun x hx => ?_⟩
    · refine we_non ?_
      refine b_is ?_
      refine ⟨true, rfl, fun _ => ?_, fun z => (nomatch z)⟩
      refine we_one ?_
      refine we_call (ok_law_same C 4) hr ?_
      refine wa_cons ?_
      refine we_prop C.cls C.prop Fw bw hr ?_
      refine we_var 10 rfl ?_
      refine ⟨A.a2, _, _, rfl, r1, rfl, ?_⟩
      refine wa_cons ?_
      refine we_tup ?_
      refine wa_cons ?_
      refine we_tup ?_
      refine wa_cons ?_
      refine we_int ?_
      refine wa_cons ?_
      refine we_tup ?_
      refine wa_cons ?_
      refine we_tup ?_
      refine wa_cons ?_
      refine we_int ?_
      refine wa_nil ?_
      refine ⟨size_ok (Nat.le_of_ble_eq_true rfl), ?_⟩
      refine wa_cons ?_
      refine we_int ?_
      refine wa_cons ?_
      refine we_int ?_
      refine wa_nil ?_
      refine ⟨size_ok (Nat.le_of_ble_eq_true rfl), ?_⟩
      refine wa_cons ?_
      refine we_int ?_
      refine wa_nil ?_
      refine ⟨size_ok (Nat.le_of_ble_eq_true rfl), ?_⟩
      refine wa_nil ?_
      refine ⟨size_ok (Nat.le_of_ble_eq_true rfl), ?_⟩
      refine wa_nil ?_
      have e2 : putWi (putWi [] n1) n2 = [n2] := by simp [putWi, n1, n2]
      refine ⟨D.tup ([n2].map dWi), ?_, deep_ws (i := 1) ⟨by decide, by decide, fun x hx => by rw [List.mem_singleton.mp hx]; decide⟩ (by decide), rfl⟩
      rw [e2]
      rfl
    · rw [List.length_map] at hx
      rw [show n2 = ⟨0, [9], 1, 9, 2⟩ from rfl, word9 (by omega) (by decide)] at hx
      cases hx
  · rw [List.length_map] at hx
    rw [show n1 = ⟨0, [9], 1, 9, 1⟩ from rfl, word9 (by omega) (by decide)] at hx
    cases hx
end
end K82

set_option Elab.async false
set_option linter.all false
set_option maxRecDepth 100000
set_option maxHeartbeats 8000000
/-! VM: the law. -/
namespace K82
open PySem PySem.Spec PyProof.Rows L2 DL
theorem TbAll.bf {K : PySem.W.Frag} {M M' : Mem} {b : Addr} {l : List D} (t : TbAll K M) (hb : M b = some (.lst l)) (f : Bf b M M') : TbAll K M' := t.mono fun x e => f x _ (fun z => by rw [z, hb] at e; cases e) e
theorem Bag.at_ {B : BA} {M : Mem} (h : Bag M B) : ∃ l, M B.b = some (.lst l) := let ⟨_, _, _, _, _, _, _, e, _⟩ := h; ⟨_, e⟩
theorem hk_way : dRd (.row []) = D.tup [] := rfl
section
variable {P : Program} {w : World} {K : PySem.W.Frag} {mg : Str → Option Value} {base : Heap} {f : Addr} {cdv : Value} {s : Shared} {H : Hp} {E : XK}
/-- Planner(bounds): what stands behind it -/
theorem made {M M' : Mem} {a b : Addr} (ha : M a = none) (hba : b ≠ a) (hb : (put M a (.ins (cP K) [])) b = none) (k : ∀ x, x ≠ a → x ≠ b → M' x = (put M a (.ins (cP K) [])) x) : Sub M M' ∧ M b = none := by
  have hb2 : M b = none := (put_none hb).2
  refine ⟨fun x m e => ?_, hb2⟩
  have h1 : x ≠ a := nn e ha
  have h2 : x ≠ b := nn e hb2
  rw [k x h1 h2, put_ne h1]
  exact e
/-- from the planners on -/
theorem law_mid (C : Ct K mg base) (hP : Pg P) (hr : Room 8 (LX P w K mg base f cdv s H E).A) {d0 x3 x4 x5 : Option D} {B : BA} {bs : List Bnd} {M : Mem} (hB : Bag M B) (tb : TbAll K M) (hb0 : 0 < bs.length) (hbs : bs.length ≤ 4) (hin : ∀ b ∈ bs, b.In 3) :
    WSs (LX P w K mg base f cdv s H E) ((defBody (Hd.topS 76)).drop 4) [d0, some (.ref B.b), some (dBnds bs), x3, x4, x5, none, none, none, none, none, none, none, none, none, none, none, none, none, none, none] M LE := by
  have sc := sc_law
  have io := init_ok hb0 hbs hin
  have erd : D.tup ((bs.map rdB).map dRd) = dBnds bs := by rw [← dBnds_rd]; rfl
  refine wss_cons ?_
  refine ws_asg ?_
  refine we_tup ?_
  refine wa_cons ?_
  refine DL.WE.ofT fun Hb => ?_
  refine wet_make (mk_Planner C hP) R0 air0 hr ?_
  refine wa_cons ?_
  refine we_var 2 rfl ?_
  refine wa_nil ?_
  intro a1 ha1
  refine ⟨a1, bs.map rdB, by rw [erd], by rw [List.length_map]; omega, put_same, fun _ b1 M1 hba hb1 q1 q2 q3 => ⟨rfl, ?_⟩, fun c p e => by rw [io] at e; cases e⟩
  obtain ⟨su1, hb1n⟩ := made ha1 hba hb1 q3
  rw [erd] at q1
  have hB1 := hB.sub su1
  refine wa_cons ?_
  refine we_tup ?_
  refine wa_nil ?_
  refine ⟨size_ok (Nat.le_of_ble_eq_true rfl), ?_⟩
  refine wa_cons ?_
  refine we_lst ?_
  refine wa_nil ?_
  refine ⟨size_ok (Nat.le_of_ble_eq_true rfl), fun el hel => ?_⟩
  refine wa_nil ?_
  refine ⟨size_ok (Nat.le_of_ble_eq_true rfl), ?_⟩
  refine wg_tup rfl rfl ?_
  refine wgs_cons ?_
  refine wg_name 7 sc.nd ?_
  refine wgs_cons ?_
  refine wg_name 8 sc.nd ?_
  refine wgs_cons ?_
  refine wg_name 9 sc.nd ?_
  refine wgs_nil ?_
  have su2 : Sub M1 (put M1 el (.lst [])) := Sub.put hel
  have p1 : (put M1 el (.lst [])) a1 = some (.ins (cP K) (plF (dBnds bs) (.tup []) b1)) := su2 _ _ q1
  have h1 : (put M1 el (.lst [])) b1 = some (.lst []) := su2 _ _ q2
  have pel : (put M1 el (.lst [])) el = some (.lst []) := put_same
  have hB2 := hB1.sub su2
  have tb2 : TbAll K (put M1 el (.lst [])) := tb.mono fun x e => su2 _ _ (su1 x _ e)
  have n_el_a1 : el ≠ a1 := fun z => by rw [z, q1] at hel; cases hel
  have n_el_b1 : el ≠ b1 := fun z => by rw [z, q2] at hel; cases hel
  have nBa1 : a1 ∉ [B.b, B.c, B.e] := hB.ne ha1
  have nBb1 : b1 ∉ [B.b, B.c, B.e] := hB.ne hb1n
  have nBel : el ∉ [B.b, B.c, B.e] := hB1.ne hel
  refine wss_cons ?_
  refine ws_asg ?_
  refine we_tup ?_
  refine wa_cons ?_
  refine we_makeK passN (kmk_Planner C hP) hr ?_
  refine wk_cons ?_
  refine we_var 2 rfl ?_
  refine wk_nil ?_
  refine ⟨rfl, ?_⟩
  intro a2 ha2
  refine ⟨a2, bs.map rdB, by rw [erd]; rfl, by rw [List.length_map]; omega, put_same, fun _ b2 M3 hba2 hb2 r1 r2 r3 => ⟨rfl, ?_⟩, fun c p e => by rw [io] at e; cases e⟩
  obtain ⟨su3, hb2n⟩ := made ha2 hba2 hb2 r3
  rw [erd] at r1
  have hB3 := hB2.sub su3
  have tb3 := tb2.mono fun x e => su3 x _ e
  have nBa2 : a2 ∉ [B.b, B.c, B.e] := hB2.ne ha2
  have nBb2 : b2 ∉ [B.b, B.c, B.e] := hB2.ne hb2n
  have g0 : Good K M3 B ⟨a1, b1, a2, b2, el⟩ bs [] [] := by
    refine ⟨hB3, tb3, ?_, ?_, su3 _ _ p1, su3 _ _ h1, r1, r2, su3 _ _ pel⟩
    · simp only [AA.l, List.nodup_cons, List.mem_cons, List.not_mem_nil, or_false, not_or]
      exact ⟨⟨Ne.symm hba, nn p1 ha2, nn p1 hb2n, Ne.symm n_el_a1⟩, ⟨nn h1 ha2, nn h1 hb2n, Ne.symm n_el_b1⟩, ⟨Ne.symm hba2, Ne.symm (nn pel ha2)⟩, Ne.symm (nn pel hb2n), fun z => z, List.nodup_nil⟩
    · intro x hx
      simp only [AA.l, List.mem_cons, List.not_mem_nil, or_false] at hx
      rcases hx with rfl | rfl | rfl | rfl | rfl
      · exact nBa1
      · exact nBb1
      · exact nBa2
      · exact nBb2
      · exact nBel
  refine wa_cons ?_
  refine we_tup ?_
  refine wa_cons ?_
  refine we_int ?_
  refine wa_cons ?_
  refine we_tup ?_
  refine wa_cons ?_
  refine we_int ?_
  refine wa_nil ?_
  refine ⟨size_ok (Nat.le_of_ble_eq_true rfl), ?_⟩
  refine wa_cons ?_
  refine we_int ?_
  refine wa_cons ?_
  refine we_int ?_
  refine wa_nil ?_
  refine ⟨size_ok (Nat.le_of_ble_eq_true rfl), ?_⟩
  refine wa_nil ?_
  refine ⟨size_ok (Nat.le_of_ble_eq_true rfl), ?_⟩
  refine wg_tup rfl rfl ?_
  refine wgs_cons ?_
  refine wg_name 10 sc.nd ?_
  refine wgs_cons ?_
  refine wg_name 11 sc.nd ?_
  refine wgs_nil ?_
  refine wss_cons ?_
  refine ws_set 12 sc.nd ?_
  refine we_tup ?_
  refine wa_cons ?_
  refine we_int ?_
  refine wa_cons ?_
  refine we_callT cd_tuple (C.fr 59) ?_
  refine wa_cons ?_
  refine we_lcG (own := [("k", 20)]) rfl sc.nd (blkOk_by (own := [("k", 20)]) (N := NN) (sc := defScope (Hd.topS 76)) (by decide +kernel)) rfl gt_name (fun _ _ _ _ _ => pg_name (i := 20) sc.nd rfl (Or.inl rfl)) ?_
  refine wi_range1 (C.fr 54) ?_
  refine we_callB cd_len (C.fr 50) ?_
  refine wa_cons ?_
  refine we_var 2 rfl ?_
  refine wa_nil ?_
  refine c_len rfl ?_
  rw [List.length_map]
  refine ⟨_, rfl, by omega, by omega, fun pl hpl => ?_⟩
  refine lcj_map (fun d => .tup [.tup [.int 1, .tup [.int 0], .int 40, .int 6], .tup [.int 1, .tup [.int 0], .int 40, .int 6], .int 1, .int 1, .int 6, d]) (by rw [rg1_len]; omega) (fun _ => trivial) (fun _ _ => trivial) ?_ ?_
  · intro k d hd l s' H' Ca cl fp
    refine we_tup ?_
    refine wa_cons ?_
    refine we_var 11 rfl ?_
    refine wa_cons ?_
    refine we_var 11 rfl ?_
    refine wa_cons ?_
    refine we_int ?_
    refine wa_cons ?_
    refine we_int ?_
    refine wa_cons ?_
    refine we_int ?_
    refine wa_cons ?_
    refine we_var 20 rfl ?_
    refine wa_nil ?_
    exact ⟨size_ok (Nat.le_of_ble_eq_true rfl), rfl, rfl⟩
  refine wa_nil ?_
  refine c_tupL put_same ?_
  refine wa_nil ?_
  refine ⟨size_ok (Nat.le_of_ble_eq_true rfl), ?_⟩
  have g1 := g0.sub (Sub.put (m := .lst ((rg1 (bs.length : Nat)).map fun d => .tup [.tup [.int 1, .tup [.int 0], .int 40, .int 6], .tup [.int 1, .tup [.int 0], .int 40, .int 6], .int 1, .int 1, .int 6, d])) hpl)
  refine wss_cons ?_
  refine ws_if ?_
  refine wt_not ?_
  refine wt_val ?_
  refine we_call (ok_law_same C 2) hr ?_
  refine wa_cons ?_
  refine we_tup ?_
  refine wa_cons ?_
  refine we_meth (ok_missed C) C.cls hr ?_
  refine we_var 10 rfl ?_
  refine ⟨a2, _, rfl, g1.p2, rfl, ?_⟩
  refine wa_cons ?_
  refine we_var 12 rfl ?_
  refine wa_nil ?_
  refine ⟨_, _, _, _, rfl, g1.p2, fun M5 su5 => ?_⟩
  have g2 := g1.sub su5
  refine wa_cons ?_
  refine we_methK pass0 (kw_missed C) C.cls hr ?_
  refine we_var 10 rfl ?_
  refine ⟨a2, _, rfl, g2.p2, rfl, ?_⟩
  refine wk_cons ?_
  refine we_var 12 rfl ?_
  refine wk_nil ?_
  refine ⟨rfl, _, _, _, _, rfl, g2.p2, fun M6 su6 => ?_⟩
  have g3 := g2.sub su6
  refine wa_nil ?_
  refine ⟨size_ok (Nat.le_of_ble_eq_true rfl), ?_⟩
  refine wa_cons ?_
  refine we_tup ?_
  refine wa_cons ?_
  refine we_tup ?_
  refine wa_nil ?_
  refine ⟨size_ok (Nat.le_of_ble_eq_true rfl), ?_⟩
  refine wa_cons ?_
  refine we_tup ?_
  refine wa_nil ?_
  refine ⟨size_ok (Nat.le_of_ble_eq_true rfl), ?_⟩
  refine wa_nil ?_
  refine ⟨size_ok (Nat.le_of_ble_eq_true rfl), ?_⟩
  refine wa_nil ?_
  refine ⟨_, rfl, .inr ⟨_, rfl, Nat.le_of_ble_eq_true rfl, fun x hx => ?_⟩, ?_⟩
  · have hx : x = .tup [] := by simpa using hx
    rw [hx]
    exact .inr ⟨[], rfl, Nat.le_of_ble_eq_true rfl, fun x hx => (nomatch hx)⟩
  refine t_bl ?_
  refine ⟨fun z => (nomatch z), fun _ => ?_⟩
  refine wss_nil ?_
  refine wss_cons ?_
  refine ws_for PassesOwn.never rfl ?_
  refine wi_range1 (C.fr 54) ?_
  refine we_int ?_
  refine ⟨_, rfl, by decide, by decide, ?_⟩
  refine ⟨fun i (Γ' : Sl) M' => ∃ (x12 z11 z13 z14 z15 z16 z17 z18 z19 : Option D) (ws : List Wi) (hist : List (List Wi)), Γ' = LG d0 x3 x4 x5 x12 B ⟨a1, b1, a2, b2, el⟩ bs ws z11 z13 z14 z15 z16 z17 z18 z19 ∧ Good K M' B ⟨a1, b1, a2, b2, el⟩ bs ws hist ∧ (∀ z ∈ ws :: hist, Wok i z) ∧ hist.length ≤ i,
    ⟨_, _, none, none, none, none, none, none, none, [], [], rfl, g3, fun z hz => by rw [List.mem_singleton.mp hz]; exact ⟨Nat.le_refl _, List.nodup_nil, fun x hx => (nomatch hx)⟩, Nat.le_refl _⟩, fun _ _ _ _ _ => trivial, ?_, ?_⟩
  · rintro i d _ M' hd ⟨x12, z11, z13, z14, z15, z16, z17, z18, z19, ws, hist, rfl, g, hw, hh⟩
    obtain ⟨hi, rfl⟩ := rg1_at hd
    refine wg_name 13 sc.nd ?_
    exact law_body C hP hr g hw (by omega) hh hb0 hbs fun ws' hist' M' y11 y14 y15 y16 y17 y18 y19 g' hw' hh' => ⟨_, _, _, _, _, _, _, _, _, ws', hist', rfl, g', hw', hh'⟩
  · rintro _ M' ⟨x12, z11, z13, z14, z15, z16, z17, z18, z19, ws, hist, rfl, g, hw, hh⟩
    exact law_last C hP hr g hb0 hbs
end
end K82

set_option Elab.async false
set_option linter.all false
set_option maxRecDepth 100000
set_option maxHeartbeats 8000000
/-! VN: the law's begin. -/
namespace K82
open PySem PySem.Spec PyProof.Rows L2 DL
section
variable {P : Program} {w : World} {K : PySem.W.Frag} {mg : Str → Option Value} {base : Heap} {f : Addr} {cdv : Value} {s : Shared} {H : Hp} {E : XK}
/-- Planner(bent) is refused -/
theorem law_try (C : Ct K mg base) (hP : Pg P) (hr : Room 8 (LX P w K mg base f cdv s H E).A) {d0 : Option D} {B : BA} {bs : List Bnd} {rs : List Rd} {c p : Int} {M : Mem} (hB : Bag M B) (tb : TbAll K M) (hb0 : 0 < bs.length) (hbs : bs.length ≤ 4) (hin : ∀ b ∈ bs, b.In 3) (hl : rs.length ≤ 1000) (hbad : initBad rs = some (c, p)) :
    WSs (LX P w K mg base f cdv s H E) ((defBody (Hd.topS 76)).drop 3) [d0, some (.ref B.b), some (dBnds bs), some (.tup (rs.map dRd)), some (.int c), some (.int p), none, none, none, none, none, none, none, none, none, none, none, none, none, none, none] M LE := by
  have sc := sc_law
  refine wss_cons ?_
  refine ws_try_as 6 (fun cls d Γ' M' => cls = .ref (cBR K) ∧ ∃ dd, d = some dd ∧ Sub M M' ∧ M' dd = some (.xd (dBR c p)) ∧ Γ' = [d0, some (.ref B.b), some (dBnds bs), some (.tup (rs.map dRd)), some (.int c), some (.int p), none, none, none, none, none, none, none, none, none, none, none, none, none, none, none])
    rfl rfl sc.nd (x := "BadRoad") (c := .ref (cBR K)) ⟨rfl, by decide, .inl (He.glo_ok C.X C.G (C.c.fact 24 (f := .glo "BadRoad") rfl))⟩ (fun Hb pn' xe tk ps => ?_) ?_
  · refine wsst_cons (wst_expr ?_)
    refine wet_make (mk_Planner C hP) (fun cls d M' => ∃ a dd, cls = .ref (cBR K) ∧ d = some dd ∧ M a = none ∧ (put M a (.ins (cP K) [])) dd = none ∧ M' = put (put M a (.ins (cP K) [])) dd (.xd (dBR c p))) (airS tk fun cls d M' ⟨a, dd, h1, h2, h3, h4, h5⟩ => ⟨h1, dd, h2, by rw [h5]; exact (Sub.put h3).trans (Sub.put h4), by rw [h5]; exact put_same, rfl⟩) hr ?_
    refine wa_cons ?_
    refine we_var 3 rfl ?_
    refine wa_nil ?_
    intro a1 ha1
    refine ⟨a1, rs, rfl, hl, put_same, fun e _ _ _ _ _ _ _ => (by rw [hbad] at e; cases e), fun c' p' e d hd => ?_⟩
    rw [hbad] at e
    cases e
    exact ⟨a1, d, rfl, rfl, ha1, hd, rfl⟩
  · rintro cls d Γ' M' ⟨rfl, dd, rfl, su, hd, rfl⟩
    refine ⟨He.exm_ok (x := "BadRoad") (y := "BadRoad") (b := true) (C.c.fact 27 (f := .exm "BadRoad" "BadRoad" true) rfl), fun ae oe pn' hae hzn hf => ?_⟩
    refine wss_one ?_
    refine ws_if ?_
    refine wt_ww ?_
    refine ww_or ?_
    refine wt_not ?_
    refine wt_val ?_
    refine we_callH (okH_law_same C 1) (j := 8) ⟨hr.dp, hr.un⟩ (hot_suite hzn hf) ?_
    refine wa_cons ?_
    refine we_tup ?_
    refine wa_cons ?_
    refine we_xf (fs := dBR c p) (d := .int c) C.exBR.xf (He.noat_ok (x := "BadRoad") (f := "caller") (C.c.fact 25 (f := .noat "BadRoad" "caller") rfl)) hzn hf ?_
    refine we_var 6 rfl ?_
    refine ⟨rfl, hd, rfl, ?_⟩
    refine wa_cons ?_
    refine we_xf (fs := dBR c p) (d := .int p) C.exBR.xf (He.noat_ok (x := "BadRoad") (f := "part") (C.c.fact 26 (f := .noat "BadRoad" "part") rfl)) hzn hf ?_
    refine we_var 6 rfl ?_
    refine ⟨rfl, hd, rfl, ?_⟩
    refine wa_nil ?_
    refine ⟨size_ok (Nat.le_of_ble_eq_true rfl), ?_⟩
    refine wa_cons ?_
    refine we_tup ?_
    refine wa_cons ?_
    refine we_var 4 rfl ?_
    refine wa_cons ?_
    refine we_var 5 rfl ?_
    refine wa_nil ?_
    refine ⟨size_ok (Nat.le_of_ble_eq_true rfl), ?_⟩
    refine wa_nil ?_
    refine ⟨_, rfl, .inr ⟨_, rfl, Nat.le_of_ble_eq_true rfl, fun x hx => ?_⟩, ?_⟩
    · simp only [List.mem_cons, List.not_mem_nil, or_false] at hx
      rcases hx with rfl | rfl
      · exact .int _
      · exact .int _
    refine t_bl ?_
    refine ⟨fun _ => ?_, fun z => (nomatch z)⟩
    refine ww_or ?_
    refine wt_not ?_
    refine wt_val ?_
    refine we_callB (cd_isX C.iscBR hzn hf) (C.fr 49) ?_
    refine wa_cons ?_
    refine we_var 6 rfl ?_
    refine wa_cons ?_
    refine we_globR (He.glo_ok C.X C.G (C.c.fact 23 (f := .glo "WireError") rfl)) ?_
    refine wa_nil ?_
    refine ⟨_, _, _, rfl, hd, C.exm.1, ?_⟩
    refine t_bl ?_
    refine ⟨fun _ => ?_, fun z => (nomatch z)⟩
    refine ww_or1 ?_
    refine wt_val ?_
    refine we_callB (cd_isX C.iscBR hzn hf) (C.fr 49) ?_
    refine wa_cons ?_
    refine we_var 6 rfl ?_
    refine wa_cons ?_
    refine we_globR (He.glo_ok C.X C.G (C.c.fact 28 (f := .glo "Refused") rfl)) ?_
    refine wa_nil ?_
    refine ⟨_, _, _, rfl, hd, C.exm.2, ?_⟩
    refine t_bl ?_
    refine ⟨fun z => (nomatch z), fun _ => ?_⟩
    refine wss_nil ?_
    exact law_mid C hP hr (hB.sub su) (tb.mono fun x e => su x _ e) hb0 hbs hin
end
end K82

set_option Elab.async false
set_option linter.all false
set_option maxRecDepth 100000
set_option maxHeartbeats 8000000
/-! VO: the law. -/
namespace K82
open PySem PySem.Spec PyProof.Rows L2 DL
section
variable {P : Program} {w : World} {K : PySem.W.Frag} {mg : Str → Option Value} {base : Heap}
theorem tb_all : TbAll K (tabM (cs82 K)) := ⟨tab_at (by decide +kernel), tab_at (by decide +kernel), tab_at (by decide +kernel), tab_at (by decide +kernel)⟩
theorem law_ok (C : Ct K mg base) (hP : Pg P) {f : Addr} {fd : FuncData} (F : FunD K Hd.d_law.name Hd.d_law.qual Hd.d_law.params Hd.d_law.body Hd.d_law.scope [] [] f fd) :
    LawFn P w K mg base f fd "script" (fun vs H Q _ => ∃ v, vs = [v] ∧ spLawT K (cs82 K) 63 v H Q) := by
  refine law_fnT (k := 8) (cs := cs82 K) F sc_law ⟨rfl, by decide +kernel, by decide +kernel⟩ ?_
  intro cdv s H E d ns hr _ hsc hns
  have sc := sc_law
  refine wss_cons ?_
  refine ws_set 1 sc.nd ?_
  refine we_call (ok_law_start C) hr ?_
  refine wa_cons ?_
  refine we_var 0 rfl ?_
  refine wa_nil ?_
  refine ⟨_, ns, rfl, hsc, hns, fun B M1 hMb su hB => ?_⟩
  have tb1 : TbAll K M1 := tb_all.mono fun x e => su x _ e
  refine wss_cons ?_
  refine ws_set 2 sc.nd ?_
  refine we_callT cd_tuple (C.fr 59) ?_
  refine wa_cons ?_
  refine we_lcG (own := [("k", 20)]) rfl sc.nd (blkOk_by (own := [("k", 20)]) (N := NN) (sc := defScope (Hd.topS 76)) (by decide +kernel)) rfl gt_name (fun _ _ _ _ _ => pg_name (i := 20) sc.nd rfl (Or.inl rfl)) ?_
  refine wi_range1 (C.fr 54) ?_
  refine we_bin od_add ?_
  refine we_int ?_
  refine we_call (ok_law_draw C) hr ?_
  refine wa_cons ?_
  refine we_var 1 rfl ?_
  refine wa_cons ?_
  refine we_int ?_
  refine wa_nil ?_
  refine ⟨B, _, rfl, hB, by decide, by decide, fun v M2 v0 v1 hB2 e2 => ?_⟩
  refine b_addI ?_
  have tb2 : TbAll K M2 := tb1.bf hB.at_.choose_spec (Bf.of_eq e2)
  obtain ⟨n, hn⟩ : ∃ n : Nat, 1 + v = (n : Nat) := ⟨(1 + v).toNat, by omega⟩
  rw [hn]
  refine ⟨_, rfl, by omega, by omega, fun p hp => ?_⟩
  have hpb := hB2.ne hp
  have npb : p ≠ B.b := fun e => hpb (by simp [e])
  refine ⟨fun _ _ => trivial, fun k M' => Bag M' B ∧ Bf B.b M2 M' ∧ ∃ l : List Bnd, l.length = k ∧ (∀ b ∈ l, b.In 3) ∧ M' p = some (.lst (l.map dBnd)), ⟨hB2.put hB2 hp, Bf.new hp, [], rfl, fun _ h => (nomatch h), put_same⟩, fun _ _ _ _ => trivial, ?_, ?_⟩
  · rintro k dd M3 hdd ⟨hB3, f3, l, hl, hl2, hp3⟩ s H Ca cl fp
    have hk := (List.getElem?_eq_some_iff.mp hdd).1
    rw [rg1_len] at hk
    refine we_call (ok_law_bound C) hr ?_
    refine wa_cons ?_
    refine we_var 1 rfl ?_
    refine wa_cons ?_
    refine we_call (ok_law_pick C) hr ?_
    refine wa_cons ?_
    refine we_var 1 rfl ?_
    refine wa_cons ?_
    refine we_lst ?_
    refine wa_cons ?_
    refine we_int ?_
    refine wa_cons ?_
    refine we_int ?_
    refine wa_nil ?_
    refine ⟨size_ok (Nat.le_of_ble_eq_true rfl), fun q hq => ?_⟩
    refine wa_nil ?_
    have hqb := hB3.ne hq
    have nqb : q ≠ B.b := fun e => hqb (by simp [e])
    refine ⟨B, q, [3, 50], rfl, hB3.put hB3 hq, nqb, put_same, by decide, by decide, fun x M4 hx hB4 f4 => ?_⟩
    refine wa_cons ?_
    refine we_int ?_
    refine wa_nil ?_
    have hx2 : 0 < x ∧ x ≤ 60 := by
      simp only [List.mem_cons, List.not_mem_nil, or_false] at hx
      omega
    refine ⟨B, _, _, rfl, hB4, hx2.1, hx2.2, by decide, by decide, fun b M5 hb hB5 f5 => ?_⟩
    have npq : p ≠ q := nn hp3 hq
    refine ⟨l.map dBnd, f5 _ _ npb (f4 _ _ npb (by rw [put_ne npq]; exact hp3)), by rw [sizeLine_eq, List.length_map]; omega, hB5.put2 hpb, fun x m e n => ?_, l ++ [b], by simp [hl], ?_, ?_⟩
    · rw [put_ne (nn n hp)]
      have e3 := f3 x m e n
      exact f5 _ _ e (f4 _ _ e (by rw [put_ne (nn e3 hq)]; exact e3))
    · intro x hx
      rcases List.mem_append.mp hx with h | h
      · exact hl2 x h
      · rw [List.mem_singleton.mp h]; exact hb
    · rw [put_same, List.map_append]; rfl
  · rintro M3 ⟨hB3, f3, bs, hl, hl2, hp3⟩
    rw [rg1_len] at hl
    refine wa_nil ?_
    refine c_tupL hp3 ?_
    have hb0 : 0 < bs.length := by omega
    have hb4 : bs.length ≤ 4 := by omega
    have tb3 : TbAll K M3 := tb2.bf hB2.at_.choose_spec f3
    refine wss_cons ?_
    refine ws_asg ?_
    refine we_call (ok_bent C) hr ?_
    refine wa_cons ?_
    refine we_var 1 rfl ?_
    refine wa_cons ?_
    refine we_var 2 rfl ?_
    refine wa_nil ?_
    refine ⟨B, bs, rfl, hB3, hb0, hb4, hl2, fun rs c p' M4 hrs hbad hB4 f4 => ?_⟩
    have tb4 : TbAll K M4 := tb3.bf hB3.at_.choose_spec f4
    refine wg_tup rfl rfl ?_
    refine wgs_cons ?_
    refine wg_name 3 sc.nd ?_
    refine wgs_cons ?_
    refine wg_name 4 sc.nd ?_
    refine wgs_cons ?_
    refine wg_name 5 sc.nd ?_
    refine wgs_nil ?_
    exact law_try C hP hr hB4 tb4 hb0 hb4 hl2 hrs hbad
end
end K82

set_option Elab.async false
set_option linter.all false
set_option maxRecDepth 100000
set_option maxHeartbeats 0
namespace K82
open PySem PySem.Spec PyProof.Rows L2 DL
theorem facts {P : Program} {w : World} {K : PySem.W.Frag} {h : Heap} {mg : Str → Option Value} {f : Addr} (hP : Pg P) (X : K.In h) (G : h.Ns mainGlobals mg) (hfa : mg ("law" : Str) = some (.ref f)) (c : SaysT Hd.fa Hd.fn Hd.fc Hd.tf Hd.ex h K) :
    ∃ (fd : FuncData) (cs : List (Addr × Addr)), (∀ (s : Shared) (v : Value), BindsTo s fd ⟨[v], []⟩ [("script", v)]) ∧
      (∀ p ∈ cs, h.get? p.2 = some { cls := .none, data := .fields #[] }) ∧ (∀ p ∈ cs, K.lookup p.2 = none) ∧ (∀ p ∈ cs, PySem.W.codeHdIn K p.1 p.2 = true) ∧
      ∀ base : Heap, K.In base → base.Ns mainGlobals mg → (∀ p ∈ cs, GxR.TabB base mg p.1 p.2) → LawFn P w K mg base f fd "script" (fun vs H Q _ => ∃ v, vs = [v] ∧ spLawT K cs 63 v H Q) := by
  obtain ⟨fd, F⟩ := c.s.d.def_ 22 (d := Hd.d_law) rfl
  have e := hfa.symm.trans (He.glo_ok X G (c.s.d.fact 22 (f := .glo "law") rfl))
  cases e
  have b := FunD.bindsA (ps := ["script"]) F fun _ _ _ _ _ _ us hl => match us, hl with | [_], _ => rfl
  refine ⟨fd, cs82 K, fun s v => b s [v] rfl, ?_, ?_, ?_, fun base hK hG hT => law_ok ⟨c.s, hK, hG, fun q hq => hT _ (List.mem_map.mpr ⟨q, hq, rfl⟩)⟩ hP F⟩
  · intro p hp
    obtain ⟨q, hq, rfl⟩ := List.mem_map.mp hp
    exact c.empty q hq
  · intro p hp
    obtain ⟨q, hq, rfl⟩ := List.mem_map.mp hp
    exact c.out q hq
  · intro p hp
    obtain ⟨q, hq, rfl⟩ := List.mem_map.mp hp
    exact c.hd q hq
theorem pg : Pg PySem.Challenge.rw_wirework_k82_planners_wishes.prog := ⟨by kernel_rfl, by decide +kernel⟩
end K82
open PySem PySem.W PySem.Calls PyProof.Rows
theorem PySem.Challenge.cw_wirework_k82_planners_wishes_holds : PySem.Challenge.rw_wirework_k82_planners_wishes.Holds := by
  w_on; o_law
  refine HandSHeadRun.head_any (r := OpenLaw.row PySem.Challenge.rw_wirework_k82_planners_wishes) (q := view (OpenLaw.row PySem.Challenge.rw_wirework_k82_planners_wishes).prog [76]) (H := Hd.hk) (ob := Hd.ob) (M := 8000) (loose := Hd.nms) (d := HandSHeadRun.topDef (OpenLaw.row PySem.Challenge.rw_wirework_k82_planners_wishes).prog 76) (kwd := []) Hd.ob_eq
    (by kernel_rfl) (fun s => by kernel_rfl) Hd.run (by kernel_rfl) (by kernel_rfl) (by kernel_rfl) (by rfl) (by first | assumption | decide +kernel) (by decide +kernel) ⟨rfl, rfl, rfl, rfl, rfl, by decide +kernel⟩ ?hw ?hc
  case hw => w_witness2
  case hc =>
    refine DL.walk_ofT (l := PySem.Challenge.rw_wirework_k82_planners_wishes) (n := 63) (x := "script") rfl (by decide) (by kernel_rfl) ?F
    intro w mg fa h Y G hmg0
    obtain ⟨K, KX, c⟩ := Y
    have hmg : mg ("law" : PySem.Str) = some (.ref fa) := by
      have e : (HandSHeadRun.topDef (OpenLaw.row PySem.Challenge.rw_wirework_k82_planners_wishes).prog 76).name = ("law" : PySem.Str) := by kernel_rfl
      rw [← e]
      exact hmg0
    obtain ⟨fd, cs, hb, h1, h2, h3, hF⟩ := K82.facts (w := w) K82.pg KX G hmg c
    exact ⟨K, fd, cs, KX, hb, h1, h2, h3, hF⟩
