import PyProof.Rows.All
import Wide.All
import OpenK.AllK
import Wide.FinOn
import HandS.ForMost
import HandS.ForExc
import HandS.SortInts
import HandS.IsInst
import HandS.Style
import HandS.More
import HandS.Zip
import HandS.Text
import HandS.Comp
import HandS.ExcIs
import KE.GoesRaise
import HandS.Iter
import HandS.SetFor
import HandS.TryOnly
import PySem.Challenge.RW_shuntyard_k03_a_yard_deed_by_deed
set_option Elab.async false
set_option linter.all false
set_option maxRecDepth 100000
set_option maxHeartbeats 4000000
/-! DL: readings over plain data. A: data, what stands for it, slots, states -/
namespace DL
open PySem L2

inductive D where
  | non | bl (b : Bool) | int (i : Int) | str (s : Str) | lst (xs : List D) | tup (xs : List D) | dct (m : List (Int × D)) | scr (ns : List Int)

def Ex (H H' : Hp) : Prop := ∀ a o, H a = some o → H' a = some o
theorem Ex.refl (H : Hp) : Ex H H := fun _ _ h => h
theorem Ex.trans {H H1 H2 : Hp} (a : Ex H H1) (b : Ex H1 H2) : Ex H H2 := fun x o h => b x o (a x o h)
theorem Ex.new {H : Hp} {p : Addr} {o : HO} (h : H p = none) : Ex H (upd H p o) := fun a u e => by
  rw [upd_ne (ne_of_none e h)]
  exact e
theorem Ex.mut {H H' : Hp} {p : Addr} {o : HO} (e : Ex H H') (h : H p = none) : Ex H (upd H' p o) := fun a u ha => by
  rw [upd_ne (ne_of_none ha h)]
  exact e a u ha
theorem Ex.back {H H' : Hp} {p : Addr} (e : Ex H H') (h : H' p = none) : H p = none := by
  cases h1 : H p with
  | none => rfl
  | some o =>
    rw [e p o h1] at h
    cases h
theorem Ex.seq {K : PySem.W.Frag} {H H' : Hp} {a : Addr} {xs : List V} (e : Ex H H') (h : SqL K H a xs) : SqL K H' a xs := by
  rcases h with (h | ⟨o, h⟩) | h
  · exact Or.inl (Or.inl (e a _ h))
  · exact Or.inl (Or.inr ⟨o, e a _ h⟩)
  · exact Or.inr h

/-! ### what stands for data -/
mutual
inductive Rep (K : PySem.W.Frag) (H : Hp) : V → D → Prop
  | non : Rep K H .non .non
  | bl (b : Bool) : Rep K H (.bl b) (.bl b)
  | int (i : Int) : Rep K H (.int i) (.int i)
  | str (x : Str) : Rep K H (.str x) (.str x)
  | lst {a : Addr} {vs : List V} {ds : List D} : H a = some (.lst vs) → RepL K H vs ds → Rep K H (.ref a) (.lst ds)
  | tup {a : Addr} {vs : List V} {ds : List D} : H a = some (.tup vs) → RepL K H vs ds → Rep K H (.ref a) (.tup ds)
  | dct {a : Addr} {kvs : List (Key × V)} {m : List (Int × D)} : H a = some (.dK kvs) → RepD K H kvs m → Rep K H (.ref a) (.dct m)
  | scr {a : Addr} {ns : List Int} : SqL K H a (ns.map V.int) → Rep K H (.ref a) (.scr ns)
inductive RepL (K : PySem.W.Frag) (H : Hp) : List V → List D → Prop
  | nil : RepL K H [] []
  | cons {v : V} {vs : List V} {d : D} {ds : List D} : Rep K H v d → RepL K H vs ds → RepL K H (v :: vs) (d :: ds)
inductive RepD (K : PySem.W.Frag) (H : Hp) : List (Key × V) → List (Int × D) → Prop
  | nil : RepD K H [] []
  | cons {k : Int} {v : V} {kvs : List (Key × V)} {d : D} {m : List (Int × D)} : Rep K H v d → RepD K H kvs m → RepD K H ((.inl k, v) :: kvs) ((k, d) :: m)
end
section
variable {K : PySem.W.Frag} {H H' F F' : Hp}
mutual
theorem Rep.mono (e : Ex H H') : ∀ (d : D) (v : V), Rep K H v d → Rep K H' v d
  | .non, _, h => by cases h; exact .non
  | .bl _, _, h => by cases h; exact .bl _
  | .int _, _, h => by cases h; exact .int _
  | .str _, _, h => by cases h; exact .str _
  | .lst ds, _, h => by
    cases h with
    | lst h1 h2 => exact .lst (e _ _ h1) (RepL.mono e ds _ h2)
  | .tup ds, _, h => by
    cases h with
    | tup h1 h2 => exact .tup (e _ _ h1) (RepL.mono e ds _ h2)
  | .dct m, _, h => by
    cases h with
    | dct h1 h2 => exact .dct (e _ _ h1) (RepD.mono e m _ h2)
  | .scr _, _, h => by
    cases h with
    | scr h1 => exact .scr (e.seq h1)
theorem RepL.mono (e : Ex H H') : ∀ (ds : List D) (vs : List V), RepL K H vs ds → RepL K H' vs ds
  | [], _, h => by cases h; exact .nil
  | d :: ds, _, h => by
    cases h with
    | cons h1 h2 => exact .cons (Rep.mono e d _ h1) (RepL.mono e ds _ h2)
theorem RepD.mono (e : Ex H H') : ∀ (m : List (Int × D)) (kvs : List (Key × V)), RepD K H kvs m → RepD K H' kvs m
  | [], _, h => by cases h; exact .nil
  | (k, d) :: m, _, h => by
    cases h with
    | cons h1 h2 => exact .cons (Rep.mono e d _ h1) (RepD.mono e m _ h2)
end
theorem Rep.up {d : D} {v : V} (h : Rep K H v d) (e : Ex H H') : Rep K H' v d := Rep.mono e d v h
theorem RepL.up {ds : List D} {vs : List V} (h : RepL K H vs ds) (e : Ex H H') : RepL K H' vs ds := RepL.mono e ds vs h
theorem RepD.up {m : List (Int × D)} {kvs : List (Key × V)} (h : RepD K H kvs m) (e : Ex H H') : RepD K H' kvs m := RepD.mono e m kvs h
theorem RepL.len : ∀ {ds : List D} {vs : List V}, RepL K H vs ds → vs.length = ds.length
  | [], _, h => by cases h; rfl
  | d :: ds, _, h => by
    cases h with
    | cons _ h2 => simp only [List.length_cons, RepL.len h2]
theorem RepL.get : ∀ {ds : List D} {vs : List V} {i : Nat} {d : D}, RepL K H vs ds → ds[i]? = some d → ∃ v, vs[i]? = some v ∧ Rep K H v d
  | [], _, _, _, _, e => by simp at e
  | _ :: _, _, 0, _, h, e => by
    cases h with
    | cons h1 _ =>
      simp only [List.getElem?_cons_zero, Option.some.injEq] at e
      subst e
      exact ⟨_, rfl, h1⟩
  | _ :: ds, _, i + 1, _, h, e => by
    cases h with
    | cons _ h2 =>
      simp only [List.getElem?_cons_succ] at e
      obtain ⟨v, e1, e2⟩ := RepL.get h2 e
      exact ⟨v, by simpa using e1, e2⟩
theorem RepL.append : ∀ {ds es : List D} {vs us : List V}, RepL K H vs ds → RepL K H us es → RepL K H (vs ++ us) (ds ++ es)
  | [], _, _, _, h, g => by cases h; exact g
  | _ :: _, _, _, _, h, g => by
    cases h with
    | cons h1 h2 => exact .cons h1 (RepL.append h2 g)
theorem RepL.one {v : V} {d : D} (h : Rep K H v d) : RepL K H [v] [d] := .cons h .nil
theorem RepL.set {v : V} {d : D} (h : Rep K H v d) : ∀ {ds : List D} {vs : List V} (i : Nat), RepL K H vs ds → RepL K H (vs.set i v) (ds.set i d)
  | [], _, _, h => by cases h; exact .nil
  | _ :: _, _, 0, g => by
    cases g with
    | cons _ h2 => exact .cons h h2
  | _ :: _, _, i + 1, g => by
    cases g with
    | cons h1 h2 => exact .cons h1 (RepL.set h i h2)
theorem RepL.take : ∀ {ds : List D} {vs : List V} (n : Nat), RepL K H vs ds → RepL K H (vs.take n) (ds.take n)
  | [], _, n, h => by cases h; simp; exact .nil
  | _ :: _, _, 0, _ => .nil
  | _ :: _, _, n + 1, h => by
    cases h with
    | cons h1 h2 => exact .cons h1 (RepL.take n h2)
theorem RepL.drop : ∀ {ds : List D} {vs : List V} (n : Nat), RepL K H vs ds → RepL K H (vs.drop n) (ds.drop n)
  | [], _, n, h => by cases h; simp; exact .nil
  | _ :: _, _, 0, h => h
  | _ :: _, _, n + 1, h => by
    cases h with
    | cons _ h2 => exact RepL.drop n h2
theorem RepL.reverse {ds : List D} {vs : List V} (h : RepL K H vs ds) : RepL K H vs.reverse ds.reverse := by
  induction ds generalizing vs with
  | nil => cases h; exact .nil
  | cons d ds ih =>
    cases h with
    | cons h1 h2 =>
      simp only [List.reverse_cons]
      exact (ih h2).append (.one h1)
theorem RepL.eraseIdx : ∀ {ds : List D} {vs : List V} (i : Nat), RepL K H vs ds → RepL K H (vs.eraseIdx i) (ds.eraseIdx i)
  | [], _, _, h => by cases h; simp; exact .nil
  | _ :: _, _, 0, h => by
    cases h with
    | cons _ h2 => exact h2
  | _ :: _, _, i + 1, h => by
    cases h with
    | cons h1 h2 => exact .cons h1 (RepL.eraseIdx i h2)
theorem RepL.ints : ∀ (ns : List Int), RepL K H (ns.map V.int) (ns.map D.int)
  | [] => .nil
  | n :: ns => .cons (.int n) (RepL.ints ns)
theorem RepL.ints_inv : ∀ {ns : List Int} {vs : List V}, RepL K H vs (ns.map D.int) → vs = ns.map V.int
  | [], _, h => by cases h; rfl
  | n :: ns, _, h => by
    cases h with
    | cons h1 h2 =>
      cases h1
      rw [RepL.ints_inv h2]
      rfl

/-! ### lists of one's own -/
inductive OwnLs (K : PySem.W.Frag) (F H : Hp) : List Addr → List (List D) → Prop
  | nil : OwnLs K F H [] []
  | cons {a : Addr} {vs : List V} {ds : List D} {as : List Addr} {dss : List (List D)} : H a = some (.lst vs) → RepL K F vs ds → OwnLs K F H as dss → OwnLs K F H (a :: as) (ds :: dss)
inductive OwnD (K : PySem.W.Frag) (F H : Hp) : List (Key × V) → List Addr → List (Int × List D) → Prop
  | nil : OwnD K F H [] [] []
  | cons {k : Int} {a : Addr} {vs : List V} {ds : List D} {kvs : List (Key × V)} {as : List Addr} {m : List (Int × List D)} :
      H a = some (.lst vs) → RepL K F vs ds → OwnD K F H kvs as m → OwnD K F H ((.inl k, .ref a) :: kvs) (a :: as) ((k, ds) :: m)

/-- a yard: what its four fields hold -/
structure Yrd where
  ks : List D
  rest : List D
  tr : List (List D)
  go : List D
def yf (k r t g : Addr) : List (Str × V) := [("kinds", .ref k), ("rest", .ref r), ("tracks", .ref t), ("departed", .ref g)]
/-- a yard of class C at p; os: p, its list of tracks, what has left, the tracks -/
inductive YOk (K : PySem.W.Frag) (F H : Hp) (C : Addr) : Yrd → Addr → List Addr → Prop
  | mk {p dx kA rA tA gA : Addr} {kv rv gv : List V} {as : List Addr} {ks rest go : List D} {tr : List (List D)} : H p = some (.ins C dx (yf kA rA tA gA)) → F kA = some (.lst kv) → RepL K F kv ks → F rA = some (.lst rv) → RepL K F rv rest →
      H tA = some (.lst (as.map V.ref)) → OwnLs K F H as tr → H gA = some (.lst gv) → RepL K F gv go → YOk K F H C ⟨ks, rest, tr, go⟩ p (p :: tA :: gA :: as)

inductive Sl where
  | un | fz (d : D) | l1 (ds : List D) | l2 (dss : List (List D)) | dk (m : List (Int × D)) | dl (m : List (Int × List D)) | ob (C : Addr) (y : Yrd)

inductive SlotOk (K : PySem.W.Frag) (F H : Hp) : Sl → Option V → List Addr → Prop
  | un (v : Option V) : SlotOk K F H .un v []
  | fz {v : V} {d : D} : Rep K F v d → SlotOk K F H (.fz d) (some v) []
  | l1 {a : Addr} {vs : List V} {ds : List D} : H a = some (.lst vs) → RepL K F vs ds → SlotOk K F H (.l1 ds) (some (.ref a)) [a]
  | l2 {a : Addr} {as : List Addr} {dss : List (List D)} : H a = some (.lst (as.map V.ref)) → OwnLs K F H as dss → SlotOk K F H (.l2 dss) (some (.ref a)) (a :: as)
  | dk {a : Addr} {kvs : List (Key × V)} {m : List (Int × D)} : H a = some (.dK kvs) → RepD K F kvs m → SlotOk K F H (.dk m) (some (.ref a)) [a]
  | dl {a : Addr} {kvs : List (Key × V)} {as : List Addr} {m : List (Int × List D)} : H a = some (.dK kvs) → OwnD K F H kvs as m → SlotOk K F H (.dl m) (some (.ref a)) (a :: as)
  | ob {C p : Addr} {y : Yrd} {os : List Addr} : YOk K F H C y p os → SlotOk K F H (.ob C y) (some (.ref p)) os

theorem OwnLs.keep (e : Ex F F') : ∀ {as : List Addr} {dss : List (List D)}, (∀ a ∈ as, ∀ x, H a = some x → H' a = some x) → OwnLs K F H as dss → OwnLs K F' H' as dss
  | _, _, _, .nil => .nil
  | _, _, k, .cons h1 h2 h3 => .cons (k _ (List.mem_cons_self ..) _ h1) (h2.up e) (OwnLs.keep e (fun a ha => k a (List.mem_cons_of_mem _ ha)) h3)
theorem OwnD.keep (e : Ex F F') : ∀ {kvs : List (Key × V)} {as : List Addr} {m : List (Int × List D)}, (∀ a ∈ as, ∀ x, H a = some x → H' a = some x) → OwnD K F H kvs as m → OwnD K F' H' kvs as m
  | _, _, _, _, .nil => .nil
  | _, _, _, k, .cons h1 h2 h3 => .cons (k _ (List.mem_cons_self ..) _ h1) (h2.up e) (OwnD.keep e (fun a ha => k a (List.mem_cons_of_mem _ ha)) h3)
theorem YOk.keep {C p : Addr} {y : Yrd} {os : List Addr} (h : YOk K F H C y p os) (e : Ex F F') (k : ∀ a ∈ os, ∀ x, H a = some x → H' a = some x) : YOk K F' H' C y p os := by
  cases h with
  | mk h1 h2 h3 h4 h5 h6 h7 h8 h9 => exact .mk (k _ (by simp) _ h1) (e _ _ h2) (h3.up e) (e _ _ h4) (h5.up e) (k _ (by simp) _ h6) (h7.keep e fun a ha => k a (by simp [ha])) (k _ (by simp) _ h8) (h9.up e)
theorem SlotOk.keep {s : Sl} {v : Option V} {o : List Addr} (h : SlotOk K F H s v o) (e : Ex F F') (k : ∀ a ∈ o, ∀ x, H a = some x → H' a = some x) : SlotOk K F' H' s v o := by
  cases h with
  | un => exact .un _
  | fz h => exact .fz (h.up e)
  | l1 h1 h2 => exact .l1 (k _ (List.mem_cons_self ..) _ h1) (h2.up e)
  | l2 h1 h2 => exact .l2 (k _ (List.mem_cons_self ..) _ h1) (h2.keep e fun a ha => k a (List.mem_cons_of_mem _ ha))
  | dk h1 h2 => exact .dk (k _ (List.mem_cons_self ..) _ h1) (h2.up e)
  | dl h1 h2 => exact .dl (k _ (List.mem_cons_self ..) _ h1) (h2.keep e fun a ha => k a (List.mem_cons_of_mem _ ha))
  | ob h => exact .ob (h.keep e k)

/-! ### the slots of a frame -/
abbrev Env := List Sl
def nth : Env → Nat → Sl
  | [], _ => .un
  | s :: _, 0 => s
  | _ :: r, n + 1 => nth r n
def put : Env → Nat → Sl → Env
  | [], _, _ => []
  | _ :: r, 0, s => s :: r
  | t :: r, n + 1, s => t :: put r n s
inductive Slots (K : PySem.W.Frag) (F H : Hp) : Env → St → List Addr → Prop
  | nil : Slots K F H [] [] []
  | cons {s : Sl} {v : Option V} {o os : List Addr} {ρ : Env} {σ : St} : SlotOk K F H s v o → Slots K F H ρ σ os → Slots K F H (s :: ρ) (v :: σ) (o ++ os)
theorem Slots.keep (e : Ex F F') : ∀ {ρ : Env} {σ : St} {os : List Addr}, (∀ a ∈ os, ∀ x, H a = some x → H' a = some x) → Slots K F H ρ σ os → Slots K F' H' ρ σ os
  | _, _, _, _, .nil => .nil
  | _, _, _, k, .cons h1 h2 => .cons (h1.keep e fun a ha => k a (List.mem_append.mpr (.inl ha))) (Slots.keep e (fun a ha => k a (List.mem_append.mpr (.inr ha))) h2)
/-- one slot, and the others -/
theorem Slots.at : ∀ {ρ : Env} {σ : St} {os : List Addr} (i : Nat), Slots K F H ρ σ os → nth ρ i ≠ .un → ∃ v o os1 os2, σ[i]? = some v ∧ SlotOk K F H (nth ρ i) v o ∧ os = os1 ++ o ++ os2 ∧
    ∀ (F' H' : Hp) (s' : Sl) (v' : Option V) (o' : List Addr), Ex F F' → (∀ a ∈ os1 ++ os2, ∀ x, H a = some x → H' a = some x) → SlotOk K F' H' s' v' o' → Slots K F' H' (put ρ i s') (σ.set i v') (os1 ++ o' ++ os2)
  | [], _, _, _, _, n => (n rfl).elim
  | _ :: _, _, _, 0, .cons (o := o) (os := os) h1 h2, _ => ⟨_, o, [], os, rfl, h1, rfl, fun F' H' s' v' o' e k h => .cons h (h2.keep e k)⟩
  | _ :: _, _, _, i + 1, .cons (o := o) (os := os) h1 h2, n => by
    obtain ⟨v, o2, os1, os2, e1, e2, e3, k⟩ := Slots.at i h2 n
    refine ⟨v, o2, o ++ os1, os2, by simpa using e1, e2, by rw [e3]; simp, fun F' H' s' v' o' e kk h => ?_⟩
    have g := k F' H' s' v' o' e (fun a ha => kk a (by simp only [List.mem_append] at ha ⊢; grind)) h
    have r : o ++ os1 ++ o' ++ os2 = o ++ (os1 ++ o' ++ os2) := by simp
    rw [r]
    exact .cons (h1.keep e fun a ha => kk a (by simp only [List.mem_append]; grind)) g
theorem put_nth : ∀ {ρ : Env} {i : Nat} {s : Sl}, nth ρ i ≠ .un → nth (put ρ i s) i = s
  | [], _, _, n => (n rfl).elim
  | _ :: _, 0, _, _ => rfl
  | _ :: r, i + 1, s, n => put_nth (ρ := r) (i := i) n
theorem Slots.put : ∀ {ρ : Env} {σ : St} {os : List Addr} (i : Nat), Slots K F H ρ σ os → ∀ (F' H' : Hp) (s' : Sl) (v' : Option V) (o' : List Addr), Ex F F' → (∀ a ∈ os, ∀ x, H a = some x → H' a = some x) → SlotOk K F' H' s' v' o' →
    ∃ os1 os2, (os1 ++ os2).Sublist os ∧ (Slots K F' H' (put ρ i s') (σ.set i v') (os1 ++ o' ++ os2) ∨ Slots K F' H' (put ρ i s') (σ.set i v') (os1 ++ os2))
  | [], _, _, i, .nil, _, _, _, _, _, _, _, _ => ⟨[], [], .slnil, .inr .nil⟩
  | _ :: _, _, _, 0, .cons (o := o) (os := os) h1 h2, F', H', s', v', o', e, k, h => ⟨[], os, by simp, .inl (.cons h (h2.keep e fun a ha => k a (List.mem_append.mpr (.inr ha))))⟩
  | _ :: _, _, _, i + 1, .cons (o := o) (os := os) h1 h2, F', H', s', v', o', e, k, h => by
    obtain ⟨os1, os2, e1, g⟩ := Slots.put i h2 F' H' s' v' o' e (fun a ha => k a (List.mem_append.mpr (.inr ha))) h
    have h1' := h1.keep e fun a ha => k a (List.mem_append.mpr (.inl ha))
    refine ⟨o ++ os1, os2, by rw [List.append_assoc]; exact (List.Sublist.refl o).append e1, ?_⟩
    rcases g with g | g
    · left
      have r : o ++ os1 ++ o' ++ os2 = o ++ (os1 ++ o' ++ os2) := by simp
      rw [r]
      exact .cons h1' g
    · right
      rw [List.append_assoc]
      exact .cons h1' g

/-! ### a step of what is known; a state -/
structure Stp (F H F2 H2 : Hp) : Prop where
  fF : Ex F F2
  hH : Ex H H2
  fh : Ex F2 H2
  nw : ∀ a, F a = none → F2 a ≠ none → H a = none
theorem Stp.refl {F H : Hp} (h : Ex F H) : Stp F H F H := ⟨Ex.refl F, Ex.refl H, h, fun _ e n => (n e).elim⟩
theorem Stp.trans {F H F2 H2 F3 H3 : Hp} (a : Stp F H F2 H2) (b : Stp F2 H2 F3 H3) : Stp F H F3 H3 :=
  ⟨a.fF.trans b.fF, a.hH.trans b.hH, b.fh, fun x e n => by
    by_cases q : F2 x = none
    · exact a.hH.back (b.nw x q n)
    · exact a.nw x e q⟩
/-- the heap alone grows -/
theorem Stp.grow {F H H2 : Hp} (h : Ex F H) (e : Ex H H2) : Stp F H F H2 := ⟨Ex.refl F, e, h.trans e, fun _ e n => (n e).elim⟩
/-- a new frozen thing -/
theorem Stp.cell {F H : Hp} {p : Addr} {o : HO} (h : Ex F H) (hp : H p = none) : Stp F H (upd F p o) (upd H p o) :=
  ⟨Ex.new (h.back hp), Ex.new hp, fun a u e => by
    by_cases q : a = p
    · subst q
      rw [upd_same] at e ⊢
      exact e
    · rw [upd_ne q] at e ⊢
      exact h a u e, fun a e n => by
    by_cases q : a = p
    · subst q; exact hp
    · rw [upd_ne q] at n
      exact (n e).elim⟩

structure Rel (K : PySem.W.Frag) (H0 F0 F H : Hp) (ρ : Env) (σ : St) : Prop where
  sl : ∃ os, Slots K F H ρ σ os ∧ os.Nodup ∧ ∀ a ∈ os, F a = none ∧ H0 a = none
  f0 : Ex F0 F
  fh : Ex F H
  h0 : Ex H0 H
  nw : ∀ a, F0 a = none → F a ≠ none → H0 a = none
theorem Slots.dom : ∀ {ρ : Env} {σ : St} {os : List Addr}, Slots K F H ρ σ os → ∀ a ∈ os, H a ≠ none
  | _, _, _, .nil, _, h => by cases h
  | _, _, _, .cons h1 h2, a, h => by
    rcases List.mem_append.mp h with h | h
    · have lsok : ∀ {as : List Addr} {dss : List (List D)}, OwnLs K F H as dss → a ∈ as → H a ≠ none := by
        intro as
        induction as with
        | nil => intro _ _ q; cases q
        | cons b as ih =>
          intro dss q hm
          cases q with
          | cons q1 _ q3 =>
            rcases List.mem_cons.mp hm with rfl | hm
            · rw [q1]; simp
            · exact ih q3 hm
      have ldok : ∀ {as : List Addr} {kvs : List (Key × V)} {m : List (Int × List D)}, OwnD K F H kvs as m → a ∈ as → H a ≠ none := by
        intro as
        induction as with
        | nil => intro _ _ _ q; cases q
        | cons b as ih =>
          intro kvs m q hm
          cases q with
          | cons q1 _ q3 =>
            rcases List.mem_cons.mp hm with rfl | hm
            · rw [q1]; simp
            · exact ih q3 hm
      cases h1 with
      | un => cases h
      | fz => cases h
      | l1 q _ =>
        simp only [List.mem_singleton] at h
        subst h
        rw [q]; simp
      | l2 q q2 =>
        rcases List.mem_cons.mp h with rfl | h
        · rw [q]; simp
        · exact lsok q2 h
      | dk q _ =>
        simp only [List.mem_singleton] at h
        subst h
        rw [q]; simp
      | dl q q2 =>
        rcases List.mem_cons.mp h with rfl | h
        · rw [q]; simp
        · exact ldok q2 h
      | ob q =>
        cases q with
        | mk g1 _ _ _ _ g6 g7 g8 _ =>
          rcases List.mem_cons.mp h with rfl | h
          · rw [g1]; simp
          rcases List.mem_cons.mp h with rfl | h
          · rw [g6]; simp
          rcases List.mem_cons.mp h with rfl | h
          · rw [g8]; simp
          · exact lsok g7 h
    · exact Slots.dom h2 a h
theorem Rel.step {H0 F0 F2 H2 : Hp} {ρ : Env} {σ : St} (r : Rel K H0 F0 F H ρ σ) (s : Stp F H F2 H2) : Rel K H0 F0 F2 H2 ρ σ := by
  obtain ⟨os, h1, h2, h3⟩ := r.sl
  refine ⟨⟨os, h1.keep s.fF (fun a _ x e => s.hH a x e), h2, fun a ha => ⟨?_, (h3 a ha).2⟩⟩, r.f0.trans s.fF, s.fh, r.h0.trans s.hH, fun a e n => ?_⟩
  · cases q : F2 a with
    | none => rfl
    | some o => exact (h1.dom a ha (s.nw a (h3 a ha).1 (by rw [q]; simp))).elim
  · by_cases q : F a = none
    · exact r.h0.back (s.nw a q n)
    · exact r.nw a e q
/-- a frozen thing at a name -/
theorem Rel.putFz {H0 F0 : Hp} {ρ : Env} {σ : St} (r : Rel K H0 F0 F H ρ σ) (i : Nat) {v : V} {d : D} (h : Rep K F v d) : Rel K H0 F0 F H (put ρ i (.fz d)) (σ.set i (some v)) := by
  obtain ⟨os, h1, h2, h3⟩ := r.sl
  obtain ⟨os1, os2, e, g⟩ := h1.put i F H (.fz d) (some v) [] (Ex.refl F) (fun _ _ _ e => e) (.fz h)
  have g' : Slots K F H (DL.put ρ i (.fz d)) (σ.set i (some v)) (os1 ++ os2) := by
    rcases g with g | g
    · simpa using g
    · exact g
  exact ⟨⟨_, g', e.nodup h2, fun a ha => h3 a (e.subset ha)⟩, r.f0, r.fh, r.h0, r.nw⟩
/-- a slot is let go -/
theorem Rel.putUn {H0 F0 : Hp} {ρ : Env} {σ : St} (r : Rel K H0 F0 F H ρ σ) (i : Nat) (v : Option V) : Rel K H0 F0 F H (put ρ i .un) (σ.set i v) := by
  obtain ⟨os, h1, h2, h3⟩ := r.sl
  obtain ⟨os1, os2, e, g⟩ := h1.put i F H .un v [] (Ex.refl F) (fun _ _ _ e => e) (.un v)
  have g' : Slots K F H (DL.put ρ i .un) (σ.set i v) (os1 ++ os2) := by
    rcases g with g | g
    · simpa using g
    · exact g
  exact ⟨⟨_, g', e.nodup h2, fun a ha => h3 a (e.subset ha)⟩, r.f0, r.fh, r.h0, r.nw⟩
/-- new things of one's own at a name: o their addresses -/
theorem Rel.setOwn {H0 F0 F2 H2 : Hp} {ρ : Env} {σ : St} (r : Rel K H0 F0 F H ρ σ) (s : Stp F H F2 H2) (i : Nat) {sl : Sl} {v : V} {o : List Addr} (h : SlotOk K F2 H2 sl (some v) o) (hn : o.Nodup)
    (ho : ∀ a ∈ o, F2 a = none ∧ H a = none) : Rel K H0 F0 F2 H2 (put ρ i sl) (σ.set i (some v)) := by
  have r2 := r.step s
  obtain ⟨os, h1, h2, h3⟩ := r.sl
  have h1' : Slots K F2 H2 ρ σ os := h1.keep s.fF fun a _ x e => s.hH a x e
  have h3' : ∀ a ∈ os, F2 a = none ∧ H0 a = none := fun a ha => by
    refine ⟨?_, (h3 a ha).2⟩
    cases q : F2 a with
    | none => rfl
    | some o => exact (h1.dom a ha (s.nw a (h3 a ha).1 (by rw [q]; simp))).elim
  have dj : ∀ a ∈ o, a ∉ os := fun a ha hb => h1.dom a hb (ho a ha).2
  have ho' : ∀ a ∈ o, F2 a = none ∧ H0 a = none := fun a ha => ⟨(ho a ha).1, r.h0.back (ho a ha).2⟩
  obtain ⟨os1, os2, e, g⟩ := h1'.put i F2 H2 sl (some v) o (Ex.refl _) (fun _ _ _ e => e) h
  rcases g with g | g
  · refine ⟨⟨_, g, ?_, fun a ha => ?_⟩, r2.f0, r2.fh, r2.h0, r2.nw⟩
    · have q := e.nodup h2
      simp only [List.nodup_append, List.mem_append] at q ⊢
      refine ⟨⟨q.1, hn, fun a ha b hb => ?_⟩, q.2.1, fun a ha b hb => ?_⟩
      · intro z
        subst z
        exact dj a hb (e.subset (List.mem_append.mpr (.inl ha)))
      · intro z
        subst z
        rcases ha with ha | ha
        · exact q.2.2 a ha a hb rfl
        · exact dj a ha (e.subset (List.mem_append.mpr (.inr hb)))
    · simp only [List.mem_append] at ha
      rcases ha with (ha | ha) | ha
      · exact h3' a (e.subset (List.mem_append.mpr (.inl ha)))
      · exact ho' a ha
      · exact h3' a (e.subset (List.mem_append.mpr (.inr ha)))
  · exact ⟨⟨_, g, e.nodup h2, fun a ha => h3' a (e.subset ha)⟩, r2.f0, r2.fh, r2.h0, r2.nw⟩
/-- a slot's own things are changed: the state behind, and what the other slots ask. c: the addresses written -/
theorem Rel.mutate {H0 F0 : Hp} {ρ : Env} {σ : St} (r : Rel K H0 F0 F H ρ σ) (i : Nat) (hi : nth ρ i ≠ .un) :
    ∃ v o, σ[i]? = some v ∧ SlotOk K F H (nth ρ i) v o ∧ o.Nodup ∧ (∀ a ∈ o, F a = none ∧ H0 a = none) ∧
      ∀ (F' H' : Hp) (s' : Sl) (o' : List Addr), Ex F F' → Ex F' H' → Ex H0 H' → (∀ a, F0 a = none → F' a ≠ none → H0 a = none) → (∀ a, a ∉ o → ∀ x, H a = some x → H' a = some x) → SlotOk K F' H' s' v o' → o'.Nodup →
        (∀ a ∈ o', F' a = none ∧ H0 a = none ∧ (a ∈ o ∨ H a = none)) → (∀ a, a ∉ o → F' a ≠ none → F a ≠ none ∨ H a = none) → Rel K H0 F0 F' H' (put ρ i s') σ := by
  obtain ⟨os, h1, h2, h3⟩ := r.sl
  obtain ⟨v, o, os1, os2, e1, e2, e3, k⟩ := h1.at i hi
  subst e3
  have dom := h1.dom
  simp only [List.nodup_append, List.mem_append] at h2
  obtain ⟨⟨n1, n2, n12⟩, n3, n123⟩ := h2
  refine ⟨v, o, e1, e2, n2, fun a ha => h3 a (by simp [ha]), fun F' H' s' o' ef fh h0 nw kp hs hn ho hf => ?_⟩
  have out : ∀ a ∈ os1 ++ os2, a ∉ o := fun a ha hb => by
    rcases List.mem_append.mp ha with ha | ha
    · exact n12 a ha a hb rfl
    · exact n123 a (.inr hb) a ha rfl
  have g := k F' H' s' v o' ef (fun a ha x e => kp a (out a ha) x e) hs
  have es : σ.set i v = σ := by
    rw [List.getElem?_eq_some_iff] at e1
    obtain ⟨hi', rfl⟩ := e1
    exact List.set_getElem_self hi'
  rw [es] at g
  refine ⟨⟨_, g, ?_, fun a ha => ?_⟩, r.f0.trans ef, fh, h0, nw⟩
  · have dj : ∀ a ∈ o', a ∉ os1 ∧ a ∉ os2 := fun a ha => by
      rcases (ho a ha).2.2 with q | q
      · exact ⟨fun z => out a (List.mem_append.mpr (.inl z)) q, fun z => out a (List.mem_append.mpr (.inr z)) q⟩
      · exact ⟨fun z => dom a (by simp [z]) q, fun z => dom a (by simp [z]) q⟩
    simp only [List.nodup_append, List.mem_append]
    refine ⟨⟨n1, hn, fun a ha b hb z => ?_⟩, n3, fun a ha b hb z => ?_⟩
    · subst z
      exact (dj a hb).1 ha
    · subst z
      rcases ha with ha | ha
      · exact n123 a (.inl ha) a hb rfl
      · exact (dj a ha).2 hb
  · simp only [List.mem_append] at ha
    have old : ∀ a, a ∈ os1 ++ os2 → F' a = none ∧ H0 a = none := fun a ha => by
      have q := h3 a (by simp only [List.mem_append] at ha ⊢; grind)
      refine ⟨?_, q.2⟩
      cases z : F' a with
      | none => rfl
      | some x =>
        rcases hf a (out a ha) (by rw [z]; simp) with w | w
        · exact (w q.1).elim
        · exact (dom a (by simp only [List.mem_append] at ha ⊢; grind) w).elim
    rcases ha with (ha | ha) | ha
    · exact old a (by simp [ha])
    · exact ⟨(ho a ha).1, (ho a ha).2.1⟩
    · exact old a (by simp [ha])
end
end DL

/-! DL B: expressions -/
namespace DL
open PySem L2

abbrev DE := Env → (D → Prop) → Prop
abbrev DT := Env → (Bool → Prop) → Prop
abbrev DA := Env → (List D → Prop) → Prop
abbrev DO := Env → (Option Int → Prop) → Prop

def pick (b : Bool) (F H : Hp) : Hp := match b with | true => F | false => H
section
variable {K : PySem.W.Frag} {F H F2 H2 H0 F0 : Hp} {b c : Bool}
theorem pick_stp (s : Stp F H F2 H2) : Ex (pick b F H) (pick b F2 H2) := by
  cases b with
  | true => exact s.fF
  | false => exact s.hH
theorem pick_of (e : Ex F H) : Ex F (pick b F H) := by
  cases b with
  | true => exact Ex.refl F
  | false => exact e
theorem pick_to (e : Ex F H) : Ex (pick b F H) H := by
  cases b with
  | true => exact e
  | false => exact Ex.refl H
theorem Rep.stp {v : V} {d : D} (h : Rep K (pick b F H) v d) (s : Stp F H F2 H2) : Rep K (pick b F2 H2) v d := h.up (pick_stp s)
theorem RepL.stp {v : List V} {d : List D} (h : RepL K (pick b F H) v d) (s : Stp F H F2 H2) : RepL K (pick b F2 H2) v d := h.up (pick_stp s)
theorem Rep.any {v : V} {d : D} (h : Rep K F v d) (e : Ex F H) : Rep K (pick b F H) v d := h.up (pick_of e)
end
/-- data that asks nothing of the heap -/
def D.flat : D → Bool
  | .non => true | .bl _ => true | .int _ => true | .str _ => true | _ => false
theorem Rep.flat {K : PySem.W.Frag} {H H' : Hp} {v : V} {d : D} (h : Rep K H v d) (e : d.flat = true) : Rep K H' v d := by
  cases h with
  | non => exact .non
  | bl => exact .bl _
  | int => exact .int _
  | str => exact .str _
  | _ => cases e

/-- the reading te of an expression does what de says. b: true: of frozen things; false: of what stands now -/
def SE (b : Bool) (K : PySem.W.Frag) (te : TE) (de : DE) : Prop := ∀ (H0 F0 F H : Hp) (ρ : Env) (σ : St) (Q : D → Prop) (R : VK), Rel K H0 F0 F H ρ σ → de ρ Q →
  (∀ v d F2 H2, Stp F H F2 H2 → Rep K (pick b F2 H2) v d → Q d → R v H2) → te σ H R
def ST (K : PySem.W.Frag) (tt : TT) (dt : DT) : Prop := ∀ (H0 F0 F H : Hp) (ρ : Env) (σ : St) (Q : Bool → Prop) (R : Bool → Hp → Prop), Rel K H0 F0 F H ρ σ → dt ρ Q →
  (∀ c F2 H2, Stp F H F2 H2 → Q c → R c H2) → tt σ H R
def SA (b : Bool) (K : PySem.W.Frag) (ta : TA) (da : DA) : Prop := ∀ (H0 F0 F H : Hp) (ρ : Env) (σ : St) (Q : List D → Prop) (R : List V → Hp → Prop), Rel K H0 F0 F H ρ σ → da ρ Q →
  (∀ vs ds F2 H2, Stp F H F2 H2 → RepL K (pick b F2 H2) vs ds → Q ds → R vs H2) → ta σ H R
def SO (K : PySem.W.Frag) (to : TO) (d : DO) : Prop := ∀ (H0 F0 F H : Hp) (ρ : Env) (σ : St) (Q : Option Int → Prop) (R : Option Int → Hp → Prop), Rel K H0 F0 F H ρ σ → d ρ Q →
  (∀ o F2 H2, Stp F H F2 H2 → Q o → R o H2) → to σ H R
/-- a new list -/
def SL (K : PySem.W.Frag) (te : TE) (dl : DA) : Prop := ∀ (H0 F0 F H : Hp) (ρ : Env) (σ : St) (Q : List D → Prop) (R : VK), Rel K H0 F0 F H ρ σ → dl ρ Q →
  (∀ p vs ds F2 H2, Stp F H F2 H2 → H p = none → F2 p = none → H2 p = some (.lst vs) → RepL K F2 vs ds → Q ds → R (.ref p) H2) → te σ H R

structure QE (b : Bool) (X : Cx) (e : Expr) (te : TE) (de : DE) : Prop where
  pe : PE X e te
  se : SE b X.K te de
structure QT (X : Cx) (e : Expr) (tt : TT) (dt : DT) : Prop where
  pt : PT X e tt
  st : ST X.K tt dt
structure QW (X : Cx) (e : Expr) (tt : TT) (dt : DT) : Prop where
  pw : PW X e tt
  st : ST X.K tt dt
structure QA (b : Bool) (X : Cx) (es : List Expr) (ta : TA) (da : DA) : Prop where
  pa : PA X es ta
  sa : SA b X.K ta da
structure QO (X : Cx) (e : Option Expr) (to : TO) (d : DO) : Prop where
  po : PO X e to
  so : SO X.K to d
structure QL (X : Cx) (e : Expr) (te : TE) (dl : DA) : Prop where
  pe : PE X e te
  sl : SL X.K te dl
theorem QW.qt {X : Cx} {e : Expr} {tt : TT} {dt : DT} (h : QW X e tt dt) : QT X e tt dt := ⟨h.pw.pt, h.st⟩

/-! ### names, constants -/
def dC (d : D) : DE := fun _ Q => Q d
def Sl.get : Bool → Sl → (D → Prop) → Prop
  | _, .fz d, Q => Q d
  | false, .l1 ds, Q => Q (.lst ds)
  | false, .l2 dss, Q => Q (.lst (dss.map D.lst))
  | false, .dk m, Q => Q (.dct m)
  | _, _, _ => False
def dVar (b : Bool) (i : Nat) : DE := fun ρ Q => Sl.get b (nth ρ i) Q
section
variable {X : Cx} {b c : Bool} {pos : Pos}
theorem qe_int {i j} : QE b X (.Constant (.int i) j pos) (tC (.int i)) (dC (.int i)) := ⟨pe_int, fun _ _ F H _ _ _ _ r q k => k _ _ F H (Stp.refl r.fh) (.int i) q⟩
theorem qe_bl {i j} : QE b X (.Constant (.bool i) j pos) (tC (.bl i)) (dC (.bl i)) := ⟨pe_bl, fun _ _ F H _ _ _ _ r q k => k _ _ F H (Stp.refl r.fh) (.bl i) q⟩
theorem qe_non {j} : QE b X (.Constant .none j pos) (tC .non) (dC .non) := ⟨pe_non, fun _ _ F H _ _ _ _ r q k => k _ _ F H (Stp.refl r.fh) .non q⟩
theorem qe_str {i j} : QE b X (.Constant (.str i) j pos) (tC (.str i)) (dC (.str i)) := ⟨pe_str, fun _ _ F H _ _ _ _ r q k => k _ _ F H (Stp.refl r.fh) (.str i) q⟩
/-- a module's constant -/
theorem qe_globI {x : Str} {n : Int} {t : Tok} (hg : Gl X x) (hm : X.mg x = some (.int n t)) (hd : (x == ("__debug__" : Str)) = false := by decide) : QE b X (.Name x pos) (tC (.int n)) (dC (.int n)) :=
  ⟨pe_glob hg hm ⟨t, rfl⟩ hd, fun _ _ F H _ _ _ _ r q k => k _ _ F H (Stp.refl r.fh) (.int n) q⟩
theorem qe_globS {x : Str} {n : Str} {t : Tok} (hg : Gl X x) (hm : X.mg x = some (.str n t)) (hd : (x == ("__debug__" : Str)) = false := by decide) : QE b X (.Name x pos) (tC (.str n)) (dC (.str n)) :=
  ⟨pe_glob hg hm ⟨t, rfl⟩ hd, fun _ _ F H _ _ _ _ r q k => k _ _ F H (Stp.refl r.fh) (.str n) q⟩
theorem OwnLs.rep {K : PySem.W.Frag} {F H : Hp} (e : Ex F H) : ∀ {as : List Addr} {dss : List (List D)}, OwnLs K F H as dss → RepL K H (as.map V.ref) (dss.map D.lst)
  | _, _, .nil => .nil
  | _, _, .cons h1 h2 h3 => .cons (.lst h1 (h2.up e)) (OwnLs.rep e h3)
theorem slot_rep {K : PySem.W.Frag} {F H : Hp} {s : Sl} {v : Option V} {o : List Addr} {Q : D → Prop} (e : Ex F H) (h : SlotOk K F H s v o) (q : Sl.get b s Q) : ∃ u d, v = some u ∧ Rep K (pick b F H) u d ∧ Q d := by
  cases h with
  | un => cases b <;> exact q.elim
  | fz h => exact ⟨_, _, rfl, h.any e, by cases b <;> exact q⟩
  | l1 h1 h2 =>
    cases b with
    | true => exact q.elim
    | false => exact ⟨_, _, rfl, .lst h1 (h2.up e), q⟩
  | l2 h1 h2 =>
    cases b with
    | true => exact q.elim
    | false => exact ⟨_, _, rfl, .lst h1 (h2.rep e), q⟩
  | dk h1 h2 =>
    cases b with
    | true => exact q.elim
    | false => exact ⟨_, _, rfl, .dct h1 (h2.up e), q⟩
  | dl h1 h2 => cases b <;> exact q.elim
  | ob h => cases b <;> exact q.elim
theorem get_ne {s : Sl} {Q : D → Prop} (q : Sl.get b s Q) : s ≠ .un := by
  intro e
  subst e
  cases b <;> exact q.elim
theorem se_var {K : PySem.W.Frag} (i : Nat) : SE b K (tVar i) (dVar b i) := fun H0 F0 F H ρ σ Q R r q k => by
  obtain ⟨os, h1, _, _⟩ := r.sl
  obtain ⟨v, o, _, _, e1, e2, _, _⟩ := h1.at i (get_ne q)
  obtain ⟨u, d, rfl, h, hq⟩ := slot_rep r.fh e2 q
  exact ⟨u, e1, k u d F H (Stp.refl r.fh) h hq⟩
theorem qv (i : Nat) {x : Str} (hN : X.N[i]? = some x := by rfl) (hv : Vis X.env.scope x := by first | exact Or.inl rfl | exact Or.inr (Or.inl rfl) | exact Or.inr (Or.inr rfl)) (hd : (x == ("__debug__" : Str)) = false := by decide)
    (hcd : (x == ("__classdict__" : Str)) = false := by decide) : QE b X (.Name x pos) (tVar i) (dVar b i) := ⟨pe_var hN hv hd hcd, se_var i⟩

/-- what stands now, where the answer asks nothing of the heap -/
def dFlat (de : DE) : DE := fun ρ Q => de ρ fun d => d.flat = true ∧ Q d
theorem qe_flat {e : Expr} {te : TE} {de : DE} (h : QE c X e te de) : QE b X e te (dFlat de) := ⟨h.pe, fun H0 F0 F H ρ σ Q R r q k =>
  h.se H0 F0 F H ρ σ _ R r q fun v d F2 H2 s hr ⟨hf, hq⟩ => k v d F2 H2 s (hr.flat hf) hq⟩

/-! ### operators on values: data in, data out -/
abbrev DR2 := D → D → (D → Prop) → Prop
def R2D (c b : Bool) (K : PySem.W.Frag) (r : R2) (dr : DR2) : Prop := ∀ (F H : Hp) (x y : V) (d e : D) (Q : D → Prop) (R : VK), Ex F H → Rep K (pick c F H) x d → Rep K (pick c F H) y e → dr d e Q →
  (∀ v d F2 H2, Stp F H F2 H2 → Rep K (pick b F2 H2) v d → Q d → R v H2) → r x y H R
def dOp (dr : DR2) (da db : DE) : DE := fun ρ Q => da ρ fun x => db ρ fun y => dr x y Q
theorem se_op {K : PySem.W.Frag} {r : R2} {dr : DR2} {ta tb : TE} {da db : DE} (hr : R2D c b K r dr) (ha : SE c K ta da) (hb : SE c K tb db) : SE b K (tOp r ta tb) (dOp dr da db) := fun H0 F0 F H ρ σ Q R rl q k =>
  ha H0 F0 F H ρ σ _ _ rl q fun x d F2 H2 s2 hx q2 => hb H0 F0 F2 H2 ρ σ _ _ (rl.step s2) q2 fun y e F3 H3 s3 hy q3 =>
    hr F3 H3 x y d e Q R s3.fh (hx.stp s3) hy q3 fun v d F4 H4 s4 hv hq => k v d F4 H4 ((s2.trans s3).trans s4) hv hq
def oI (g : Int → Int → D) : DR2 := fun x y Q => match x, y with | .int i, .int j => Q (g i j) | _, _ => False
def oIc (C : Int → Int → Prop) (g : Int → Int → D) : DR2 := fun x y Q => match x, y with | .int i, .int j => C i j ∧ Q (g i j) | _, _ => False
theorem oI_inv {g : Int → Int → D} {x y : D} {Q : D → Prop} (h : oI g x y Q) : ∃ i j, x = .int i ∧ y = .int j ∧ Q (g i j) := by
  unfold oI at h
  split at h
  · exact ⟨_, _, rfl, rfl, h⟩
  · exact h.elim
theorem oIc_inv {C : Int → Int → Prop} {g : Int → Int → D} {x y : D} {Q : D → Prop} (h : oIc C g x y Q) : ∃ i j, x = .int i ∧ y = .int j ∧ C i j ∧ Q (g i j) := by
  unfold oIc at h
  split at h
  · exact ⟨_, _, rfl, rfl, h⟩
  · exact h.elim
theorem r2_int {K : PySem.W.Frag} (g : Int → Int → Int) : R2D c b K (rI0 fun i j => .int (g i j)) (oI fun i j => .int (g i j)) := fun F H x y d e Q R ef hx hy q k => by
  obtain ⟨i, j, rfl, rfl, q⟩ := oI_inv q
  cases hx
  cases hy
  exact ⟨i, j, rfl, rfl, k _ _ F H (Stp.refl ef) (.int _) q⟩
theorem r2_intC {K : PySem.W.Frag} (C : Int → Int → Prop) (g : Int → Int → Int) : R2D c b K (rI C fun i j => .int (g i j)) (oIc C fun i j => .int (g i j)) := fun F H x y d e Q R ef hx hy q k => by
  obtain ⟨i, j, rfl, rfl, hc, q⟩ := oIc_inv q
  cases hx
  cases hy
  exact ⟨i, j, rfl, rfl, hc, k _ _ F H (Stp.refl ef) (.int _) q⟩
theorem r2_cmp {K : PySem.W.Frag} (g : Int → Int → Bool) : R2D c b K (rI0 fun i j => .bl (g i j)) (oI fun i j => .bl (g i j)) := fun F H x y d e Q R ef hx hy q k => by
  obtain ⟨i, j, rfl, rfl, q⟩ := oI_inv q
  cases hx
  cases hy
  exact ⟨i, j, rfl, rfl, k _ _ F H (Stp.refl ef) (.bl _) q⟩
/-- == and != of plain things -/
def oEq (neg : Bool) : DR2 := fun x y Q => match x, y with
  | .int i, .int j => Q (.bl (xor neg (decide (i = j))))
  | .str i, .str j => Q (.bl (xor neg (decide (i = j))))
  | .bl i, .bl j => Q (.bl (xor neg (decide (i = j))))
  | .non, .non => Q (.bl (xor neg true))
  | .non, .int _ => Q (.bl (xor neg false))
  | .int _, .non => Q (.bl (xor neg false))
  | .non, .str _ => Q (.bl (xor neg false))
  | .str _, .non => Q (.bl (xor neg false))
  | _, _ => False
theorem r2_eq {K : PySem.W.Frag} : R2D c b K rEq (oEq false) := fun F H x y d e Q R ef hx hy q k => by
  unfold oEq at q
  split at q <;> first | exact q.elim | skip
  all_goals
    cases hx
    cases hy
    refine ⟨rfl, k _ _ F H (Stp.refl ef) (.bl _) ?_⟩
    simpa using q
theorem r2_ne {K : PySem.W.Frag} : R2D c b K rNe (oEq true) := fun F H x y d e Q R ef hx hy q k => by
  unfold oEq at q
  split at q <;> first | exact q.elim | skip
  all_goals
    cases hx
    cases hy
    refine ⟨rfl, k _ _ F H (Stp.refl ef) (.bl _) ?_⟩
    simpa using q
def rIsN : R2 := fun x y H Q => y = .non ∧ Q (.bl (decide (x = .non))) H
def rNotN : R2 := fun x y H Q => y = .non ∧ Q (.bl (!decide (x = .non))) H
def oIsN (neg : Bool) : DR2 := fun x y Q => match x, y with
  | .non, .non => Q (.bl (xor neg true))
  | _, .non => Q (.bl (xor neg false))
  | _, _ => False
theorem r2_isN {K : PySem.W.Frag} : R2D c b K rIsN (oIsN false) := fun F H x y d e Q R ef hx hy q k => by
  unfold oIsN at q
  split at q <;> first | exact q.elim | skip
  all_goals
    cases hy
    refine ⟨rfl, k _ _ F H (Stp.refl ef) (.bl _) ?_⟩
    cases hx <;> first | simpa using q | (rename_i hn; exact (hn rfl).elim)
theorem r2_notN {K : PySem.W.Frag} : R2D c b K rNotN (oIsN true) := fun F H x y d e Q R ef hx hy q k => by
  unfold oIsN at q
  split at q <;> first | exact q.elim | skip
  all_goals
    cases hy
    refine ⟨rfl, k _ _ F H (Stp.refl ef) (.bl _) ?_⟩
    cases hx <;> first | simpa using q | (rename_i hn; exact (hn rfl).elim)
end
section
variable {X : Cx} {b c : Bool} {pos : Pos} {e f g : Expr} {ta tb tc : TE} {da db dc : DE}
theorem qe_add (ha : QE false X e ta da) (hb : QE false X f tb db) : QE b X (.BinOp e .Add f pos) (tOp (rI0 fun i j => .int (i + j)) ta tb) (dOp (oI fun i j => .int (i + j)) da db) := ⟨pe_op op_add ha.pe hb.pe, se_op (r2_int _) ha.se hb.se⟩
theorem qe_sub (ha : QE false X e ta da) (hb : QE false X f tb db) : QE b X (.BinOp e .Sub f pos) (tOp (rI0 fun i j => .int (i - j)) ta tb) (dOp (oI fun i j => .int (i - j)) da db) := ⟨pe_op op_sub ha.pe hb.pe, se_op (r2_int _) ha.se hb.se⟩
theorem qe_mul (ha : QE false X e ta da) (hb : QE false X f tb db) : QE b X (.BinOp e .Mult f pos) (tOp (rI CMul fun i j => .int (i * j)) ta tb) (dOp (oIc CMul fun i j => .int (i * j)) da db) := ⟨pe_op op_mul ha.pe hb.pe, se_op (r2_intC _ _) ha.se hb.se⟩
theorem qe_fdiv (ha : QE false X e ta da) (hb : QE false X f tb db) : QE b X (.BinOp e .FloorDiv f pos) (tOp (rI CDivN fun i j => .int (i.fdiv j)) ta tb) (dOp (oIc CDivN fun i j => .int (i.fdiv j)) da db) := ⟨pe_op op_fdivN ha.pe hb.pe, se_op (r2_intC _ _) ha.se hb.se⟩
theorem qe_mod (ha : QE false X e ta da) (hb : QE false X f tb db) : QE b X (.BinOp e .Mod f pos) (tOp (rI (fun _ j => j ≠ 0) fun i j => .int (i.fmod j)) ta tb) (dOp (oIc (fun _ j => j ≠ 0) fun i j => .int (i.fmod j)) da db) := ⟨pe_op op_modN ha.pe hb.pe, se_op (r2_intC _ _) ha.se hb.se⟩
theorem qe_pow (ha : QE false X e ta da) (hb : QE false X f tb db) : QE b X (.BinOp e .Pow f pos) (tOp (rI CPow fun i j => .int (i ^ j.toNat)) ta tb) (dOp (oIc CPow fun i j => .int (i ^ j.toNat)) da db) := ⟨pe_op op_pow ha.pe hb.pe, se_op (r2_intC _ _) ha.se hb.se⟩
/-! comparisons as values and as tests -/
def dT (de : DE) : DT := fun ρ Q => de ρ fun x => match x with | .bl k => Q k | _ => False
theorem st_test {K : PySem.W.Frag} {te : TE} {de : DE} (h : SE false K te de) : ST K (tTest te) (dT de) := fun H0 F0 F H ρ σ Q R r q k =>
  h H0 F0 F H ρ σ _ _ r q fun v d F2 H2 s hv hq => by
    cases d with
    | bl z => cases hv; exact ⟨z, rfl, k z F2 H2 s hq⟩
    | _ => exact hq.elim
theorem st_B {K : PySem.W.Frag} {te : TE} {de : DE} (h : SE false K te de) : ST K (tB te) (dT de) := fun H0 F0 F H ρ σ Q R r q k =>
  h H0 F0 F H ρ σ _ _ r q fun v d F2 H2 s hv hq => by
    cases d with
    | bl z => cases hv; exact ⟨z, rfl, k z F2 H2 s hq⟩
    | _ => exact hq.elim
theorem qe_lt (ha : QE false X e ta da) (hb : QE false X f tb db) : QE b X (.Compare e [.Lt] [f] pos) (tOp (rI0 fun i j => .bl (decide (i < j))) ta tb) (dOp (oI fun i j => .bl (decide (i < j))) da db) := ⟨pe_cmpR op_lt ha.pe hb.pe (nomark _), se_op (r2_cmp _) ha.se hb.se⟩
theorem qe_le (ha : QE false X e ta da) (hb : QE false X f tb db) : QE b X (.Compare e [.LtE] [f] pos) (tOp (rI0 fun i j => .bl (decide (i ≤ j))) ta tb) (dOp (oI fun i j => .bl (decide (i ≤ j))) da db) := ⟨pe_cmpR op_le ha.pe hb.pe (nomark _), se_op (r2_cmp _) ha.se hb.se⟩
theorem qe_gt (ha : QE false X e ta da) (hb : QE false X f tb db) : QE b X (.Compare e [.Gt] [f] pos) (tOp (rI0 fun i j => .bl (decide (j < i))) ta tb) (dOp (oI fun i j => .bl (decide (j < i))) da db) := ⟨pe_cmpR op_gt ha.pe hb.pe (nomark _), se_op (r2_cmp fun i j => decide (j < i)) ha.se hb.se⟩
theorem qe_ge (ha : QE false X e ta da) (hb : QE false X f tb db) : QE b X (.Compare e [.GtE] [f] pos) (tOp (rI0 fun i j => .bl (decide (j ≤ i))) ta tb) (dOp (oI fun i j => .bl (decide (j ≤ i))) da db) := ⟨pe_cmpR op_ge ha.pe hb.pe (nomark _), se_op (r2_cmp fun i j => decide (j ≤ i)) ha.se hb.se⟩
theorem qe_eq (ha : QE false X e ta da) (hb : QE false X f tb db) : QE b X (.Compare e [.Eq] [f] pos) (tOp rEq ta tb) (dOp (oEq false) da db) := ⟨pe_cmpR op_eq ha.pe hb.pe (nomark _), se_op r2_eq ha.se hb.se⟩
theorem qe_ne (ha : QE false X e ta da) (hb : QE false X f tb db) : QE b X (.Compare e [.NotEq] [f] pos) (tOp rNe ta tb) (dOp (oEq true) da db) := ⟨pe_cmpR op_ne ha.pe hb.pe (nomark _), se_op r2_ne ha.se hb.se⟩
theorem qe_isN (ha : QE false X e ta da) (hb : QE false X f tb db) : QE b X (.Compare e [.Is] [f] pos) (tOp rIsN ta tb) (dOp (oIsN false) da db) := ⟨pe_cmpR op_isN ha.pe hb.pe (nomark _), se_op r2_isN ha.se hb.se⟩
theorem qe_notN (ha : QE false X e ta da) (hb : QE false X f tb db) : QE b X (.Compare e [.IsNot] [f] pos) (tOp rNotN ta tb) (dOp (oIsN true) da db) := ⟨pe_cmpR op_notN ha.pe hb.pe (nomark _), se_op r2_notN ha.se hb.se⟩
theorem qt_lt (ha : QE false X e ta da) (hb : QE false X f tb db) : QT X (.Compare e [.Lt] [f] pos) (tTest (tOp (rI0 fun i j => .bl (decide (i < j))) ta tb)) (dT (dOp (oI fun i j => .bl (decide (i < j))) da db)) := ⟨pt_cmpR op_lt ha.pe hb.pe (nomark _), st_test (se_op (r2_cmp _) ha.se hb.se)⟩
theorem qt_le (ha : QE false X e ta da) (hb : QE false X f tb db) : QT X (.Compare e [.LtE] [f] pos) (tTest (tOp (rI0 fun i j => .bl (decide (i ≤ j))) ta tb)) (dT (dOp (oI fun i j => .bl (decide (i ≤ j))) da db)) := ⟨pt_cmpR op_le ha.pe hb.pe (nomark _), st_test (se_op (r2_cmp _) ha.se hb.se)⟩
theorem qt_gt (ha : QE false X e ta da) (hb : QE false X f tb db) : QT X (.Compare e [.Gt] [f] pos) (tTest (tOp (rI0 fun i j => .bl (decide (j < i))) ta tb)) (dT (dOp (oI fun i j => .bl (decide (j < i))) da db)) := ⟨pt_cmpR op_gt ha.pe hb.pe (nomark _), st_test (se_op (r2_cmp fun i j => decide (j < i)) ha.se hb.se)⟩
theorem qt_ge (ha : QE false X e ta da) (hb : QE false X f tb db) : QT X (.Compare e [.GtE] [f] pos) (tTest (tOp (rI0 fun i j => .bl (decide (j ≤ i))) ta tb)) (dT (dOp (oI fun i j => .bl (decide (j ≤ i))) da db)) := ⟨pt_cmpR op_ge ha.pe hb.pe (nomark _), st_test (se_op (r2_cmp fun i j => decide (j ≤ i)) ha.se hb.se)⟩
theorem qt_eq (ha : QE false X e ta da) (hb : QE false X f tb db) : QT X (.Compare e [.Eq] [f] pos) (tTest (tOp rEq ta tb)) (dT (dOp (oEq false) da db)) := ⟨pt_cmpR op_eq ha.pe hb.pe (nomark _), st_test (se_op r2_eq ha.se hb.se)⟩
theorem qt_ne (ha : QE false X e ta da) (hb : QE false X f tb db) : QT X (.Compare e [.NotEq] [f] pos) (tTest (tOp rNe ta tb)) (dT (dOp (oEq true) da db)) := ⟨pt_cmpR op_ne ha.pe hb.pe (nomark _), st_test (se_op r2_ne ha.se hb.se)⟩
theorem qt_isN (ha : QE false X e ta da) (hb : QE false X f tb db) : QT X (.Compare e [.Is] [f] pos) (tTest (tOp rIsN ta tb)) (dT (dOp (oIsN false) da db)) := ⟨pt_cmpR op_isN ha.pe hb.pe (nomark _), st_test (se_op r2_isN ha.se hb.se)⟩
theorem qt_notN (ha : QE false X e ta da) (hb : QE false X f tb db) : QT X (.Compare e [.IsNot] [f] pos) (tTest (tOp rNotN ta tb)) (dT (dOp (oIsN true) da db)) := ⟨pt_cmpR op_notN ha.pe hb.pe (nomark _), st_test (se_op r2_notN ha.se hb.se)⟩
theorem qt_val (h : QE false X e ta da) (he : ∀ whole, isTrue e X.env whole = (do let v ← whole; standAt e.pos; holding [v] (truthy v)) := by intro _; rfl) : QT X e (tB ta) (dT da) := ⟨pt_val h.pe he, st_B h.se⟩
def dNeg (da : DE) : DE := fun ρ Q => da ρ fun x => match x with | .int i => Q (.int (-i)) | _ => False
theorem qe_neg (h : QE false X e ta da) : QE b X (.UnaryOp .USub e pos) (tUn (rU fun i => .int (-i)) ta) (dNeg da) := ⟨pe_un un_neg h.pe, fun H0 F0 F H ρ σ Q R r q k =>
  h.se H0 F0 F H ρ σ _ _ r q fun v d F2 H2 s hv hq => by
    cases d with
    | int i => cases hv; exact ⟨i, rfl, k _ _ F2 H2 s (.int _) hq⟩
    | _ => exact hq.elim⟩
/-- a op b op c -/
def dChain (dr ds : DR2) (da db dc : DE) : DE := fun ρ Q => da ρ fun x => db ρ fun y => dr x y fun z => match z with
  | .bl k => (k = true → dc ρ fun w => ds y w Q) ∧ (k = false → Q (.bl false))
  | _ => False
theorem se_chain {K : PySem.W.Frag} {r r' : R2} {dr dr' : DR2} (hr : R2D false false K r dr) (hr' : R2D false b K r' dr') (ha : SE false K ta da) (hb : SE false K tb db) (hc : SE false K tc dc) : SE b K (tChain r r' ta tb tc) (dChain dr dr' da db dc) := fun H0 F0 F H ρ σ Q R rl q k =>
  ha H0 F0 F H ρ σ _ _ rl q fun x d F2 H2 s2 hx q2 => hb H0 F0 F2 H2 ρ σ _ _ (rl.step s2) q2 fun y e F3 H3 s3 hy q3 =>
    hr F3 H3 x y d e _ _ s3.fh (hx.stp (b := false) s3) hy q3 fun v d4 F4 H4 s4 hv hq => by
      have s := (s2.trans s3).trans s4
      cases d4 with
      | bl z =>
        cases hv
        refine ⟨z, rfl, ?_⟩
        cases z with
        | true =>
          rw [if_pos rfl]
          exact hc H0 F0 F4 H4 ρ σ _ _ (rl.step s) (hq.1 rfl) fun w dw F5 H5 s5 hw q5 => hr' F5 H5 y w e dw Q R s5.fh ((hy.stp (b := false) s4).stp (b := false) s5) hw q5 fun v d F6 H6 s6 hv hq => k v d F6 H6 ((s.trans s5).trans s6) hv hq
        | false =>
          rw [if_neg Bool.false_ne_true]
          exact k _ _ F4 H4 s (.bl _) (hq.2 rfl)
      | _ => exact hq.elim
theorem qe_leLt (ha : QE false X e ta da) (hb : QE false X f tb db) (hc : QE false X g tc dc) (hm : lastMarks [.LtE, .Lt] [f, g] = false := by with_unfolding_all rfl) : QE b X (.Compare e [.LtE, .Lt] [f, g] pos) (tChain (rI0 fun i j => .bl (decide (i ≤ j))) (rI0 fun i j => .bl (decide (i < j))) ta tb tc)
    (dChain (oI fun i j => .bl (decide (i ≤ j))) (oI fun i j => .bl (decide (i < j))) da db dc) := ⟨pe_chain op_le op_lt ha.pe hb.pe hc.pe hm, se_chain (r2_cmp _) (r2_cmp _) ha.se hb.se hc.se⟩
theorem qt_leLt (ha : QE false X e ta da) (hb : QE false X f tb db) (hc : QE false X g tc dc) (hm : lastMarks [.LtE, .Lt] [f, g] = false := by with_unfolding_all rfl) : QT X (.Compare e [.LtE, .Lt] [f, g] pos) (tTest (tChain (rI0 fun i j => .bl (decide (i ≤ j))) (rI0 fun i j => .bl (decide (i < j))) ta tb tc))
    (dT (dChain (oI fun i j => .bl (decide (i ≤ j))) (oI fun i j => .bl (decide (i < j))) da db dc)) := ⟨pt_chain op_le op_lt ha.pe hb.pe hc.pe hm, st_test (se_chain (r2_cmp _) (r2_cmp _) ha.se hb.se hc.se)⟩
theorem qe_ltLt (ha : QE false X e ta da) (hb : QE false X f tb db) (hc : QE false X g tc dc) (hm : lastMarks [.Lt, .Lt] [f, g] = false := by with_unfolding_all rfl) : QE b X (.Compare e [.Lt, .Lt] [f, g] pos) (tChain (rI0 fun i j => .bl (decide (i < j))) (rI0 fun i j => .bl (decide (i < j))) ta tb tc)
    (dChain (oI fun i j => .bl (decide (i < j))) (oI fun i j => .bl (decide (i < j))) da db dc) := ⟨pe_chain op_lt op_lt ha.pe hb.pe hc.pe hm, se_chain (r2_cmp _) (r2_cmp _) ha.se hb.se hc.se⟩
end
/-! ### and, or, not -/
def dAnd (da db : DT) : DT := fun ρ Q => da ρ fun c => (c = true → db ρ Q) ∧ (c = false → Q false)
def dOr (da db : DT) : DT := fun ρ Q => da ρ fun c => (c = true → Q true) ∧ (c = false → db ρ Q)
def dNot (da : DT) : DT := fun ρ Q => da ρ fun c => Q (!c)
def dAndV (da db : DE) : DE := fun ρ Q => da ρ fun x => match x with | .bl c => (c = true → db ρ Q) ∧ (c = false → Q (.bl false)) | _ => False
def dOrV (da db : DE) : DE := fun ρ Q => da ρ fun x => match x with | .bl c => (c = true → Q (.bl true)) ∧ (c = false → db ρ Q) | _ => False
def dNotV (da : DE) : DE := fun ρ Q => da ρ fun x => match x with | .bl c => Q (.bl (!c)) | _ => False
def dIf (dt : DT) (da db : DE) : DE := fun ρ Q => dt ρ fun c => (c = true → da ρ Q) ∧ (c = false → db ρ Q)
section
variable {X : Cx} {b c : Bool} {pos : Pos} {e f g : Expr} {rest : List Expr} {t u : TT} {dt du : DT} {ta tb : TE} {da db : DE}
theorem qw_and1 (h : QT X e t dt) : QW X (.BoolOp .And [e] pos) t dt := ⟨pw_and1 h.pt, h.st⟩
theorem qw_or1 (h : QT X e t dt) : QW X (.BoolOp .Or [e] pos) t dt := ⟨pw_or1 h.pt, h.st⟩
theorem qw_and (ha : QT X e t dt) (hb : QW X (.BoolOp .And (f :: rest) pos) u du) : QW X (.BoolOp .And (e :: f :: rest) pos) (tAnd t u) (dAnd dt du) := ⟨pw_and ha.pt hb.pw, fun H0 F0 F H ρ σ Q R r q k =>
  ha.st H0 F0 F H ρ σ _ _ r q fun z F2 H2 s hq => by
    cases z with
    | true =>
      rw [if_pos rfl]
      exact hb.st H0 F0 F2 H2 ρ σ _ _ (r.step s) (hq.1 rfl) fun c F3 H3 s3 q3 => k c F3 H3 (s.trans s3) q3
    | false =>
      rw [if_neg Bool.false_ne_true]
      exact k _ F2 H2 s (hq.2 rfl)⟩
theorem qw_or (ha : QT X e t dt) (hb : QW X (.BoolOp .Or (f :: rest) pos) u du) : QW X (.BoolOp .Or (e :: f :: rest) pos) (tOr t u) (dOr dt du) := ⟨pw_or ha.pt hb.pw, fun H0 F0 F H ρ σ Q R r q k =>
  ha.st H0 F0 F H ρ σ _ _ r q fun z F2 H2 s hq => by
    cases z with
    | true =>
      rw [if_pos rfl]
      exact k _ F2 H2 s (hq.1 rfl)
    | false =>
      rw [if_neg Bool.false_ne_true]
      exact hb.st H0 F0 F2 H2 ρ σ _ _ (r.step s) (hq.2 rfl) fun c F3 H3 s3 q3 => k c F3 H3 (s.trans s3) q3⟩
theorem qt_not (ha : QT X e t dt) : QT X (.UnaryOp .Not e pos) (tNot t) (dNot dt) := ⟨pt_not ha.pt, fun H0 F0 F H ρ σ Q R r q k => ha.st H0 F0 F H ρ σ _ _ r q fun z F2 H2 s hq => k _ F2 H2 s hq⟩
theorem qe_one {op} (h : QE b X e ta da) : QE b X (.BoolOp op [e] pos) ta da := ⟨pe_one h.pe, h.se⟩
theorem qe_and (ha : QE false X e ta da) (hb : QE b X (.BoolOp .And (f :: rest) pos) tb db) : QE b X (.BoolOp .And (e :: f :: rest) pos) (tAndV ta tb) (dAndV da db) := ⟨pe_and ha.pe hb.pe, fun H0 F0 F H ρ σ Q R r q k =>
  ha.se H0 F0 F H ρ σ _ _ r q fun v d F2 H2 s hv hq => by
    cases d with
    | bl z =>
      cases hv
      refine ⟨z, rfl, ?_⟩
      cases z with
      | true =>
        rw [if_pos rfl]
        exact hb.se H0 F0 F2 H2 ρ σ _ _ (r.step s) (hq.1 rfl) fun c d F3 H3 s3 hv q3 => k c d F3 H3 (s.trans s3) hv q3
      | false =>
        rw [if_neg Bool.false_ne_true]
        exact k _ _ F2 H2 s (.bl _) (hq.2 rfl)
    | _ => exact hq.elim⟩
theorem qe_or (ha : QE false X e ta da) (hb : QE b X (.BoolOp .Or (f :: rest) pos) tb db) : QE b X (.BoolOp .Or (e :: f :: rest) pos) (tOrV ta tb) (dOrV da db) := ⟨pe_or ha.pe hb.pe, fun H0 F0 F H ρ σ Q R r q k =>
  ha.se H0 F0 F H ρ σ _ _ r q fun v d F2 H2 s hv hq => by
    cases d with
    | bl z =>
      cases hv
      refine ⟨z, rfl, ?_⟩
      cases z with
      | true =>
        rw [if_pos rfl]
        exact k _ _ F2 H2 s (.bl _) (hq.1 rfl)
      | false =>
        rw [if_neg Bool.false_ne_true]
        exact hb.se H0 F0 F2 H2 ρ σ _ _ (r.step s) (hq.2 rfl) fun c d F3 H3 s3 hv q3 => k c d F3 H3 (s.trans s3) hv q3
    | _ => exact hq.elim⟩
theorem qe_not (ha : QE false X e ta da) : QE b X (.UnaryOp .Not e pos) (tNotV ta) (dNotV da) := ⟨pe_not ha.pe, fun H0 F0 F H ρ σ Q R r q k =>
  ha.se H0 F0 F H ρ σ _ _ r q fun v d F2 H2 s hv hq => by
    cases d with
    | bl z => cases hv; exact ⟨z, rfl, k _ _ F2 H2 s (.bl _) hq⟩
    | _ => exact hq.elim⟩
theorem qe_ifExp (hc : QT X g t dt) (ha : QE b X e ta da) (hb : QE b X f tb db) : QE b X (.IfExp g e f pos) (tIf t ta tb) (dIf dt da db) := ⟨pe_ifExp hc.pt ha.pe hb.pe, fun H0 F0 F H ρ σ Q R r q k =>
  hc.st H0 F0 F H ρ σ _ _ r q fun z F2 H2 s hq => by
    cases z with
    | true =>
      rw [if_pos rfl]
      exact ha.se H0 F0 F2 H2 ρ σ _ _ (r.step s) (hq.1 rfl) fun v d F3 H3 s3 hv q3 => k v d F3 H3 (s.trans s3) hv q3
    | false =>
      rw [if_neg Bool.false_ne_true]
      exact hb.se H0 F0 F2 H2 ρ σ _ _ (r.step s) (hq.2 rfl) fun v d F3 H3 s3 hv q3 => k v d F3 H3 (s.trans s3) hv q3⟩
end
/-! ### argument lists, displays -/
def dNil : DA := fun _ Q => Q []
def dCons (da : DE) (dr : DA) : DA := fun ρ Q => da ρ fun x => dr ρ fun xs => Q (x :: xs)
def dTup (da : DA) : DE := fun ρ Q => da ρ fun xs => xs.length ≤ 1000000 ∧ Q (.tup xs)
def dLst (da : DA) : DA := fun ρ Q => da ρ fun xs => xs.length ≤ 1000000 ∧ Q xs
theorem sz_ok {n : Nat} (h : n ≤ 1000000) : n ≤ sizeLine := Nat.le_trans h (by decide)
theorem sz_lt {n : Nat} (h : n < 1000000) : n < sizeLine := Nat.lt_of_lt_of_le h (by decide)
section
variable {X : Cx} {b c : Bool} {pos : Pos} {e : Expr} {es : List Expr} {te : TE} {de : DE} {ta : TA} {da : DA}
theorem qa_nil : QA b X [] tNil dNil := ⟨pa_nil, fun _ _ F H _ _ _ _ r q k => k _ _ F H (Stp.refl r.fh) .nil q⟩
theorem qa_cons (h : QE b X e te de) (hr : QA b X es ta da) (hs : starEach (e :: es) X.env = (false, eval e X.env) :: starEach es X.env := by rfl) : QA b X (e :: es) (tCons te ta) (dCons de da) := ⟨pa_cons h.pe hr.pa hs, fun H0 F0 F H ρ σ Q R r q k =>
  h.se H0 F0 F H ρ σ _ _ r q fun v d F2 H2 s hv hq => hr.sa H0 F0 F2 H2 ρ σ _ _ (r.step s) hq fun vs ds F3 H3 s3 hvs q3 => k _ _ F3 H3 (s.trans s3) (.cons (hv.stp s3) hvs) q3⟩
theorem qe_tup {x1} (h : QA true X es ta da) : QE b X (.Tuple es x1 pos) (tTup ta) (dTup da) := ⟨pe_tup h.pa, fun H0 F0 F H ρ σ Q R r q k =>
  h.sa H0 F0 F H ρ σ _ _ r q fun vs ds F2 H2 s hvs hq => ⟨by rw [RepL.len hvs]; exact sz_ok hq.1, fun p hp => by
    have s2 := Stp.cell (o := .tup vs) s.fh hp
    refine k _ _ _ _ (s.trans s2) ?_ hq.2
    exact (Rep.tup upd_same (RepL.up hvs s2.fF)).any s2.fh⟩⟩
theorem ql_lst (h : QA true X es ta da) : QL X (.List es pos) (tLst ta) (dLst da) := ⟨pe_lst h.pa, fun H0 F0 F H ρ σ Q R r q k =>
  h.sa H0 F0 F H ρ σ _ _ r q fun vs ds F2 H2 s hvs hq => ⟨by rw [RepL.len hvs]; exact sz_ok hq.1, fun p hp =>
    k p vs ds F2 _ (s.trans (Stp.grow s.fh (Ex.new hp))) (s.hH.back hp) (s.fh.back hp) upd_same hvs hq.2⟩⟩
/-- a new thing of one's own is frozen -/
theorem Stp.own {F H F2 H2 : Hp} {p : Addr} {o : HO} (s : Stp F H F2 H2) (hp : H p = none) (hf : F2 p = none) (h2 : H2 p = some o) : Stp F H (upd F2 p o) H2 :=
  ⟨s.fF.trans (Ex.new hf), s.hH, fun a u e => by
    by_cases z : a = p
    · subst z
      rw [upd_same] at e
      rw [h2, e]
    · rw [upd_ne z] at e
      exact s.fh a u e, fun a e n => by
    by_cases z : a = p
    · subst z; exact hp
    · rw [upd_ne z] at n
      exact s.nw a e n⟩
/-- a new list as data -/
def dL (dl : DA) : DE := fun ρ Q => dl ρ fun ds => Q (.lst ds)
theorem qe_ofL {dl : DA} (h : QL X e te dl) : QE b X e te (dL dl) := ⟨h.pe, fun H0 F0 F H ρ σ Q R r q k =>
  h.sl H0 F0 F H ρ σ _ _ r q fun p vs ds F2 H2 s hp hf h2 hvs hq => by
    refine k _ _ _ _ (Stp.own s hp hf h2) ?_ hq
    exact (Rep.lst upd_same (RepL.up hvs (Ex.new hf))).any (Stp.own s hp hf h2).fh⟩
end
end DL

/-! DL C: what is read off lists, tuples, texts, dicts; built-in calls -/
namespace DL
open PySem L2

theorem Ex.seqT {K : PySem.W.Frag} {H H' : Hp} {a : Addr} {xs : List V} (e : Ex H H') (h : SqT K H a xs) : SqT K H' a xs := by
  rcases h with (h | ⟨o, h⟩) | h
  · exact Or.inl (Or.inl (e a _ h))
  · exact Or.inl (Or.inr ⟨o, e a _ h⟩)
  · exact Or.inr h

/-! ### sources of items: a list itself; a list or the script; a list, a tuple or the script -/
def SX (b : Bool) (K : PySem.W.Frag) (te : TE) (dl : DA) : Prop := ∀ (H0 F0 F H : Hp) (ρ : Env) (σ : St) (Q : List D → Prop) (R : VK), Rel K H0 F0 F H ρ σ → dl ρ Q →
  (∀ a vs ds F2 H2, Stp F H F2 H2 → H2 a = some (.lst vs) → RepL K (pick b F2 H2) vs ds → Q ds → R (.ref a) H2) → te σ H R
def SS (b : Bool) (K : PySem.W.Frag) (te : TE) (dl : DA) : Prop := ∀ (H0 F0 F H : Hp) (ρ : Env) (σ : St) (Q : List D → Prop) (R : VK), Rel K H0 F0 F H ρ σ → dl ρ Q →
  (∀ a vs ds F2 H2, Stp F H F2 H2 → SqL K H2 a vs → RepL K (pick b F2 H2) vs ds → Q ds → R (.ref a) H2) → te σ H R
def SI (b : Bool) (K : PySem.W.Frag) (te : TE) (dl : DA) : Prop := ∀ (H0 F0 F H : Hp) (ρ : Env) (σ : St) (Q : List D → Prop) (R : VK), Rel K H0 F0 F H ρ σ → dl ρ Q →
  (∀ a vs ds F2 H2, Stp F H F2 H2 → (SqL K H2 a vs ∨ SqT K H2 a vs) → RepL K (pick b F2 H2) vs ds → Q ds → R (.ref a) H2) → te σ H R
structure QX (b : Bool) (X : Cx) (e : Expr) (te : TE) (dl : DA) : Prop where
  pe : PE X e te
  sx : SX b X.K te dl
structure QS (b : Bool) (X : Cx) (e : Expr) (te : TE) (dl : DA) : Prop where
  pe : PE X e te
  ss : SS b X.K te dl
structure QI (b : Bool) (X : Cx) (e : Expr) (te : TE) (dl : DA) : Prop where
  pe : PE X e te
  si : SI b X.K te dl
section
variable {X : Cx} {b c : Bool} {e : Expr} {te : TE} {dl : DA} {de : DE} {pos : Pos}
theorem qs_x (h : QX b X e te dl) : QS b X e te dl := ⟨h.pe, fun H0 F0 F H ρ σ Q R r q k => h.sx H0 F0 F H ρ σ Q R r q fun a vs ds F2 H2 s h1 => k a vs ds F2 H2 s (.inl (.inl h1))⟩
theorem qi_s (h : QS b X e te dl) : QI b X e te dl := ⟨h.pe, fun H0 F0 F H ρ σ Q R r q k => h.ss H0 F0 F H ρ σ Q R r q fun a vs ds F2 H2 s h1 => k a vs ds F2 H2 s (.inl h1)⟩
theorem qi_x (h : QX b X e te dl) : QI b X e te dl := qi_s (qs_x h)
theorem qx_new (h : QL X e te dl) : QX b X e te dl := ⟨h.pe, fun H0 F0 F H ρ σ Q R r q k => h.sl H0 F0 F H ρ σ Q R r q fun p vs ds F2 H2 s hp hf h2 hv hq => k p vs ds F2 H2 s h2 (hv.up (pick_of s.fh)) hq⟩
def dX (de : DE) : DA := fun ρ Q => de ρ fun d => match d with | .lst ds => Q ds | _ => False
def dS (de : DE) : DA := fun ρ Q => de ρ fun d => match d with | .lst ds => Q ds | .scr ns => Q (ns.map D.int) | _ => False
def dI (de : DE) : DA := fun ρ Q => de ρ fun d => match d with | .lst ds => Q ds | .tup ds => Q ds | .scr ns => Q (ns.map D.int) | _ => False
theorem qx_of (h : QE b X e te de) : QX b X e te (dX de) := ⟨h.pe, fun H0 F0 F H ρ σ Q R r q k => h.se H0 F0 F H ρ σ _ _ r q fun v d F2 H2 s hv hq => by
  cases d with
  | lst ds =>
    cases hv with
    | lst h1 h2 => exact k _ _ _ F2 H2 s (pick_to s.fh _ _ h1) h2 hq
  | _ => exact hq.elim⟩
theorem qs_of (h : QE b X e te de) : QS b X e te (dS de) := ⟨h.pe, fun H0 F0 F H ρ σ Q R r q k => h.se H0 F0 F H ρ σ _ _ r q fun v d F2 H2 s hv hq => by
  cases d with
  | lst ds =>
    cases hv with
    | lst h1 h2 => exact k _ _ _ F2 H2 s (.inl (.inl (pick_to s.fh _ _ h1))) h2 hq
  | scr ns =>
    cases hv with
    | scr h1 => exact k _ _ _ F2 H2 s ((pick_to s.fh).seq h1) (RepL.ints ns) hq
  | _ => exact hq.elim⟩
theorem qi_of (h : QE b X e te de) : QI b X e te (dI de) := ⟨h.pe, fun H0 F0 F H ρ σ Q R r q k => h.se H0 F0 F H ρ σ _ _ r q fun v d F2 H2 s hv hq => by
  cases d with
  | lst ds =>
    cases hv with
    | lst h1 h2 => exact k _ _ _ F2 H2 s (.inl (.inl (.inl (pick_to s.fh _ _ h1)))) h2 hq
  | tup ds =>
    cases hv with
    | tup h1 h2 => exact k _ _ _ F2 H2 s (.inr (.inl (.inl (pick_to s.fh _ _ h1)))) h2 hq
  | scr ns =>
    cases hv with
    | scr h1 => exact k _ _ _ F2 H2 s (.inl ((pick_to s.fh).seq h1)) (RepL.ints ns) hq
  | _ => exact hq.elim⟩
/-- of a name -/
def Sl.lst : Bool → Sl → (List D → Prop) → Prop
  | _, .fz (.lst ds), Q => Q ds
  | _, .l1 ds, Q => Q ds
  | false, .l2 dss, Q => Q (dss.map D.lst)
  | _, _, _ => False
def Sl.seq : Bool → Sl → (List D → Prop) → Prop
  | _, .fz (.lst ds), Q => Q ds
  | _, .fz (.scr ns), Q => Q (ns.map D.int)
  | _, .l1 ds, Q => Q ds
  | false, .l2 dss, Q => Q (dss.map D.lst)
  | _, _, _ => False
def Sl.its : Bool → Sl → (List D → Prop) → Prop
  | _, .fz (.lst ds), Q => Q ds
  | _, .fz (.tup ds), Q => Q ds
  | _, .fz (.scr ns), Q => Q (ns.map D.int)
  | _, .l1 ds, Q => Q ds
  | false, .l2 dss, Q => Q (dss.map D.lst)
  | _, _, _ => False
def dXv (b : Bool) (i : Nat) : DA := fun ρ Q => Sl.lst b (nth ρ i) Q
def dSv (b : Bool) (i : Nat) : DA := fun ρ Q => Sl.seq b (nth ρ i) Q
def dIv (b : Bool) (i : Nat) : DA := fun ρ Q => Sl.its b (nth ρ i) Q
section
variable {K : PySem.W.Frag} {F H : Hp} {s : Sl} {v : Option V} {o : List Addr} {Q : List D → Prop}
theorem slot_lst (e : Ex F H) (h : SlotOk K F H s v o) (q : Sl.lst b s Q) : ∃ a vs ds, v = some (.ref a) ∧ H a = some (.lst vs) ∧ RepL K (pick b F H) vs ds ∧ Q ds := by
  cases h with
  | un => cases b <;> exact q.elim
  | fz h =>
    cases h with
    | lst h1 h2 => exact ⟨_, _, _, rfl, e _ _ h1, h2.up (pick_of e), by cases b <;> exact q⟩
    | _ => cases b <;> exact q.elim
  | l1 h1 h2 => exact ⟨_, _, _, rfl, h1, h2.up (pick_of e), by cases b <;> exact q⟩
  | l2 h1 h2 =>
    cases b with
    | true => exact q.elim
    | false => exact ⟨_, _, _, rfl, h1, h2.rep e, q⟩
  | dk h1 h2 => cases b <;> exact q.elim
  | dl h1 h2 => cases b <;> exact q.elim
  | ob h => cases b <;> exact q.elim
theorem slot_seq (e : Ex F H) (h : SlotOk K F H s v o) (q : Sl.seq b s Q) : ∃ a vs ds, v = some (.ref a) ∧ SqL K H a vs ∧ RepL K (pick b F H) vs ds ∧ Q ds := by
  cases h with
  | un => cases b <;> exact q.elim
  | fz h =>
    cases h with
    | lst h1 h2 => exact ⟨_, _, _, rfl, .inl (.inl (e _ _ h1)), h2.up (pick_of e), by cases b <;> exact q⟩
    | scr h1 => exact ⟨_, _, _, rfl, e.seq h1, RepL.ints _, by cases b <;> exact q⟩
    | _ => cases b <;> exact q.elim
  | l1 h1 h2 => exact ⟨_, _, _, rfl, .inl (.inl h1), h2.up (pick_of e), by cases b <;> exact q⟩
  | l2 h1 h2 =>
    cases b with
    | true => exact q.elim
    | false => exact ⟨_, _, _, rfl, .inl (.inl h1), h2.rep e, q⟩
  | dk h1 h2 => cases b <;> exact q.elim
  | dl h1 h2 => cases b <;> exact q.elim
  | ob h => cases b <;> exact q.elim
theorem slot_its (e : Ex F H) (h : SlotOk K F H s v o) (q : Sl.its b s Q) : ∃ a vs ds, v = some (.ref a) ∧ (SqL K H a vs ∨ SqT K H a vs) ∧ RepL K (pick b F H) vs ds ∧ Q ds := by
  cases h with
  | un => cases b <;> exact q.elim
  | fz h =>
    cases h with
    | lst h1 h2 => exact ⟨_, _, _, rfl, .inl (.inl (.inl (e _ _ h1))), h2.up (pick_of e), by cases b <;> exact q⟩
    | tup h1 h2 => exact ⟨_, _, _, rfl, .inr (.inl (.inl (e _ _ h1))), h2.up (pick_of e), by cases b <;> exact q⟩
    | scr h1 => exact ⟨_, _, _, rfl, .inl (e.seq h1), RepL.ints _, by cases b <;> exact q⟩
    | _ => cases b <;> exact q.elim
  | l1 h1 h2 => exact ⟨_, _, _, rfl, .inl (.inl (.inl h1)), h2.up (pick_of e), by cases b <;> exact q⟩
  | l2 h1 h2 =>
    cases b with
    | true => exact q.elim
    | false => exact ⟨_, _, _, rfl, .inl (.inl (.inl h1)), h2.rep e, q⟩
  | dk h1 h2 => cases b <;> exact q.elim
  | dl h1 h2 => cases b <;> exact q.elim
  | ob h => cases b <;> exact q.elim
end
theorem lst_ne {s : Sl} {Q : List D → Prop} (q : Sl.lst b s Q) : s ≠ .un := by
  intro e
  subst e
  cases b <;> exact q.elim
theorem seq_ne {s : Sl} {Q : List D → Prop} (q : Sl.seq b s Q) : s ≠ .un := by
  intro e
  subst e
  cases b <;> exact q.elim
theorem its_ne {s : Sl} {Q : List D → Prop} (q : Sl.its b s Q) : s ≠ .un := by
  intro e
  subst e
  cases b <;> exact q.elim
theorem qx_v (i : Nat) {x : Str} (hN : X.N[i]? = some x := by rfl) (hv : Vis X.env.scope x := by first | exact Or.inl rfl | exact Or.inr (Or.inl rfl) | exact Or.inr (Or.inr rfl)) (hd : (x == ("__debug__" : Str)) = false := by decide)
    (hcd : (x == ("__classdict__" : Str)) = false := by decide) : QX b X (.Name x pos) (tVar i) (dXv b i) := ⟨pe_var hN hv hd hcd, fun H0 F0 F H ρ σ Q R r q k => by
  obtain ⟨os, h1, _, _⟩ := r.sl
  obtain ⟨v, o, _, _, e1, e2, _, _⟩ := h1.at i (lst_ne q)
  obtain ⟨a, vs, ds, rfl, h, h2, hq⟩ := slot_lst r.fh e2 q
  exact ⟨_, e1, k a vs ds F H (Stp.refl r.fh) h h2 hq⟩⟩
theorem qs_v (i : Nat) {x : Str} (hN : X.N[i]? = some x := by rfl) (hv : Vis X.env.scope x := by first | exact Or.inl rfl | exact Or.inr (Or.inl rfl) | exact Or.inr (Or.inr rfl)) (hd : (x == ("__debug__" : Str)) = false := by decide)
    (hcd : (x == ("__classdict__" : Str)) = false := by decide) : QS b X (.Name x pos) (tVar i) (dSv b i) := ⟨pe_var hN hv hd hcd, fun H0 F0 F H ρ σ Q R r q k => by
  obtain ⟨os, h1, _, _⟩ := r.sl
  obtain ⟨v, o, _, _, e1, e2, _, _⟩ := h1.at i (seq_ne q)
  obtain ⟨a, vs, ds, rfl, h, h2, hq⟩ := slot_seq r.fh e2 q
  exact ⟨_, e1, k a vs ds F H (Stp.refl r.fh) h h2 hq⟩⟩
theorem qi_v (i : Nat) {x : Str} (hN : X.N[i]? = some x := by rfl) (hv : Vis X.env.scope x := by first | exact Or.inl rfl | exact Or.inr (Or.inl rfl) | exact Or.inr (Or.inr rfl)) (hd : (x == ("__debug__" : Str)) = false := by decide)
    (hcd : (x == ("__classdict__" : Str)) = false := by decide) : QI b X (.Name x pos) (tVar i) (dIv b i) := ⟨pe_var hN hv hd hcd, fun H0 F0 F H ρ σ Q R r q k => by
  obtain ⟨os, h1, _, _⟩ := r.sl
  obtain ⟨v, o, _, _, e1, e2, _, _⟩ := h1.at i (its_ne q)
  obtain ⟨a, vs, ds, rfl, h, h2, hq⟩ := slot_its r.fh e2 q
  exact ⟨_, e1, k a vs ds F H (Stp.refl r.fh) h h2 hq⟩⟩
end

/-! ### an item; the length -/
theorem RepL.atI {K : PySem.W.Frag} {H : Hp} {vs : List V} {ds : List D} {i : Int} {d : D} (h : RepL K H vs ds) (e : atI ds i = some d) : ∃ v, L2.atI vs i = some v ∧ Rep K H v d := by
  unfold L2.atI at e ⊢
  rw [h.len]
  cases q : ixN ds.length i with
  | none => rw [q] at e; cases e
  | some j =>
    rw [q] at e
    exact h.get e
def dIx (dl : DA) (di : DE) : DE := fun ρ Q => dl ρ fun ds => di ρ fun y => match y with | .int i => ∃ d, atI ds i = some d ∧ Q d | _ => False
def dLen (dl : DA) : DE := fun ρ Q => dl ρ fun ds => Q (.int ds.length)
def dIxS (da di : DE) : DE := fun ρ Q => da ρ fun x => di ρ fun y => match x, y with | .str z, .int i => z.length ≤ 1000000 ∧ ∃ c, atI z.cps.toList i = some c ∧ Q (.str ⟨#[c]⟩) | _, _ => False
section
variable {X : Cx} {b c : Bool} {e f : Expr} {te tf : TE} {dl : DA} {de df : DE} {pos : Pos}
theorem qe_ix (h : QI b X e te dl) (hi : QE false X f tf df) (hs : PlainIx f) {K : PySem.W.Frag} (hK : X.K = K := by rfl) : QE b X (.Subscript e f pos) (tOp (rIx K) te tf) (dIx dl df) := by
  subst hK
  exact ⟨pe_ix ix_seq h.pe hi.pe hs, fun H0 F0 F H ρ σ Q R r q k =>
  h.si H0 F0 F H ρ σ _ _ r q fun a vs ds F2 H2 s hs hr hq => hi.se H0 F0 F2 H2 ρ σ _ _ (r.step s) hq fun y dy F3 H3 s3 hy hq => by
    cases dy with
    | int i =>
      cases hy
      obtain ⟨d, e1, q⟩ := hq
      obtain ⟨v, e2, h2⟩ := (hr.stp s3).atI e1
      have fin := k v d F3 H3 (s.trans s3) h2 q
      rcases hs with hs | hs
      · exact .inl ⟨a, vs, i, v, rfl, rfl, s3.hH.seq hs, e2, fin⟩
      · exact .inr (.inl ⟨a, vs, i, v, rfl, rfl, s3.hH.seqT hs, e2, fin⟩)
    | _ => exact hq.elim⟩
theorem qe_ixS (h : QE false X e te de) (hi : QE false X f tf df) (hs : PlainIx f) {K : PySem.W.Frag} (hK : X.K = K := by rfl) : QE b X (.Subscript e f pos) (tOp (rIx K) te tf) (dIxS de df) := by
  subst hK
  exact ⟨pe_ix ix_seq h.pe hi.pe hs, fun H0 F0 F H ρ σ Q R r q k =>
  h.se H0 F0 F H ρ σ _ _ r q fun x dx F2 H2 s hx hq => hi.se H0 F0 F2 H2 ρ σ _ _ (r.step s) hq fun y dy F3 H3 s3 hy hq => by
    cases dx with
    | str z =>
      cases hx
      cases dy with
      | int i =>
        cases hy
        obtain ⟨hz, c, e1, q⟩ := hq
        exact .inr (.inr ⟨z, i, c, rfl, rfl, sz_ok hz, e1, k _ _ F3 H3 (s.trans s3) (.str _) q⟩)
      | _ => exact hq.elim
    | _ => exact hq.elim⟩
def rLenQ (K : PySem.W.Frag) : List V → Hp → VK → Prop := fun xs H Q => ∃ p ys, xs = [.ref p] ∧ (SqL K H p ys ∨ SqT K H p ys) ∧ Q (.int ys.length) H
theorem qe_len {x : Expr} {p : Pos} (h : QI false X x te dl) (hm : X.mg "len" = none) (hg : Gl X "len" := by rfl) (he : starEach [x] X.env = (false, eval x X.env) :: starEach [] X.env := by rfl) {K : PySem.W.Frag} (hK : X.K = K := by rfl) : QE b X (.Call (.Name "len" p) [x] [] pos) (tCB (rLenQ K) (tCons te tNil)) (dLen dl) := by
  subst hK
  exact ⟨pe_callB call_len_seq hg hm PySem.boot_len (pa_cons h.pe pa_nil he) (by decide) (by decide) he, fun H0 F0 F H ρ σ Q R r q k =>
  h.si H0 F0 F H ρ σ _ _ r q fun a vs ds F2 H2 s hs hr hq => ⟨a, vs, rfl, hs, k _ _ F2 H2 s (by rw [hr.len]; exact .int _) hq⟩⟩
end
/-! ### new lists -/
def cutD (xs : List D) (lo hi : Option Int) : List D := (xs.drop (HT.sIx xs.length 0 lo)).take (HT.sIx xs.length xs.length hi - HT.sIx xs.length 0 lo)
theorem RepL.cut {K : PySem.W.Frag} {H : Hp} {vs : List V} {ds : List D} (h : RepL K H vs ds) (lo hi : Option Int) : RepL K H (cutV vs lo hi) (cutD ds lo hi) := by
  unfold cutV cutD
  rw [h.len]
  exact (h.drop _).take _
def dONone : DO := fun _ Q => Q none
def dOSome (de : DE) : DO := fun ρ Q => de ρ fun x => match x with | .int i => Q (some i) | _ => False
def dCut (dl : DA) (d1 d2 : DO) : DA := fun ρ Q => dl ρ fun ds => d1 ρ fun lo => d2 ρ fun hi => Q (cutD ds lo hi)
def dRev (dl : DA) : DA := fun ρ Q => dl ρ fun ds => Q ds.reverse
def dCat (da db : DA) : DA := fun ρ Q => da ρ fun xs => db ρ fun ys => xs.length + ys.length ≤ 1000000 ∧ Q (xs ++ ys)
def isort (ns : List Int) : List Int := ns.mergeSort (fun a b => decide (a ≤ b))
def dSorted (dl : DA) : DA := fun ρ Q => dl ρ fun ds => ∃ ns : List Int, ds = ns.map D.int ∧ ns.length < 64 ∧ Q ((isort ns).map D.int)
theorem isort_eq {ns ms : List Int} (h : ms.Perm ns) (p : ms.Pairwise (· ≤ ·)) : ms = isort ns := by
  refine PySem.W.ksm_same (h.trans (List.mergeSort_perm ns _).symm) p ?_
  have := List.pairwise_mergeSort (le := fun a b : Int => decide (a ≤ b)) (fun a b c h1 h2 => by simp at *; omega) (fun a b => by simp; omega) ns
  exact this.imp fun h => by simpa using h
section
variable {X : Cx} {b c : Bool} {e f : Expr} {te tf : TE} {dl dm : DA} {de df : DE} {pos : Pos} {lo hi : Option Expr} {tl th : TO} {d1 d2 : DO}
theorem qo_none : QO X none tNoPart dONone := ⟨po_none, fun _ _ F H _ _ _ _ r q k => k _ F H (Stp.refl r.fh) q⟩
theorem qo_some (h : QE false X e te de) : QO X (some e) (tPart te) (dOSome de) := ⟨po_some h.pe, fun H0 F0 F H ρ σ Q R r q k =>
  h.se H0 F0 F H ρ σ _ _ r q fun v d F2 H2 s hv hq => by
    cases d with
    | int i => cases hv; exact ⟨i, rfl, k _ F2 H2 s hq⟩
    | _ => exact hq.elim⟩
theorem ql_cut {p2 : Pos} (h : QS true X e te dl) (h1 : QO X lo tl d1) (h2 : QO X hi th d2) : QL X (.Subscript e (.Slice lo hi none p2) pos) (tSl (rSlL X.K) te tl th) (dCut dl d1 d2) := ⟨pe_slice sl_list h.pe h1.po h2.po, fun H0 F0 F H ρ σ Q R r q k =>
  h.ss H0 F0 F H ρ σ _ _ r q fun a vs ds F2 H2 s hs hr hq => h1.so H0 F0 F2 H2 ρ σ _ _ (r.step s) hq fun o1 F3 H3 s3 hq => h2.so H0 F0 F3 H3 ρ σ _ _ ((r.step s).step s3) hq fun o2 F4 H4 s4 hq =>
    ⟨a, vs, rfl, (s3.hH.trans s4.hH).seq hs, fun p hp => by
      have st := (s.trans s3).trans s4
      exact k p _ _ F4 _ (st.trans (Stp.grow st.fh (Ex.new hp))) (st.hH.back hp) (st.fh.back hp) upd_same ((hr.up (s3.fF.trans s4.fF)).cut o1 o2) hq⟩⟩
theorem ql_rev {k : Nat} {p1 p2 p3 : Pos} (h : QS true X e te dl) : QL X (.Subscript e (.Slice none none (some (.UnaryOp .USub (.Constant (.int 1) k p1) p2)) p3) pos) (tRevL X.K te) (dRev dl) := ⟨pe_revL h.pe, fun H0 F0 F H ρ σ Q R r q k =>
  h.ss H0 F0 F H ρ σ _ _ r q fun a vs ds F2 H2 s hs hr hq => ⟨a, vs, rfl, hs, fun p hp =>
    k p _ _ F2 _ (s.trans (Stp.grow s.fh (Ex.new hp))) (s.hH.back hp) (s.fh.back hp) upd_same (RepL.reverse hr) hq⟩⟩
def rListQ (K : PySem.W.Frag) : List V → Hp → VK → Prop := fun xs H Q => ∃ p ys, xs = [.ref p] ∧ (SqL K H p ys ∨ SqT K H p ys) ∧ ∀ l, H l = none → Q (.ref l) (upd H l (.lst ys))
theorem ql_list {x : Expr} {p : Pos} (h : QI true X x te dl) (hm : X.mg "list" = none) (hg : Gl X "list" := by rfl) (hv : bootBuiltins "list" = some (.type "list") := by decide +kernel) (he : starEach [x] X.env = (false, eval x X.env) :: starEach [] X.env := by rfl) :
    QL X (.Call (.Name "list" p) [x] [] pos) (tCB (rListQ X.K) (tCons te tNil)) dl := ⟨pe_callTy call_list_of hg hm hv (pa_cons h.pe pa_nil he) (by decide) (by decide) he, fun H0 F0 F H ρ σ Q R r q k =>
  h.si H0 F0 F H ρ σ _ _ r q fun a vs ds F2 H2 s hs hr hq => ⟨a, vs, rfl, hs, fun p hp =>
    k p _ _ F2 _ (s.trans (Stp.grow s.fh (Ex.new hp))) (s.hH.back hp) (s.fh.back hp) upd_same hr hq⟩⟩
theorem ql_cat (h : QX true X e te dl) (h2 : QX true X f tf dm) : QL X (.BinOp e .Add f pos) (tOp rCat te tf) (dCat dl dm) := ⟨pe_op op_cat h.pe h2.pe, fun H0 F0 F H ρ σ Q R r q k =>
  h.sx H0 F0 F H ρ σ _ _ r q fun a vs ds F2 H2 s hs hr hq => h2.sx H0 F0 F2 H2 ρ σ _ _ (r.step s) hq fun a2 ws es F3 H3 s3 hs3 hr3 hq =>
    ⟨a, a2, vs, ws, rfl, rfl, s3.hH _ _ hs, hs3, by rw [RepL.len hr, RepL.len hr3]; exact sz_ok hq.1, fun p hp =>
      k p _ _ F3 _ ((s.trans s3).trans (Stp.grow s3.fh (Ex.new hp))) ((s.trans s3).hH.back hp) (s3.fh.back hp) upd_same ((hr.up s3.fF).append hr3) hq.2⟩⟩
theorem ql_sorted {x : Expr} {p : Pos} (h : QS false X x te dl) (hm : X.mg "sorted" = none) (hg : Gl X "sorted" := by rfl) (hv : bootBuiltins "sorted" = some (.builtin "sorted") := by decide +kernel) (he : starEach [x] X.env = (false, eval x X.env) :: starEach [] X.env := by rfl) :
    QL X (.Call (.Name "sorted" p) [x] [] pos) (tCB (rSorted X.K) (tCons te tNil)) (dSorted dl) := ⟨pe_callB cr_sorted hg hm hv (pa_cons h.pe pa_nil he) (by decide) (by decide) he, fun H0 F0 F H ρ σ Q R r q k =>
  h.ss H0 F0 F H ρ σ _ _ r q fun a vs ds F2 H2 s hs hr hq => by
    obtain ⟨ns, rfl, hl, hq⟩ := hq
    obtain rfl := hr.ints_inv
    refine ⟨a, ns, rfl, hs, hl, fun ns' p hp1 hp2 hp => ?_⟩
    obtain rfl := isort_eq hp1 hp2
    exact k p _ _ F2 _ (s.trans (Stp.grow s.fh (Ex.new hp))) (s.hH.back hp) (s.fh.back hp) upd_same (RepL.ints _) hq⟩
end
end DL

/-! DL D: statements, loops, comprehensions -/
namespace DL
open PySem L2

structure DEnds where
  nx : Env → Prop
  rt : D → Prop
  bk : Env → Prop := fun _ => False
  ct : Env → Prop := fun _ => False
abbrev DS := DEnds → Env → Prop
structure Good (K : PySem.W.Frag) (H0 F0 : Hp) (P : DEnds) (E : Ends) : Prop where
  nx : ∀ F H ρ σ, Rel K H0 F0 F H ρ σ → P.nx ρ → E.nx σ H
  rt : ∀ F H v d, Ex F0 F → Ex F H → Ex H0 H → (∀ a, F0 a = none → F a ≠ none → H0 a = none) → Rep K F v d → P.rt d → E.rt v H
  bk : ∀ F H ρ σ, Rel K H0 F0 F H ρ σ → P.bk ρ → E.bk σ H
  ct : ∀ F H ρ σ, Rel K H0 F0 F H ρ σ → P.ct ρ → E.ct σ H
def SSt (K : PySem.W.Frag) (ts : TS) (ds : DS) : Prop := ∀ (H0 F0 F H : Hp) (ρ : Env) (σ : St) (P : DEnds) (E : Ends), Rel K H0 F0 F H ρ σ → ds P ρ → Good K H0 F0 P E → ts E σ H
structure QSt (X : Cx) (s : Stmt) (ts : TS) (ds : DS) : Prop where
  ps : PS X s ts
  ss : SSt X.K ts ds
structure QSs (X : Cx) (s : List Stmt) (ts : TS) (ds : DS) : Prop where
  ps : PSs X s ts
  ss : SSt X.K ts ds
def dNext : DS := fun P ρ => P.nx ρ
def dSeq (a b : DS) : DS := fun P ρ => a { P with nx := b P } ρ
def dBreak : DS := fun P ρ => P.bk ρ
def dCont : DS := fun P ρ => P.ct ρ
def dIfS (t : DT) (a b : DS) : DS := fun P ρ => t ρ fun c => (c = true → a P ρ) ∧ (c = false → b P ρ)
def dDrop (de : DE) : DS := fun P ρ => de ρ fun _ => P.nx ρ
def dSet (i : Nat) (de : DE) : DS := fun P ρ => de ρ fun d => P.nx (put ρ i (.fz d))
def dSetL (i : Nat) (dl : DA) : DS := fun P ρ => dl ρ fun ds => P.nx (put ρ i (.l1 ds))
section
variable {K : PySem.W.Frag} {F H F2 H2 H0 F0 : Hp} {ρ : Env} {σ : St}
/-- one's own things are frozen -/
def Sl.frz : Sl → Sl
  | .l1 ds => .fz (.lst ds)
  | .l2 dss => .fz (.lst (dss.map D.lst))
  | .dk m => .fz (.dct m)
  | .dl m => .fz (.dct (m.map fun p => (p.1, D.lst p.2)))
  | .ob _ _ => .un
  | s => s
def frzAll : Env → Env
  | [] => []
  | s :: r => s.frz :: frzAll r
theorem OwnD.rep (e : Ex F H) : ∀ {kvs : List (Key × V)} {as : List Addr} {m : List (Int × List D)}, OwnD K F H kvs as m → RepD K H kvs (m.map fun p => (p.1, D.lst p.2))
  | _, _, _, .nil => .nil
  | _, _, _, .cons h1 h2 h3 => .cons (.lst h1 (h2.up e)) (OwnD.rep e h3)
theorem OwnLs.repIn (e : Ex F F2) : ∀ {as : List Addr} {dss : List (List D)}, (∀ a ∈ as, F2 a = H a) → OwnLs K F H as dss → RepL K F2 (as.map V.ref) (dss.map D.lst)
  | _, _, _, .nil => .nil
  | _, _, k, .cons h1 h2 h3 => .cons (.lst (by rw [k _ (List.mem_cons_self ..)]; exact h1) (h2.up e)) (OwnLs.repIn e (fun a ha => k a (List.mem_cons_of_mem _ ha)) h3)
theorem OwnD.repIn (e : Ex F F2) : ∀ {kvs : List (Key × V)} {as : List Addr} {m : List (Int × List D)}, (∀ a ∈ as, F2 a = H a) → OwnD K F H kvs as m → RepD K F2 kvs (m.map fun p => (p.1, D.lst p.2))
  | _, _, _, _, .nil => .nil
  | _, _, _, k, .cons h1 h2 h3 => .cons (.lst (by rw [k _ (List.mem_cons_self ..)]; exact h1) (h2.up e)) (OwnD.repIn e (fun a ha => k a (List.mem_cons_of_mem _ ha)) h3)
theorem SlotOk.frz {s : Sl} {v : Option V} {o : List Addr} (h : SlotOk K F H s v o) (e : Ex F F2) (k : ∀ a ∈ o, F2 a = H a) : SlotOk K F2 H s.frz v [] := by
  cases h with
  | un => exact .un _
  | fz h => exact .fz (h.up e)
  | l1 h1 h2 => exact .fz (.lst (by rw [k _ (List.mem_cons_self ..)]; exact h1) (h2.up e))
  | l2 h1 h2 => exact .fz (.lst (by rw [k _ (List.mem_cons_self ..)]; exact h1) (h2.repIn e fun a ha => k a (List.mem_cons_of_mem _ ha)))
  | dk h1 h2 => exact .fz (.dct (by rw [k _ (List.mem_cons_self ..)]; exact h1) (h2.up e))
  | dl h1 h2 => exact .fz (.dct (by rw [k _ (List.mem_cons_self ..)]; exact h1) (h2.repIn e fun a ha => k a (List.mem_cons_of_mem _ ha)))
  | ob h => exact .un _
theorem Slots.frz (e : Ex F F2) : ∀ {ρ : Env} {σ : St} {os : List Addr}, (∀ a ∈ os, F2 a = H a) → Slots K F H ρ σ os → Slots K F2 H (frzAll ρ) σ []
  | _, _, _, _, .nil => .nil
  | _, _, _, k, .cons h1 h2 => .cons (o := []) (os := []) (h1.frz e fun a ha => k a (List.mem_append.mpr (.inl ha))) (Slots.frz e (fun a ha => k a (List.mem_append.mpr (.inr ha))) h2)
/-- F and what stands at the addresses os -/
def join (F H : Hp) (os : List Addr) : Hp := fun a => if a ∈ os then H a else F a
theorem join_in {F H : Hp} {os : List Addr} {a : Addr} (h : a ∈ os) : join F H os a = H a := by unfold join; rw [if_pos h]
theorem join_out {F H : Hp} {os : List Addr} {a : Addr} (h : a ∉ os) : join F H os a = F a := by unfold join; rw [if_neg h]
theorem join_ex {os : List Addr} (e : ∀ a ∈ os, F a = none) : Ex F (join F H os) := fun a o h => by
  by_cases z : a ∈ os
  · rw [e a z] at h; cases h
  · rw [join_out z]; exact h
theorem join_to {os : List Addr} (e : Ex F H) : Ex (join F H os) H := fun a o h => by
  by_cases z : a ∈ os
  · rw [join_in z] at h; exact h
  · rw [join_out z] at h; exact e a o h
theorem join_nw {os : List Addr} {a : Addr} (n : join F H os a ≠ none) : F a ≠ none ∨ a ∈ os := by
  by_cases z : a ∈ os
  · exact .inr z
  · rw [join_out z] at n; exact .inl n
theorem Rel.frzAll (r : Rel K H0 F0 F H ρ σ) : ∃ F2, Rel K H0 F0 F2 H (DL.frzAll ρ) σ := by
  obtain ⟨os, h1, h2, h3⟩ := r.sl
  have e : Ex F (join F H os) := join_ex fun a ha => (h3 a ha).1
  refine ⟨join F H os, ⟨[], h1.frz e fun a ha => join_in ha, List.nodup_nil, fun a ha => by cases ha⟩, r.f0.trans e, join_to r.fh, r.h0, fun a e n => ?_⟩
  rcases join_nw n with n | n
  · exact r.nw a e n
  · exact (h3 a n).2
/-- one slot is frozen -/
theorem Rel.frz1 (r : Rel K H0 F0 F H ρ σ) (i : Nat) : ∃ F2, Ex F F2 ∧ Rel K H0 F0 F2 H (put ρ i (nth ρ i).frz) σ := by
  by_cases hi : nth ρ i = .un
  · have : put ρ i (nth ρ i).frz = ρ := by
      rw [hi]
      show put ρ i .un = ρ
      clear r
      induction ρ generalizing i with
      | nil => rfl
      | cons s ρ ih =>
        cases i with
        | zero =>
          have : s = .un := hi
          subst this
          rfl
        | succ i => show s :: put ρ i .un = s :: ρ; rw [ih i hi]
    rw [this]
    exact ⟨F, Ex.refl F, r⟩
  · obtain ⟨v, o, e1, e2, n, ho, k⟩ := r.mutate i hi
    have e : Ex F (join F H o) := join_ex fun a ha => (ho a ha).1
    refine ⟨join F H o, e, k (join F H o) H _ [] e (join_to r.fh) r.h0 (fun a e n => ?_) (fun _ _ _ h => h) (e2.frz e fun a ha => join_in ha) List.nodup_nil (fun a ha => by cases ha) (fun a ha n => ?_)⟩
    · rcases join_nw n with n | n
      · exact r.nw a e n
      · exact (ho a n).2
    · rcases join_nw n with n | n
      · exact .inl n
      · exact (ha n).elim
end
def dRet (de : DE) : DS := fun P ρ => de (frzAll ρ) P.rt
def dRetN : DS := fun P _ => P.rt .non
def dFrz (is : List Nat) (a : DS) : DS := fun P ρ => a P (is.foldl (fun ρ i => put ρ i (nth ρ i).frz) ρ)
section
variable {X : Cx} {pos : Pos} {e : Expr} {te : TE} {de : DE} {st : Stmt} {rest a b : List Stmt} {t u : TS} {d d' : DS} {tt : TT} {dt : DT} {dl : DA}
theorem qss_nil : QSs X [] tNext dNext := ⟨pss_nil, fun H0 F0 F H ρ σ P E r q g => g.nx _ _ _ _ r q⟩
theorem qss_cons (h1 : QSt X st t d) (h2 : QSs X rest u d') : QSs X (st :: rest) (tSeq t u) (dSeq d d') := ⟨pss_cons h1.ps h2.ps, fun H0 F0 F H ρ σ P E r q g =>
  h1.ss H0 F0 F H ρ σ _ _ r q ⟨fun F H ρ σ r q => h2.ss H0 F0 F H ρ σ P E r q g, g.rt, g.bk, g.ct⟩⟩
theorem qss_one (h : QSt X st t d) : QSs X [st] t d := ⟨pss_one h.ps, h.ss⟩
theorem qss_frz (is : List Nat) (h : QSs X rest t d) : QSs X rest t (dFrz is d) := ⟨h.ps, fun H0 F0 F H ρ σ P E r q g => by
  have : ∃ F2, Rel X.K H0 F0 F2 H (is.foldl (fun ρ i => put ρ i (nth ρ i).frz) ρ) σ := by
    clear q
    induction is generalizing F ρ with
    | nil => exact ⟨F, r⟩
    | cons i is ih =>
      obtain ⟨F2, _, r2⟩ := r.frz1 i
      exact ih F2 _ r2
  obtain ⟨F2, r2⟩ := this
  exact h.ss H0 F0 F2 H _ σ P E r2 q g⟩
theorem qs_pass : QSt X (.Pass pos) tNext dNext := ⟨ps_pass, fun H0 F0 F H ρ σ P E r q g => g.nx _ _ _ _ r q⟩
theorem qs_break : QSt X (.Break pos) tBreak dBreak := ⟨ps_break, fun H0 F0 F H ρ σ P E r q g => g.bk _ _ _ _ r q⟩
theorem qs_cont : QSt X (.Continue pos) tCont dCont := ⟨ps_continue, fun H0 F0 F H ρ σ P E r q g => g.ct _ _ _ _ r q⟩
theorem qs_if {c : Expr} (hc : QT X c tt dt) (ha : QSs X a t d) (hb : QSs X b u d') : QSt X (.If c a b pos) (tIfS tt t u) (dIfS dt d d') := ⟨ps_if hc.pt ha.ps hb.ps, fun H0 F0 F H ρ σ P E r q g =>
  hc.st H0 F0 F H ρ σ _ _ r q fun z F2 H2 s hq => by
    cases z with
    | true => rw [if_pos rfl]; exact ha.ss H0 F0 F2 H2 ρ σ P E (r.step s) (hq.1 rfl) g
    | false => rw [if_neg Bool.false_ne_true]; exact hb.ss H0 F0 F2 H2 ρ σ P E (r.step s) (hq.2 rfl) g⟩
theorem qs_ret (h : QE true X e te de) : QSt X (.Return (some e) pos) (tRet te) (dRet de) := ⟨ps_ret h.pe, fun H0 F0 F H ρ σ P E r q g => by
  obtain ⟨F2, r2⟩ := r.frzAll
  exact h.se H0 F0 F2 H _ σ P.rt E.rt r2 q fun v d F3 H3 s hv hq => by
    have r3 := r2.step s
    exact g.rt F3 H3 v d r3.f0 r3.fh r3.h0 r3.nw hv hq⟩
theorem qs_retN : QSt X (.Return none pos) tRetN dRetN := ⟨ps_retN, fun H0 F0 F H ρ σ P E r q g => g.rt F H .non .non r.f0 r.fh r.h0 r.nw .non q⟩
theorem qs_expr (h : QE false X e te de) (hs : swapsWith e none pos.line X.env = pure false := by rfl) : QSt X (.Expr e pos) (tDrop te) (dDrop de) := ⟨ps_expr h.pe hs, fun H0 F0 F H ρ σ P E r q g =>
  h.se H0 F0 F H ρ σ _ _ r q fun v d F2 H2 s hv hq => g.nx _ _ _ _ (r.step s) hq⟩
theorem qs_set {i : Nat} {x : Str} {pos' : Pos} (hN : X.N.Nodup) (hi : X.N[i]? = some x) (hx : Loc X.env.scope x) (he : QE true X e te de) (hs : swapsWith e (some (.Name x pos')) pos.line X.env = pure false := by rfl)
    (hf : X.fn x = true ∨ X.env.scope.names.lookup x = some .local := by first | exact .inl rfl | exact .inr rfl | assumption) : QSt X (.Assign [.Name x pos'] e pos) (tAsg te (gName i)) (dSet i de) := ⟨ps_set hN hi hx he.pe hs hf, fun H0 F0 F H ρ σ P E r q g =>
  he.se H0 F0 F H ρ σ _ _ r q fun v d F2 H2 s hv hq => g.nx _ _ _ _ ((r.step s).putFz i hv) hq⟩
theorem qs_setL {i : Nat} {x : Str} {pos' : Pos} (hN : X.N.Nodup) (hi : X.N[i]? = some x) (hx : Loc X.env.scope x) (he : QL X e te dl) (hs : swapsWith e (some (.Name x pos')) pos.line X.env = pure false := by rfl)
    (hf : X.fn x = true ∨ X.env.scope.names.lookup x = some .local := by first | exact .inl rfl | exact .inr rfl | assumption) : QSt X (.Assign [.Name x pos'] e pos) (tAsg te (gName i)) (dSetL i dl) := ⟨ps_set hN hi hx he.pe hs hf, fun H0 F0 F H ρ σ P E r q g =>
  he.sl H0 F0 F H ρ σ _ _ r q fun p vs ds F2 H2 s hp hf h2 hv hq => g.nx _ _ _ _ (r.setOwn s i (.l1 h2 hv) (by simp) (fun a ha => by simp only [List.mem_singleton] at ha; subst ha; exact ⟨hf, hp⟩)) hq⟩
end

/-! ### loops -/
/-- a frozen list -/
def SF (K : PySem.W.Frag) (te : TE) (dl : DA) : Prop := ∀ (H0 F0 F H : Hp) (ρ : Env) (σ : St) (Q : List D → Prop) (R : VK), Rel K H0 F0 F H ρ σ → dl ρ Q →
  (∀ a vs ds F2 H2, Stp F H F2 H2 → SqL K F2 a vs → RepL K F2 vs ds → Q ds → R (.ref a) H2) → te σ H R
structure QF (X : Cx) (e : Expr) (te : TE) (dl : DA) : Prop where
  pe : PE X e te
  sf : SF X.K te dl
section
variable {X : Cx} {e : Expr} {te : TE} {de : DE} {dl : DA}
theorem qf_of (h : QE true X e te de) : QF X e te (dS de) := ⟨h.pe, fun H0 F0 F H ρ σ Q R r q k => h.se H0 F0 F H ρ σ _ _ r q fun v d F2 H2 s hv hq => by
  cases d with
  | lst ds =>
    cases hv with
    | lst h1 h2 => exact k _ _ _ F2 H2 s (.inl (.inl h1)) h2 hq
  | scr ns =>
    cases hv with
    | scr h1 => exact k _ _ _ F2 H2 s h1 (RepL.ints ns) hq
  | _ => exact hq.elim⟩
theorem qf_new (h : QL X e te dl) : QF X e te dl := ⟨h.pe, fun H0 F0 F H ρ σ Q R r q k => h.sl H0 F0 F H ρ σ Q R r q fun p vs ds F2 H2 s hp hf h2 hv hq =>
  k p vs ds _ H2 (Stp.own s hp hf h2) (.inl (.inl upd_same)) (hv.up (Ex.new hf)) hq⟩
end
def dForG (body : DS) (j : Nat) (P : DEnds) : List D → Env → Prop
  | [], ρ => P.nx ρ
  | x :: xs, ρ => body { P with nx := dForG body j P xs, ct := dForG body j P xs, bk := P.nx } (put ρ j (.fz x))
def dFor (dl : DA) (j : Nat) (body : DS) : DS := fun P ρ => dl ρ fun ds => dForG body j P ds ρ
def rangeD (lo hi : Int) : List D := (List.range (hi - lo).toNat).map fun i => D.int (lo + (i : Nat))
def dRng1 (da : DA) : DA := fun ρ Q => da ρ fun xs => match xs with | [.int j] => (-(2 ^ 62) ≤ j ∧ j < 2 ^ 62) ∧ Q (rangeD 0 j) | _ => False
def dRng2 (da : DA) : DA := fun ρ Q => da ρ fun xs => match xs with | [.int i, .int j] => (-(2 ^ 62) ≤ i ∧ i < 2 ^ 62 ∧ -(2 ^ 62) ≤ j ∧ j < 2 ^ 62) ∧ Q (rangeD i j) | _ => False
section
variable {X : Cx} {pos : Pos} {e : Expr} {te : TE} {de : DE} {body : List Stmt} {tb : TS} {db : DS} {dl : DA} {tt : TT} {dt : DT} {j : Nat} {K : PySem.W.Frag}
theorem Rel.base {H0 F0 F H : Hp} {ρ : Env} {σ : St} (r : Rel K H0 F0 F H ρ σ) : Rel K H0 F F H ρ σ := ⟨r.sl, Ex.refl F, r.fh, r.h0, fun a e n => (n e).elim⟩
theorem Rel.lift {H0 F0 F F2 H H2 : Hp} {ρ ρ2 : Env} {σ σ2 : St} (r : Rel K H0 F0 F H ρ σ) (r2 : Rel K H0 F F2 H2 ρ2 σ2) : Rel K H0 F0 F2 H2 ρ2 σ2 := ⟨r2.sl, r.f0.trans r2.f0, r2.fh, r2.h0, fun a e n => by
  by_cases z : F a = none
  · exact r2.nw a z n
  · exact r.nw a e z⟩
theorem Good.base {H0 F0 F H : Hp} {ρ : Env} {σ : St} {P : DEnds} {E : Ends} (g : Good K H0 F0 P E) (r : Rel K H0 F0 F H ρ σ) : Good K H0 F P E :=
  ⟨fun F2 H2 ρ2 σ2 r2 q => g.nx _ _ _ _ (r.lift r2) q, fun F2 H2 v d e1 e2 e3 n hv q => g.rt F2 H2 v d (r.f0.trans e1) e2 e3 (fun a e m => by
    by_cases z : F a = none
    · exact n a z m
    · exact r.nw a e z) hv q, fun F2 H2 ρ2 σ2 r2 q => g.bk _ _ _ _ (r.lift r2) q, fun F2 H2 ρ2 σ2 r2 q => g.ct _ _ _ _ (r.lift r2) q⟩
theorem qs_forL {x : Str} {px : Pos} (hp : PassesOwn (model X.prog X.w) X.A X.env X.xe) (hc : X.calm = true) (hN : X.N.Nodup) (hi : X.N[j]? = some x) (hx : Loc X.env.scope x) (h : QF X e te dl) (hb : QSs X body tb db)
    (hf : X.fn x = true ∨ X.env.scope.names.lookup x = some .local := by first | exact .inl rfl | exact .inr rfl | assumption)
    (hfs : ∀ x, foldedSetIterable e X.env x = pure x := by intro _; rfl) : QSt X (.For (.Name x px) e body [] pos) (tFor (iList X.K te) (gName j) tb) (dFor dl j db) :=
  ⟨ps_for hp hc (pi_list h.pe) (pg_name hN hi hx hf) hb.ps hfs, fun H0 F0 F1 H1 ρ1 σ1 P E r1 q g1 => h.sf H0 F0 F1 H1 ρ1 σ1 _ _ r1 q fun a vs ds F H s hs hv q => by
  have r := r1.step s
  have g := g1.base r
  refine ⟨a, rfl, ⟨vs, r.fh.seq hs⟩, for_list (K := X.K) (a := a) (xs := vs) (g := gName j) (fun k σ H => ∃ F' ρ', Rel X.K H0 F F' H ρ' σ ∧ dForG db j P (ds.drop k) ρ') ⟨F, ρ1, r.base, q⟩ (fun k σ H _ ⟨F', ρ', r', _⟩ => (r'.f0.trans r'.fh).seq hs) ?_ ?_⟩
  · rintro k x σ H hx ⟨F', ρ', r', q⟩
    have hk : k < ds.length := by
      have := (List.getElem?_eq_some_iff.mp hx).1
      rw [hv.len] at this
      exact this
    obtain ⟨v, e1, e2⟩ := hv.get (List.getElem?_eq_getElem hk)
    obtain rfl : v = x := Option.some.inj (e1.symm.trans hx)
    rw [List.drop_eq_getElem_cons hk] at q
    exact hb.ss H0 F F' H _ _ _ _ (r'.putFz j (e2.up r'.f0)) q ⟨fun F2 H2 ρ2 σ2 r2 q2 => ⟨F2, ρ2, r2, q2⟩, g.rt, g.nx, fun F2 H2 ρ2 σ2 r2 q2 => ⟨F2, ρ2, r2, q2⟩⟩
  · rintro σ H ⟨F', ρ', r', q⟩
    rw [hv.len, List.drop_length] at q
    exact g.nx F' H ρ' σ r' q⟩
theorem rangeD_len (lo hi : Int) : (rangeD lo hi).length = (hi - lo).toNat := by unfold rangeD; rw [List.length_map, List.length_range]
theorem rangeD_get {lo hi : Int} {k : Nat} (h : k < (hi - lo).toNat) : (rangeD lo hi)[k]'(by rw [rangeD_len]; exact h) = .int (lo + k) := by
  unfold rangeD
  rw [List.getElem_map, List.getElem_range]
theorem ss_forR {H0 F0 F H : Hp} {ρ : Env} {σ : St} {P : DEnds} {E : Ends} {lo hi : Int} (hb : SSt K tb db) (r : Rel K H0 F0 F H ρ σ) (q : dForG db j P (rangeD lo hi) ρ) (g : Good K H0 F0 P E) :
    ∃ W : Nat → Nat → St → Hp → Prop, (∃ m, W 0 m σ H) ∧ ∀ i m σ H, W i m σ H →
      ((Itr lo (hi - lo).toNat).stop i H ∧ E.nx σ H) ∨ ((Itr lo (hi - lo).toNat).go i H ∧ ∃ Nx : St → Hp → Prop, (∀ σ' H', Nx σ' H' → ∃ m', m' < m ∧ W (i + 1) m' σ' H') ∧ ∀ x H', (Itr lo (hi - lo).toNat).yld i H x H' → gName j x σ H' fun σ2 H2 => tb { E with nx := Nx, ct := Nx, bk := E.nx } σ2 H2) := by
  refine for_range (lo := lo) (n := (hi - lo).toNat) (g := gName j) (fun k σ H => ∃ F' ρ', Rel K H0 F0 F' H ρ' σ ∧ dForG db j P ((rangeD lo hi).drop k) ρ') ⟨F, ρ, r, q⟩ ?_ ?_
  · rintro k σ H hk ⟨F', ρ', r', q⟩
    rw [List.drop_eq_getElem_cons (by rw [rangeD_len]; exact hk), rangeD_get hk] at q
    exact hb H0 F0 F' H _ _ _ _ (r'.putFz j (.int _)) q ⟨fun F2 H2 ρ2 σ2 r2 q2 => ⟨F2, ρ2, r2, q2⟩, g.rt, g.nx, fun F2 H2 ρ2 σ2 r2 q2 => ⟨F2, ρ2, r2, q2⟩⟩
  · rintro σ H ⟨F', ρ', r', q⟩
    rw [List.drop_eq_nil_of_le (by rw [rangeD_len]; exact Nat.le_refl _)] at q
    exact g.nx F' H ρ' σ r' q
theorem qs_forR1 {x : Str} {px p p2 : Pos} {a : Expr} {ta : TA} {da : DA} (hp : PassesOwn (model X.prog X.w) X.A X.env X.xe) (hc : X.calm = true) (hN : X.N.Nodup) (hi : X.N[j]? = some x) (hx : Loc X.env.scope x) (hm : X.mg "range" = none) (h : QA false X [a] ta da) (hb : QSs X body tb db)
    (hg : Gl X "range" := by rfl) (hs : starEach [a] X.env = [(false, eval a X.env)] := by rfl)
    (hf : X.fn x = true ∨ X.env.scope.names.lookup x = some .local := by first | exact .inl rfl | exact .inr rfl | assumption) : QSt X (.For (.Name x px) (.Call (.Name "range" p) [a] [] p2) body [] pos) (tFor (iRng1 ta) (gName j) tb) (dFor (dRng1 da) j db) :=
  ⟨ps_for hp hc (pi_range1 hg hm h.pa hs) (pg_name hN hi hx hf) hb.ps, fun H0 F0 F1 H1 ρ1 σ1 P E r1 q g1 => h.sa H0 F0 F1 H1 ρ1 σ1 _ _ r1 q fun vs ds F H s hv q => by
    split at q
    · cases hv with
      | cons h1 h2 =>
        cases h1
        cases h2
        refine ⟨_, rfl, q.1.1, q.1.2, ?_⟩
        have := ss_forR (lo := 0) (j := j) hb.ss (r1.step s) q.2 g1
        rwa [Int.sub_zero] at this
    · exact q.elim⟩
theorem qs_forR2 {x : Str} {px p p2 : Pos} {a b : Expr} {ta : TA} {da : DA} (hp : PassesOwn (model X.prog X.w) X.A X.env X.xe) (hc : X.calm = true) (hN : X.N.Nodup) (hi : X.N[j]? = some x) (hx : Loc X.env.scope x) (hm : X.mg "range" = none) (h : QA false X [a, b] ta da) (hb : QSs X body tb db)
    (hg : Gl X "range" := by rfl) (hs : starEach [a, b] X.env = [(false, eval a X.env), (false, eval b X.env)] := by rfl) (hs2 : starEach [b] X.env = [(false, eval b X.env)] := by rfl)
    (hf : X.fn x = true ∨ X.env.scope.names.lookup x = some .local := by first | exact .inl rfl | exact .inr rfl | assumption) : QSt X (.For (.Name x px) (.Call (.Name "range" p) [a, b] [] p2) body [] pos) (tFor (iRng2 ta) (gName j) tb) (dFor (dRng2 da) j db) :=
  ⟨ps_for hp hc (pi_range2 hg hm h.pa hs hs2) (pg_name hN hi hx hf) hb.ps, fun H0 F0 F1 H1 ρ1 σ1 P E r1 q g1 => h.sa H0 F0 F1 H1 ρ1 σ1 _ _ r1 q fun vs ds F H s hv q => by
    split at q
    · cases hv with
      | cons h1 h2 =>
        cases h1
        cases h2 with
        | cons h3 h4 =>
          cases h3
          cases h4
          exact ⟨_, _, rfl, q.1, ss_forR (j := j) hb.ss (r1.step s) q.2 g1⟩
    · exact q.elim⟩
/-- while: W by a measure -/
def dWhile (t : DT) (body : DS) : DS := fun P ρ => ∃ W : Nat → Env → Prop, (∃ m, W m ρ) ∧ ∀ m ρ', W m ρ' → t ρ' fun c => (c = true → body { P with nx := fun ρ2 => ∃ m', m' < m ∧ W m' ρ2, ct := fun ρ2 => ∃ m', m' < m ∧ W m' ρ2, bk := P.nx } ρ') ∧ (c = false → P.nx ρ')
theorem qs_while {c : Expr} (hp : PassesOwn (model X.prog X.w) X.A X.env X.xe) (hc : QT X c tt dt) (hb : QSs X body tb db) : QSt X (.While c body [] pos) (tWhile tt tb) (dWhile dt db) :=
  ⟨ps_while hp hc.pt hb.ps, fun H0 F0 F1 H1 ρ1 σ1 P E r1 q g => by
    obtain ⟨W, ⟨m0, w0⟩, k⟩ := q
    refine ⟨fun m σ H => ∃ F ρ, Rel X.K H0 F0 F H ρ σ ∧ W m ρ, ⟨m0, F1, ρ1, r1, w0⟩, fun m σ H ⟨F, ρ, r, w⟩ => ?_⟩
    refine hc.st H0 F0 F H ρ σ _ _ r (k m ρ w) fun z F2 H2 s hq => ?_
    cases z with
    | true =>
      rw [if_pos rfl]
      refine ⟨fun σ' H' => ∃ m', m' < m ∧ ∃ F ρ, Rel X.K H0 F0 F H' ρ σ' ∧ W m' ρ, fun _ _ h => h, ?_⟩
      exact hb.ss H0 F0 F2 H2 ρ σ _ _ (r.step s) (hq.1 rfl) ⟨fun F H ρ σ r ⟨m', l, w⟩ => ⟨m', l, F, ρ, r, w⟩, g.rt, g.nx, fun F H ρ σ r ⟨m', l, w⟩ => ⟨m', l, F, ρ, r, w⟩⟩
    | false =>
      rw [if_neg Bool.false_ne_true]
      exact g.nx F2 H2 ρ σ (r.step s) (hq.2 rfl)⟩
end
end DL

/-! DL E: changes of lists and dicts of one's own; comprehensions -/
namespace DL
open PySem L2
section
variable {K : PySem.W.Frag} {F H F2 H2 H0 F0 : Hp} {ρ : Env} {σ : St}
theorem ne_mem {a b : Addr} {l : List Addr} (h : b ∈ l) (n : a ∉ l) : b ≠ a := fun z => n (z ▸ h)
theorem Rel.l1 (r : Rel K H0 F0 F H ρ σ) {i : Nat} {ds : List D} (h : nth ρ i = .l1 ds) : ∃ a vs, σ[i]? = some (some (.ref a)) ∧ H a = some (.lst vs) ∧ RepL K F vs ds ∧
    ∀ vs' ds', RepL K F vs' ds' → Rel K H0 F0 F (upd H a (.lst vs')) (put ρ i (.l1 ds')) σ := by
  obtain ⟨v, o, e1, e2, n, ho, k⟩ := r.mutate i (by rw [h]; exact Sl.noConfusion)
  rw [h] at e2
  cases e2 with
  | @l1 a vs _ h1 h2 =>
    refine ⟨a, vs, e1, h1, h2, fun vs' ds' h' => ?_⟩
    have q := ho a (List.mem_singleton.mpr rfl)
    refine k F _ _ [a] (Ex.refl F) (Ex.mut r.fh q.1) (Ex.mut r.h0 q.2) r.nw (fun b hb x e => ?_) (.l1 upd_same h') n (fun b hb => ⟨(ho b hb).1, (ho b hb).2, .inl hb⟩) (fun b _ n => .inl n)
    rw [upd_ne (fun z => hb (List.mem_singleton.mpr z))]
    exact e
theorem Rel.dk (r : Rel K H0 F0 F H ρ σ) {i : Nat} {m : List (Int × D)} (h : nth ρ i = .dk m) : ∃ a kvs, σ[i]? = some (some (.ref a)) ∧ H a = some (.dK kvs) ∧ RepD K F kvs m ∧
    ∀ kvs' m', RepD K F kvs' m' → Rel K H0 F0 F (upd H a (.dK kvs')) (put ρ i (.dk m')) σ := by
  obtain ⟨v, o, e1, e2, n, ho, k⟩ := r.mutate i (by rw [h]; exact Sl.noConfusion)
  rw [h] at e2
  cases e2 with
  | @dk a vs _ h1 h2 =>
    refine ⟨a, vs, e1, h1, h2, fun vs' ds' h' => ?_⟩
    have q := ho a (List.mem_singleton.mpr rfl)
    refine k F _ _ [a] (Ex.refl F) (Ex.mut r.fh q.1) (Ex.mut r.h0 q.2) r.nw (fun b hb x e => ?_) (.dk upd_same h') n (fun b hb => ⟨(ho b hb).1, (ho b hb).2, .inl hb⟩) (fun b _ n => .inl n)
    rw [upd_ne (fun z => hb (List.mem_singleton.mpr z))]
    exact e
theorem OwnLs.at : ∀ {as : List Addr} {dss : List (List D)} {k : Nat} {ds : List D}, OwnLs K F H as dss → dss[k]? = some ds → as.Nodup → ∃ b vs, as[k]? = some b ∧ b ∈ as ∧ H b = some (.lst vs) ∧ RepL K F vs ds ∧
    ∀ vs' ds', RepL K F vs' ds' → OwnLs K F (upd H b (.lst vs')) as (dss.set k ds')
  | _, _, _, _, .nil, e, _ => by simp at e
  | _, _, 0, _, .cons (a := a) (as := as) h1 h2 h3, e, n => by
    simp only [List.getElem?_cons_zero, Option.some.injEq] at e
    subst e
    refine ⟨_, _, rfl, List.mem_cons_self .., h1, h2, fun vs' ds' h' => .cons upd_same h' (h3.keep (Ex.refl F) fun b hb x e => ?_)⟩
    rw [upd_ne (ne_mem hb (List.nodup_cons.mp n).1)]
    exact e
  | _, _, k + 1, _, .cons (a := a) (as := as) h1 h2 h3, e, n => by
    simp only [List.getElem?_cons_succ] at e
    obtain ⟨n1, n2⟩ := List.nodup_cons.mp n
    obtain ⟨b, vs, e1, e2, e3, e4, g⟩ := OwnLs.at h3 e n2
    refine ⟨b, vs, by simpa using e1, List.mem_cons_of_mem _ e2, e3, e4, fun vs' ds' h' => .cons ?_ h2 (g vs' ds' h')⟩
    rw [upd_ne (ne_mem e2 n1).symm]
    exact h1
theorem OwnLs.len : ∀ {as : List Addr} {dss : List (List D)}, OwnLs K F H as dss → as.length = dss.length
  | _, _, .nil => rfl
  | _, _, .cons _ _ h3 => by simp only [List.length_cons, OwnLs.len h3]
theorem OwnLs.append : ∀ {as bs : List Addr} {dss ess : List (List D)}, OwnLs K F H as dss → OwnLs K F H bs ess → OwnLs K F H (as ++ bs) (dss ++ ess)
  | _, _, _, _, .nil, g => g
  | _, _, _, _, .cons h1 h2 h3, g => .cons h1 h2 (OwnLs.append h3 g)
theorem Rel.l2 (r : Rel K H0 F0 F H ρ σ) {i : Nat} {dss : List (List D)} (h : nth ρ i = .l2 dss) : ∃ a as, σ[i]? = some (some (.ref a)) ∧ H a = some (.lst (as.map V.ref)) ∧ as.length = dss.length ∧
    (∀ k ds, dss[k]? = some ds → ∃ b vs, as[k]? = some b ∧ H b = some (.lst vs) ∧ RepL K F vs ds ∧ ∀ vs' ds', RepL K F vs' ds' → Rel K H0 F0 F (upd H b (.lst vs')) (put ρ i (.l2 (dss.set k ds'))) σ) ∧
    (∀ p, H p = none → Rel K H0 F0 F (upd (upd H p (.lst [])) a (.lst ((as ++ [p]).map V.ref))) (put ρ i (.l2 (dss ++ [[]]))) σ) := by
  obtain ⟨v, o, e1, e2, n, ho, k⟩ := r.mutate i (by rw [h]; exact Sl.noConfusion)
  rw [h] at e2
  cases e2 with
  | @l2 a as _ h1 h2 =>
    obtain ⟨n1, n2⟩ := List.nodup_cons.mp n
    refine ⟨a, as, e1, h1, h2.len, fun j ds hj => ?_, fun p hp => ?_⟩
    · obtain ⟨b, vs, g1, g2, g3, g4, g5⟩ := h2.at hj n2
      refine ⟨b, vs, g1, g3, g4, fun vs' ds' h' => ?_⟩
      have q := ho b (List.mem_cons_of_mem _ g2)
      have ab : a ≠ b := (ne_mem g2 n1).symm
      refine k F _ _ (a :: as) (Ex.refl F) (Ex.mut r.fh q.1) (Ex.mut r.h0 q.2) r.nw (fun c hc x e => ?_) (.l2 (by rw [upd_ne ab]; exact h1) (g5 vs' ds' h')) n (fun b hb => ⟨(ho b hb).1, (ho b hb).2, .inl hb⟩) (fun b _ n => .inl n)
      rw [upd_ne (ne_mem (List.mem_cons_of_mem a g2) hc).symm]
      exact e
    · have q := ho a (List.mem_cons_self ..)
      have pa : p ≠ a := fun z => by rw [z, h1] at hp; cases hp
      have hF : F p = none := r.fh.back hp
      have keep : ∀ c, c ≠ a → ∀ x, H c = some x → upd (upd H p (.lst [])) a (.lst ((as ++ [p]).map V.ref)) c = some x := fun c hc x e => by
        rw [upd_ne hc, upd_ne (ne_of_none e hp)]
        exact e
      refine k F _ _ (a :: (as ++ [p])) (Ex.refl F) (Ex.mut (r.fh.trans (Ex.new hp)) q.1) (Ex.mut (r.h0.trans (Ex.new hp)) q.2) r.nw (fun c hc x e => keep c (ne_mem (List.mem_cons_self ..) hc).symm x e)
        (.l2 upd_same (OwnLs.append (h2.keep (Ex.refl F) fun c hc x e => keep c (ne_mem hc n1) x e) (.cons (by rw [upd_ne pa, upd_same]) .nil .nil))) ?_ (fun b hb => ?_) (fun b _ n => .inl n)
      · have dom : ∀ c ∈ a :: as, c ≠ p := fun c hc z => by
          subst z
          rcases List.mem_cons.mp hc with rfl | hc
          · exact pa rfl
          · have lsd : ∀ {as : List Addr} {dss : List (List D)}, OwnLs K F H as dss → c ∈ as → H c ≠ none := by
              intro as
              induction as with
              | nil => intro _ _ q; cases q
              | cons b as ih =>
                intro dss q hm
                cases q with
                | cons q1 _ q3 =>
                  rcases List.mem_cons.mp hm with rfl | hm
                  · rw [q1]; simp
                  · exact ih q3 hm
            exact lsd h2 hc hp
        rw [← List.cons_append, List.nodup_append]
        refine ⟨n, by simp, fun x hx y hy => ?_⟩
        simp only [List.mem_singleton] at hy
        subst hy
        exact dom x hx
      · rcases List.mem_cons.mp hb with rfl | hb
        · exact ⟨q.1, q.2, .inl (List.mem_cons_self ..)⟩
        · rcases List.mem_append.mp hb with hb | hb
          · exact ⟨(ho b (List.mem_cons_of_mem _ hb)).1, (ho b (List.mem_cons_of_mem _ hb)).2, .inl (List.mem_cons_of_mem _ hb)⟩
          · simp only [List.mem_singleton] at hb
            subst hb
            exact ⟨hF, r.h0.back hp, .inr hp⟩
end
def dApp (i : Nat) (de : DE) : DS := fun P ρ => match nth ρ i with
  | .l1 ds => de ρ fun d => ds.length < 1000000 ∧ P.nx (put ρ i (.l1 (ds ++ [d])))
  | _ => False
def dIns (i : Nat) (dk de : DE) : DS := fun P ρ => match nth ρ i with
  | .l1 ds => dk ρ fun x => match x with
    | .int k => de ρ fun d => ds.length < 1000000 ∧ 0 ≤ k ∧ k < 2 ^ 63 ∧ P.nx (put ρ i (.l1 (ds.take k.toNat ++ [d] ++ ds.drop k.toNat)))
    | _ => False
  | _ => False
def dPop (i : Nat) : DS := fun P ρ => match nth ρ i with
  | .l1 ds => ds ≠ [] ∧ P.nx (put ρ i (.l1 ds.dropLast))
  | _ => False
def dSetI (i : Nat) (dk de : DE) : DS := fun P ρ => de ρ fun d => match nth ρ i with
  | .l1 ds => dk ρ fun x => match x with
    | .int k => ∃ n, ixN ds.length k = some n ∧ P.nx (put ρ i (.l1 (ds.set n d)))
    | _ => False
  | _ => False
def dAppMv (i j : Nat) : DS := fun P ρ => match nth ρ i with
  | .l1 ds => match nth (put ρ j (nth ρ j).frz) j with
    | .fz d => ds.length < 1000000 ∧ i ≠ j ∧ P.nx (put (put ρ j (nth ρ j).frz) i (.l1 (ds ++ [d])))
    | _ => False
  | _ => False
def dApp2Nil (i : Nat) : DS := fun P ρ => match nth ρ i with
  | .l2 dss => dss.length < 1000000 ∧ P.nx (put ρ i (.l2 (dss ++ [[]])))
  | _ => False
def dApp2 (i : Nat) (dk de : DE) : DS := fun P ρ => match nth ρ i with
  | .l2 dss => dk ρ fun x => match x with
    | .int k => ∃ n ds, ixN dss.length k = some n ∧ dss[n]? = some ds ∧ de ρ fun d => ds.length < 1000000 ∧ P.nx (put ρ i (.l2 (dss.set n (ds ++ [d]))))
    | _ => False
  | _ => False
section
variable {X : Cx} {pos : Pos} {e f : Expr} {te tf : TE} {de df : DE}
theorem st_slot {K : PySem.W.Frag} {H : Hp} {a : Addr} {vs : List V} (h : H a = some (.lst vs)) : tyV K "list" (.ref a) H := .inl ⟨rfl, vs, .inl (.inl h)⟩
theorem qs_app {i : Nat} {x : Str} {p1 p2 p3 : Pos} (h : QE true X e te de) (hv : QE false X (.Name x p1) (tVar i) (dVar false i)) (hb : attributeBase (.Name x p1) "append" X.env (eval (.Name x p1) X.env) = eval (.Name x p1) X.env := by rfl)
    (hfew : ((backTo p3 (starEach [e] X.env)).all (fun x => !x.1) && (backToKw p3 (keywordEach [] X.env)).all (fun x => x.1.isSome)
      && decide (([e] : List Expr).length + ([] : List Keyword).length + (if ([] : List Keyword).isEmpty then 0 else 1) < 30)) = true := by rfl)
    (hline : (p2.endLine == p3.line) = true := by rfl) (hs : starEach [e] X.env = (false, eval e X.env) :: starEach [] X.env := by rfl) (hpl : (backTo p3 (starEach [] X.env)).any (·.1) = false := by rfl)
    (hsw : swapsWith (.Call (.Attribute (.Name x p1) "append" p2) [e] [] p3) none pos.line X.env = pure false := by rfl) :
    QSt X (.Expr (.Call (.Attribute (.Name x p1) "append" p2) [e] [] p3) pos) (tDrop (tBM X.K "list" rAppend (tVar i) (tCons te tNil))) (dApp i de) :=
  ⟨ps_expr (pe_bm PySem.F.plainAttrs_list PySem.F.slot_list_append PySem.F.type_list_append mt_append hv.pe (pa_cons h.pe pa_nil hs) hb hfew hline hs hpl) hsw, fun H0 F0 F H ρ σ P E r q g => by
    unfold dApp at q
    split at q
    · rename_i ds hi
      obtain ⟨a, vs, e1, e2, e3, _⟩ := r.l1 hi
      refine ⟨_, e1, st_slot e2, h.se H0 F0 F H ρ σ _ _ r q fun v d F2 H2 s hv hq => ?_⟩
      have r2 := r.step s
      obtain ⟨a', vs', e1', e2', e3', k⟩ := r2.l1 hi
      cases e1.symm.trans e1'
      refine ⟨a, vs', v, rfl, rfl, e2', by rw [e3'.len]; exact sz_lt hq.1, g.nx F2 _ _ _ (k _ _ (e3'.append (.one hv))) hq.2⟩
    · exact q.elim⟩
end
end DL

/-! DL F: more changes; dicts -/
namespace DL
open PySem L2
section
variable {X : Cx} {pos : Pos} {e f : Expr} {te tf : TE} {de df : DE}
theorem qs_ins {i : Nat} {x : Str} {p1 p2 p3 : Pos} (h : QE false X e te de) (h2 : QE true X f tf df) (hv : QE false X (.Name x p1) (tVar i) (dVar false i)) (hb : attributeBase (.Name x p1) "insert" X.env (eval (.Name x p1) X.env) = eval (.Name x p1) X.env := by rfl)
    (hfew : ((backTo p3 (starEach [e, f] X.env)).all (fun x => !x.1) && (backToKw p3 (keywordEach [] X.env)).all (fun x => x.1.isSome)
      && decide (([e, f] : List Expr).length + ([] : List Keyword).length + (if ([] : List Keyword).isEmpty then 0 else 1) < 30)) = true := by rfl)
    (hline : (p2.endLine == p3.line) = true := by rfl) (hs : starEach [e, f] X.env = (false, eval e X.env) :: starEach [f] X.env := by rfl) (hs2 : starEach [f] X.env = (false, eval f X.env) :: starEach [] X.env := by rfl)
    (hpl : (backTo p3 (starEach [f] X.env)).any (·.1) = false := by rfl)
    (hsw : swapsWith (.Call (.Attribute (.Name x p1) "insert" p2) [e, f] [] p3) none pos.line X.env = pure false := by rfl) :
    QSt X (.Expr (.Call (.Attribute (.Name x p1) "insert" p2) [e, f] [] p3) pos) (tDrop (tBM X.K "list" (fun x vs H Q => ∃ (l : Addr) (xs : List V) (i : Int) (y : V), x = .ref l ∧ vs = [.int i, y] ∧ H l = some (.lst xs) ∧ xs.length < sizeLine ∧ 0 ≤ i ∧ i < 2 ^ 63 ∧
    Q .non (upd H l (.lst (xs.take i.toNat ++ [y] ++ xs.drop i.toNat)))) (tVar i) (tCons te (tCons tf tNil)))) (dIns i de df) :=
  ⟨ps_expr (pe_bm PySem.F.plainAttrs_list PySem.F.slot_list_insert PySem.F.type_list_insert mt_insert hv.pe (pa_cons h.pe (pa_cons h2.pe pa_nil hs2) hs) hb hfew hline hs hpl) hsw, fun H0 F0 F H ρ σ P E r q g => by
    unfold dIns at q
    split at q
    · rename_i ds hi
      obtain ⟨a, vs, e1, e2, e3, _⟩ := r.l1 hi
      refine ⟨_, e1, st_slot e2, h.se H0 F0 F H ρ σ _ _ r q fun v d F2 H2 s hv hq => ?_⟩
      split at hq
      · cases hv
        refine h2.se H0 F0 F2 H2 ρ σ _ _ (r.step s) hq fun v d F3 H3 s3 hv hq => ?_
        have r2 := (r.step s).step s3
        obtain ⟨a', vs', e1', e2', e3', k⟩ := r2.l1 hi
        cases e1.symm.trans e1'
        refine ⟨a, vs', _, v, rfl, rfl, e2', by rw [e3'.len]; exact sz_lt hq.1, hq.2.1, hq.2.2.1, g.nx F3 _ _ _ (k _ _ (((e3'.take _).append (.one hv)).append (e3'.drop _))) hq.2.2.2⟩
      · exact hq.elim
    · exact q.elim⟩
theorem qs_pop {i : Nat} {x : Str} {p1 p2 p3 : Pos} (hv : QE false X (.Name x p1) (tVar i) (dVar false i)) (hb : attributeBase (.Name x p1) "pop" X.env (eval (.Name x p1) X.env) = eval (.Name x p1) X.env := by rfl)
    (hline : (p2.endLine == p3.line) = true := by rfl)
    (hsw : swapsWith (.Call (.Attribute (.Name x p1) "pop" p2) [] [] p3) none pos.line X.env = pure false := by rfl) :
    QSt X (.Expr (.Call (.Attribute (.Name x p1) "pop" p2) [] [] p3) pos) (tDrop (tBM0 X.K "list" rPop (tVar i))) (dPop i) :=
  ⟨ps_expr (pe_bm0 PySem.F.plainAttrs_list PySem.F.slot_list_pop PySem.F.type_list_pop mt_pop hv.pe hb hline) hsw, fun H0 F0 F H ρ σ P E r q g => by
    unfold dPop at q
    split at q
    · rename_i ds hi
      obtain ⟨a, vs, e1, e2, e3, k⟩ := r.l1 hi
      have hl : vs.length - 1 < vs.length := by
        rw [e3.len]
        have := List.length_pos_iff.mpr q.1
        omega
      refine ⟨_, e1, st_slot e2, a, vs, vs[vs.length - 1], rfl, rfl, e2, List.getElem?_eq_getElem hl, g.nx F _ _ _ (k _ _ ?_) q.2⟩
      rw [List.dropLast_eq_take, List.dropLast_eq_take, e3.len]
      exact e3.take _
    · exact q.elim⟩
theorem qs_setI {i : Nat} {x : Str} {p1 p2 : Pos} {o : Expr} {to : TE} {dk : DE} (h : QE true X e te de) (hi : QE false X o to dk) (hv : QE false X (.Name x p1) (tVar i) (dVar false i)) (hs : swapsWithSole [.Subscript (.Name x p1) o p2] e pos.line X.env = pure false := by rfl)
    (hw : swappedStores [.Subscript (.Name x p1) o p2] e X.env = pure none := by rfl) (hg : PG X (.Subscript (.Name x p1) o p2) (gSub (tVar i) to rSetL)) :
    QSt X (.Assign [.Subscript (.Name x p1) o p2] e pos) (tAsg te (gSub (tVar i) to rSetL)) (dSetI i dk de) :=
  ⟨ps_asg h.pe hg hs hw, fun H0 F0 F H ρ σ P E r q g => h.se H0 F0 F H ρ σ _ _ r q fun v d F2 H2 s hv hq => by
    have r2 := r.step s
    split at hq
    · rename_i ds hii
      obtain ⟨a, vs, e1, e2, e3, _⟩ := r2.l1 hii
      refine ⟨_, e1, hi.se H0 F0 F2 H2 ρ σ _ _ r2 hq fun w dw F3 H3 s3 hw hq => ?_⟩
      have r3 := r2.step s3
      obtain ⟨a', vs', e1', e2', e3', k⟩ := r3.l1 hii
      cases e1.symm.trans e1'
      split at hq
      · cases hw
        obtain ⟨n, hn, hq⟩ := hq
        exact ⟨a, vs', _, n, rfl, rfl, e2', by rw [e3'.len]; exact hn, g.nx F3 _ _ _ (k _ _ (RepL.set (hv.up s3.fF) n e3')) hq⟩
      · exact hq.elim
    · exact hq.elim⟩
theorem nth_put_ne : ∀ {ρ : Env} {i j : Nat} {s : Sl}, i ≠ j → nth (put ρ j s) i = nth ρ i
  | [], _, _, _, _ => rfl
  | _ :: _, 0, 0, _, h => (h rfl).elim
  | _ :: _, 0, _ + 1, _, _ => rfl
  | _ :: _, _ + 1, 0, _, _ => rfl
  | _ :: r, i + 1, j + 1, _, h => nth_put_ne (ρ := r) (i := i) (j := j) fun z => h (congrArg (· + 1) z)
/-- xs.append(y), y a list of one's own that is given away -/
theorem qs_appMv {i j : Nat} {x y : Str} {p1 p2 p3 p4 : Pos} (hv : QE false X (.Name x p1) (tVar i) (dVar false i)) (hy : QE false X (.Name y p4) (tVar j) (dVar false j)) (hb : attributeBase (.Name x p1) "append" X.env (eval (.Name x p1) X.env) = eval (.Name x p1) X.env := by rfl)
    (hfew : ((backTo p3 (starEach [.Name y p4] X.env)).all (fun x => !x.1) && (backToKw p3 (keywordEach [] X.env)).all (fun x => x.1.isSome)
      && decide (([.Name y p4] : List Expr).length + ([] : List Keyword).length + (if ([] : List Keyword).isEmpty then 0 else 1) < 30)) = true := by rfl)
    (hline : (p2.endLine == p3.line) = true := by rfl) (hs : starEach [.Name y p4] X.env = (false, eval (.Name y p4) X.env) :: starEach [] X.env := by rfl) (hpl : (backTo p3 (starEach [] X.env)).any (·.1) = false := by rfl)
    (hsw : swapsWith (.Call (.Attribute (.Name x p1) "append" p2) [.Name y p4] [] p3) none pos.line X.env = pure false := by rfl) :
    QSt X (.Expr (.Call (.Attribute (.Name x p1) "append" p2) [.Name y p4] [] p3) pos) (tDrop (tBM X.K "list" rAppend (tVar i) (tCons (tVar j) tNil))) (dAppMv i j) :=
  ⟨ps_expr (pe_bm PySem.F.plainAttrs_list PySem.F.slot_list_append PySem.F.type_list_append mt_append hv.pe (pa_cons hy.pe pa_nil hs) hb hfew hline hs hpl) hsw, fun H0 F0 F H ρ σ P E r q g => by
    unfold dAppMv at q
    split at q
    · rename_i ds hi
      split at q
      · rename_i d hj
        obtain ⟨F2, eF, r2⟩ := r.frz1 j
        obtain ⟨os, h1, _, _⟩ := r2.sl
        obtain ⟨v, o, _, _, f1, f2, _, _⟩ := h1.at j (by rw [hj]; exact Sl.noConfusion)
        rw [hj] at f2
        cases f2 with
        | @fz v _ hr =>
          have hi2 : nth (put ρ j (nth ρ j).frz) i = .l1 ds := by rw [nth_put_ne q.2.1]; exact hi
          obtain ⟨a, vs, e1, e2, e3, k⟩ := r2.l1 hi2
          exact ⟨_, e1, st_slot e2, _, f1, a, vs, v, rfl, rfl, e2, by rw [e3.len]; exact sz_lt q.1, g.nx F2 _ _ _ (k _ _ (e3.append (.one hr))) q.2.2⟩
      · exact q.elim
    · exact q.elim⟩
/-- xs.append([]), xs a list of lists of one's own -/
theorem qs_app2Nil {i : Nat} {x : Str} {p1 p2 p3 p4 : Pos} (hv : QE false X (.Name x p1) (tVar i) (dVar false i)) (hb : attributeBase (.Name x p1) "append" X.env (eval (.Name x p1) X.env) = eval (.Name x p1) X.env := by rfl)
    (hfew : ((backTo p3 (starEach [.List [] p4] X.env)).all (fun x => !x.1) && (backToKw p3 (keywordEach [] X.env)).all (fun x => x.1.isSome)
      && decide (([.List [] p4] : List Expr).length + ([] : List Keyword).length + (if ([] : List Keyword).isEmpty then 0 else 1) < 30)) = true := by rfl)
    (hline : (p2.endLine == p3.line) = true := by rfl) (hs : starEach [.List [] p4] X.env = (false, eval (.List [] p4) X.env) :: starEach [] X.env := by rfl) (hpl : (backTo p3 (starEach [] X.env)).any (·.1) = false := by rfl)
    (hsw : swapsWith (.Call (.Attribute (.Name x p1) "append" p2) [.List [] p4] [] p3) none pos.line X.env = pure false := by rfl) :
    QSt X (.Expr (.Call (.Attribute (.Name x p1) "append" p2) [.List [] p4] [] p3) pos) (tDrop (tBM X.K "list" rAppend (tVar i) (tCons (tLst tNil) tNil))) (dApp2Nil i) :=
  ⟨ps_expr (pe_bm PySem.F.plainAttrs_list PySem.F.slot_list_append PySem.F.type_list_append mt_append hv.pe (pa_cons (pe_lst pa_nil) pa_nil hs) hb hfew hline hs hpl) hsw, fun H0 F0 F H ρ σ P E r q g => by
    unfold dApp2Nil at q
    split at q
    · rename_i dss hi
      obtain ⟨a, as, e1, e2, e3, _, k⟩ := r.l2 hi
      refine ⟨_, e1, st_slot e2, Nat.zero_le _, fun p hp => ?_⟩
      have k' := k p hp
      rw [List.map_append] at k'
      exact ⟨a, _, _, rfl, rfl, by rw [upd_ne (ne_of_none e2 hp)]; exact e2, by rw [List.length_map, e3]; exact sz_lt q.1, g.nx F _ _ _ k' q.2⟩
    · exact q.elim⟩
/-- xs[k].append(e), xs a list of lists of one's own -/
theorem qs_app2 {i : Nat} {x : Str} {o : Expr} {to : TE} {dk : DE} {p1 p2 p3 p5 : Pos} (h : QE true X e te de) (hi : QE false X o to dk) (hv : QE false X (.Name x p1) (tVar i) (dVar false i)) (hpx : PlainIx o)
    (hb : attributeBase (.Subscript (.Name x p1) o p5) "append" X.env (eval (.Subscript (.Name x p1) o p5) X.env) = eval (.Subscript (.Name x p1) o p5) X.env := by rfl)
    (hfew : ((backTo p3 (starEach [e] X.env)).all (fun x => !x.1) && (backToKw p3 (keywordEach [] X.env)).all (fun x => x.1.isSome)
      && decide (([e] : List Expr).length + ([] : List Keyword).length + (if ([] : List Keyword).isEmpty then 0 else 1) < 30)) = true := by rfl)
    (hline : (p2.endLine == p3.line) = true := by rfl) (hs : starEach [e] X.env = (false, eval e X.env) :: starEach [] X.env := by rfl) (hpl : (backTo p3 (starEach [] X.env)).any (·.1) = false := by rfl)
    (hsw : swapsWith (.Call (.Attribute (.Subscript (.Name x p1) o p5) "append" p2) [e] [] p3) none pos.line X.env = pure false := by rfl) :
    QSt X (.Expr (.Call (.Attribute (.Subscript (.Name x p1) o p5) "append" p2) [e] [] p3) pos) (tDrop (tBM X.K "list" rAppend (tOp (rIx X.K) (tVar i) to) (tCons te tNil))) (dApp2 i dk de) :=
  ⟨ps_expr (pe_bm PySem.F.plainAttrs_list PySem.F.slot_list_append PySem.F.type_list_append mt_append (pe_ix ix_seq hv.pe hi.pe hpx) (pa_cons h.pe pa_nil hs) hb hfew hline hs hpl) hsw, fun H0 F0 F H ρ σ P E r q g => by
    unfold dApp2 at q
    split at q
    · rename_i dss hii
      obtain ⟨a, as, e1, e2, e3, _, _⟩ := r.l2 hii
      refine ⟨_, e1, hi.se H0 F0 F H ρ σ _ _ r q fun v d F2 H2 s hv hq => ?_⟩
      have r2 := r.step s
      obtain ⟨a', as', e1', e2', e3', k2, _⟩ := r2.l2 hii
      cases e1.symm.trans e1'
      split at hq
      · cases hv
        obtain ⟨n, ds, hn, hds, hq⟩ := hq
        obtain ⟨b, vs, b1, b2, b3, _⟩ := k2 n ds hds
        refine .inl ⟨a, _, _, .ref b, rfl, rfl, .inl (.inl e2'), ?_, st_slot b2, h.se H0 F0 F2 H2 ρ σ _ _ r2 hq fun w dw F3 H3 s3 hw hq => ?_⟩
        · unfold atI
          rw [List.length_map, e3', hn]
          show (as'.map V.ref)[n]? = _
          rw [List.getElem?_map, b1]
          rfl
        · have r3 := r2.step s3
          obtain ⟨a'', as'', e1'', e2'', e3'', k3, _⟩ := r3.l2 hii
          cases e1.symm.trans e1''
          have ea : as''.map V.ref = as'.map V.ref := by
            have := s3.hH _ _ e2'
            rw [e2''] at this
            exact (HO.lst.inj (Option.some.inj this))
          obtain ⟨b', vs', b1', b2', b3', k4⟩ := k3 n ds hds
          have eb : b' = b := by
            have z : (as''.map V.ref)[n]? = (as'.map V.ref)[n]? := by rw [ea]
            rw [List.getElem?_map, List.getElem?_map, b1, b1'] at z
            simpa using z
          subst eb
          exact ⟨b', vs', w, rfl, rfl, b2', by rw [b3'.len]; exact sz_lt hq.1, g.nx F3 _ _ _ (k4 _ _ (b3'.append (.one hw))) hq.2⟩
      · exact hq.elim
    · exact q.elim⟩
end
/-! ### dicts with whole numbers as keys -/
def lookI {α : Type} (m : List (Int × α)) (k : Int) : Option α := (m.find? fun p => decide (p.1 = k)).map (·.2)
def putI {α : Type} (m : List (Int × α)) (k : Int) (d : α) : List (Int × α) :=
  if (m.any fun p => decide (p.1 = k)) = true then m.map (fun p => if p.1 = k then (p.1, d) else p) else m ++ [(k, d)]
theorem inl_dec (a b : Int) : decide ((Sum.inl a : Key) = Sum.inl b) = decide (a = b) := by
  by_cases h : a = b
  · subst h; simp
  · rw [decide_eq_false h, decide_eq_false (fun z => h (Sum.inl.inj z))]
section
variable {K : PySem.W.Frag} {H F : Hp}
theorem RepD.len : ∀ {kvs : List (Key × V)} {m : List (Int × D)}, RepD K H kvs m → kvs.length = m.length
  | _, [], h => by cases h; rfl
  | _, _ :: _, h => by
    cases h with
    | cons _ h2 => simp only [List.length_cons, RepD.len h2]
theorem RepD.look : ∀ {m : List (Int × D)} {kvs : List (Key × V)} (k : Int), RepD K H kvs m → (lookI m k = none ∧ valV kvs (.inl k : Key) = none) ∨ ∃ d v, lookI m k = some d ∧ valV kvs (.inl k : Key) = some v ∧ Rep K H v d
  | [], _, k, h => by cases h; exact .inl ⟨rfl, rfl⟩
  | (k0, d) :: m, _, k, h => by
    cases h with
    | @cons _ v kvs _ _ h1 h2 =>
      by_cases e : k0 = k
      · subst e
        refine .inr ⟨d, v, ?_, ?_, h1⟩
        · simp [lookI]
        · simp [valV]
      · have e1 : lookI ((k0, d) :: m) k = lookI m k := by simp [lookI, List.find?_cons, e]
        have e2 : valV ((Sum.inl k0, v) :: kvs) (.inl k : Key) = valV kvs (.inl k) := by simp [valV, List.find?_cons, e]
        rw [e1, e2]
        exact RepD.look k h2
theorem RepD.any {m : List (Int × D)} {kvs : List (Key × V)} (k : Int) (h : RepD K H kvs m) : (kvs.any fun p => decide (p.1 = (.inl k : Key))) = m.any fun p => decide (p.1 = k) := by
  induction m generalizing kvs with
  | nil => cases h; rfl
  | cons p m ih =>
    cases h with
    | cons h1 h2 => rw [List.any_cons, List.any_cons, ih h2, inl_dec]
theorem RepD.append : ∀ {m n : List (Int × D)} {kvs kus : List (Key × V)}, RepD K H kvs m → RepD K H kus n → RepD K H (kvs ++ kus) (m ++ n)
  | [], _, _, _, h, g => by cases h; exact g
  | _ :: _, _, _, _, h, g => by
    cases h with
    | cons h1 h2 => exact .cons h1 (RepD.append h2 g)
theorem RepD.mapPut {k : Int} {v : V} {d : D} (hv : Rep K H v d) : ∀ {m : List (Int × D)} {kvs : List (Key × V)}, RepD K H kvs m → RepD K H (kvs.map fun kv => if kv.1 = (.inl k : Key) then (kv.1, v) else kv) (m.map fun p => if p.1 = k then (p.1, d) else p)
  | [], _, h => by cases h; exact .nil
  | (k0, d0) :: m, _, h => by
    cases h with
    | @cons _ v0 kvs _ _ h1 h2 =>
      simp only [List.map_cons]
      by_cases e : k0 = k
      · subst e
        rw [if_pos rfl, if_pos rfl]
        exact .cons hv (RepD.mapPut hv h2)
      · rw [if_neg (fun z => e (Sum.inl.inj z)), if_neg e]
        exact .cons h1 (RepD.mapPut hv h2)
theorem RepD.put {m : List (Int × D)} {kvs : List (Key × V)} {v : V} {d : D} (k : Int) (h : RepD K H kvs m) (hv : Rep K H v d) : RepD K H (putK kvs (.inl k : Key) v) (putI m k d) := by
  unfold putK putI
  rw [h.any k]
  split
  · exact h.mapPut hv
  · exact h.append (.cons hv .nil)
end
def Sl.dic : Bool → Sl → (List (Int × D) → Prop) → Prop
  | _, .fz (.dct m), Q => Q m
  | _, .dk m, Q => Q m
  | false, .dl m, Q => Q (m.map fun p => (p.1, D.lst p.2))
  | _, _, _ => False
def dGet (b : Bool) (i : Nat) (dk : DE) : DE := fun ρ Q => Sl.dic b (nth ρ i) fun m => dk ρ fun x => match x with | .int k => ∃ d, lookI m k = some d ∧ Q d | _ => False
def dInD (neg : Bool) (dk : DE) (i : Nat) : DT := fun ρ Q => dk ρ fun x => match x with | .int k => Sl.dic false (nth ρ i) fun m => Q (xor neg (lookI m k).isSome) | _ => False
def dPut (i : Nat) (dk de : DE) : DS := fun P ρ => de ρ fun d => match nth ρ i with
  | .dk m => dk ρ fun x => match x with
    | .int k => m.length < 1000000 ∧ P.nx (put ρ i (.dk (putI m k d)))
    | _ => False
  | _ => False
def dPutNil (i : Nat) (dk : DE) : DS := fun P ρ => match nth ρ i with
  | .dl m => dk ρ fun x => match x with
    | .int k => m.length < 1000000 ∧ lookI m k = none ∧ P.nx (put ρ i (.dl (m ++ [(k, [])])))
    | _ => False
  | _ => False
def dAppD (i : Nat) (dk de : DE) : DS := fun P ρ => match nth ρ i with
  | .dl m => dk ρ fun x => match x with
    | .int k => ∃ ds, lookI m k = some ds ∧ de ρ fun d => ds.length < 1000000 ∧ P.nx (put ρ i (.dl (putI m k (ds ++ [d]))))
    | _ => False
  | _ => False
def dNewK (i : Nat) : DS := fun P ρ => P.nx (put ρ i (.dk []))
def dNewL (i : Nat) : DS := fun P ρ => P.nx (put ρ i (.dl []))
def dNew2 (i : Nat) : DS := fun P ρ => P.nx (put ρ i (.l2 []))
section
variable {K : PySem.W.Frag} {F H H0 F0 : Hp} {s : Sl} {v : Option V} {o : List Addr} {b : Bool} {ρ : Env} {σ : St}
theorem slot_dic {Q : List (Int × D) → Prop} (e : Ex F H) (h : SlotOk K F H s v o) (q : Sl.dic b s Q) : ∃ a kvs m, v = some (.ref a) ∧ H a = some (.dK kvs) ∧ RepD K (pick b F H) kvs m ∧ Q m := by
  cases h with
  | un => cases b <;> exact q.elim
  | fz h =>
    cases h with
    | dct h1 h2 => exact ⟨_, _, _, rfl, e _ _ h1, h2.up (pick_of e), by cases b <;> exact q⟩
    | _ => cases b <;> exact q.elim
  | l1 h1 h2 => cases b <;> exact q.elim
  | l2 h1 h2 => cases b <;> exact q.elim
  | dk h1 h2 => exact ⟨_, _, _, rfl, h1, h2.up (pick_of e), by cases b <;> exact q⟩
  | dl h1 h2 =>
    cases b with
    | true => exact q.elim
    | false => exact ⟨_, _, _, rfl, h1, h2.rep e, q⟩
  | ob h => cases b <;> exact q.elim
theorem dic_ne {Q : List (Int × D) → Prop} (q : Sl.dic b s Q) : s ≠ .un := by
  intro e
  subst e
  cases b <;> exact q.elim
theorem Rel.dic (r : Rel K H0 F0 F H ρ σ) {i : Nat} {Q : List (Int × D) → Prop} (q : Sl.dic b (nth ρ i) Q) : ∃ a kvs m, σ[i]? = some (some (.ref a)) ∧ H a = some (.dK kvs) ∧ RepD K (pick b F H) kvs m ∧ Q m := by
  obtain ⟨os, h1, _, _⟩ := r.sl
  obtain ⟨v, o, _, _, e1, e2, _, _⟩ := h1.at i (dic_ne q)
  obtain ⟨a, kvs, m, rfl, h, h2, hq⟩ := slot_dic r.fh e2 q
  exact ⟨a, kvs, m, e1, h, h2, hq⟩
end
section
variable {X : Cx} {pos : Pos} {e f : Expr} {te tf : TE} {de df : DE} {b : Bool}
theorem qe_get {i : Nat} {x : Str} {p1 : Pos} (hu : X.A.units + 1 < cLine) (hv : QE false X (.Name x p1) (tVar i) (dVar false i)) (h : QE false X e te de) (hs : NoSl e) : QE b X (.Subscript (.Name x p1) e pos) (tDGet (tVar i) te) (dGet b i de) := ⟨pe_dget hu hv.pe h.pe hs, fun H0 F0 F H ρ σ Q R r q k => by
  obtain ⟨a, kvs, m, e1, e2, e3, q⟩ := r.dic q
  refine ⟨_, e1, h.se H0 F0 F H ρ σ _ _ r q fun v d F2 H2 s hv hq => ?_⟩
  split at hq
  · cases hv
    obtain ⟨d, hd, hq⟩ := hq
    rcases e3.look _ with ⟨z, _⟩ | ⟨d', w, z1, z2, z3⟩
    · rw [z] at hd; cases hd
    · obtain rfl := Option.some.inj (z1.symm.trans hd)
      refine ⟨a, w, rfl, .inl ⟨kvs, .inl _, .inl (s.hH _ _ e2), rfl, z2.symm⟩, k w _ F2 H2 s (z3.stp s) hq⟩
  · exact hq.elim⟩
theorem qt_in {i : Nat} {x : Str} {p1 : Pos} (hu : X.A.units + 1 < cLine) (h : QE false X e te de) (hv : QE false X (.Name x p1) (tVar i) (dVar false i)) (h1 : behindInMarks .In (.Name x p1) = false := by rfl) : QT X (.Compare e [.In] [.Name x p1] pos) (tB (tDIn te (tVar i))) (dInD false de i) :=
  ⟨pt_cmp (pc_din hu h.pe hv.pe) h1, fun H0 F0 F H ρ σ Q R r q k => h.se H0 F0 F H ρ σ _ _ r q fun v d F2 H2 s hv hq => by
  split at hq
  · cases hv
    obtain ⟨a, kvs, m, e1, e2, e3, q⟩ := (r.step s).dic hq
    refine ⟨_, e1, a, _, rfl, DGet.k (k := .inl _) e2, _, rfl, ?_⟩
    rcases e3.look _ with ⟨z, z2⟩ | ⟨d', w, z1, z2, z3⟩
    · rw [z] at q; rw [z2]; exact k _ F2 H2 s q
    · rw [z1] at q; rw [z2]; exact k _ F2 H2 s q
  · exact hq.elim⟩
theorem qt_nin {i : Nat} {x : Str} {p1 : Pos} (hu : X.A.units + 1 < cLine) (h : QE false X e te de) (hv : QE false X (.Name x p1) (tVar i) (dVar false i)) (h1 : behindInMarks .NotIn (.Name x p1) = false := by rfl) : QT X (.Compare e [.NotIn] [.Name x p1] pos) (tB (tDNotIn te (tVar i))) (dInD true de i) :=
  ⟨pt_cmp (pc_dnotin hu h.pe hv.pe) h1, fun H0 F0 F H ρ σ Q R r q k => h.se H0 F0 F H ρ σ _ _ r q fun v d F2 H2 s hv hq => by
  split at hq
  · cases hv
    obtain ⟨a, kvs, m, e1, e2, e3, q⟩ := (r.step s).dic hq
    refine ⟨_, e1, a, _, rfl, DGet.k (k := .inl _) e2, _, rfl, ?_⟩
    rcases e3.look _ with ⟨z, z2⟩ | ⟨d', w, z1, z2, z3⟩
    · rw [z] at q; rw [z2]; exact k _ F2 H2 s q
    · rw [z1] at q; rw [z2]; exact k _ F2 H2 s q
  · exact hq.elim⟩
theorem qs_put {i : Nat} {x : Str} {p1 p2 : Pos} {o : Expr} {to : TE} {dk : DE} (hu : X.A.units + 1 < cLine) (h : QE true X e te de) (hi : QE false X o to dk) (hv : QE false X (.Name x p1) (tVar i) (dVar false i)) (hs : swapsWith e (some (.Subscript (.Name x p1) o p2)) pos.line X.env = pure false := by rfl) :
    QSt X (.Assign [.Subscript (.Name x p1) o p2] e pos) (sDPut (tVar i) to te) (dPut i dk de) := ⟨ps_dput hu hv.pe hi.pe h.pe hs, fun H0 F0 F H ρ σ P E r q g => h.se H0 F0 F H ρ σ _ _ r q fun v d F2 H2 s hv hq => by
    have r2 := r.step s
    split at hq
    · rename_i m hii
      obtain ⟨a, kvs, e1, e2, e3, _⟩ := r2.dk hii
      refine ⟨_, e1, hi.se H0 F0 F2 H2 ρ σ _ _ r2 hq fun w dw F3 H3 s3 hw hq => ?_⟩
      have r3 := r2.step s3
      obtain ⟨a', kvs', e1', e2', e3', k⟩ := r3.dk hii
      cases e1.symm.trans e1'
      split at hq
      · cases hw
        exact ⟨a, _, rfl, DPut.k (k := .inl _) e2' (by rw [e3'.len]; exact sz_lt hq.1), g.nx F3 _ _ _ (k _ _ (e3'.put _ (hv.up s3.fF))) hq.2⟩
      · exact hq.elim
    · exact hq.elim⟩
theorem qs_newK {i : Nat} {x : Str} {p1 p2 : Pos} (hN : X.N.Nodup) (hi : X.N[i]? = some x) (hx : Loc X.env.scope x) (hs : swapsWith (.Dict [] [] p2) (some (.Name x p1)) pos.line X.env = pure false := by rfl)
    (hf : X.fn x = true ∨ X.env.scope.names.lookup x = some .local := by first | exact .inl rfl | exact .inr rfl | assumption) : QSt X (.Assign [.Name x p1] (.Dict [] [] p2) pos) (tAsg tDNewK (gName i)) (dNewK i) := ⟨ps_set hN hi hx pe_dnewK hs hf, fun H0 F0 F H ρ σ P E r q g p hp =>
  g.nx F _ _ _ (r.setOwn (Stp.grow r.fh (Ex.new hp)) i (.dk upd_same .nil) (by simp) (fun a ha => by simp only [List.mem_singleton] at ha; subst ha; exact ⟨r.fh.back hp, hp⟩)) q⟩
theorem qs_newL {i : Nat} {x : Str} {p1 p2 : Pos} (hN : X.N.Nodup) (hi : X.N[i]? = some x) (hx : Loc X.env.scope x) (hs : swapsWith (.Dict [] [] p2) (some (.Name x p1)) pos.line X.env = pure false := by rfl)
    (hf : X.fn x = true ∨ X.env.scope.names.lookup x = some .local := by first | exact .inl rfl | exact .inr rfl | assumption) : QSt X (.Assign [.Name x p1] (.Dict [] [] p2) pos) (tAsg tDNewK (gName i)) (dNewL i) := ⟨ps_set hN hi hx pe_dnewK hs hf, fun H0 F0 F H ρ σ P E r q g p hp =>
  g.nx F _ _ _ (r.setOwn (Stp.grow r.fh (Ex.new hp)) i (.dl upd_same .nil) (by simp) (fun a ha => by simp only [List.mem_singleton] at ha; subst ha; exact ⟨r.fh.back hp, hp⟩)) q⟩
theorem qs_new2 {i : Nat} {x : Str} {p1 p2 : Pos} (hN : X.N.Nodup) (hi : X.N[i]? = some x) (hx : Loc X.env.scope x) (hs : swapsWith (.List [] p2) (some (.Name x p1)) pos.line X.env = pure false := by rfl)
    (hf : X.fn x = true ∨ X.env.scope.names.lookup x = some .local := by first | exact .inl rfl | exact .inr rfl | assumption) : QSt X (.Assign [.Name x p1] (.List [] p2) pos) (tAsg (tLst tNil) (gName i)) (dNew2 i) := ⟨ps_set hN hi hx (pe_lst pa_nil) hs hf, fun H0 F0 F H ρ σ P E r q g => ⟨Nat.zero_le _, fun p hp =>
  g.nx F _ _ _ (r.setOwn (Stp.grow r.fh (Ex.new hp)) i (.l2 (as := []) upd_same .nil) (by simp) (fun a ha => by simp only [List.mem_singleton] at ha; subst ha; exact ⟨r.fh.back hp, hp⟩)) q⟩⟩
end
end DL

/-! DL G: comprehensions, built-in calls, calls of defs -/
namespace DL
open PySem L2

/-! ### comprehensions -/
def dLcG (j : Nat) (dt : DT) (de : DE) (ρ : Env) (Q : List D → Prop) : List D → List D → Prop
  | [], acc => Q acc
  | x :: xs, acc => dt (put ρ j (.fz x)) fun c => (c = true → de (put ρ j (.fz x)) fun d => dLcG j dt de ρ Q xs (acc ++ [d])) ∧ (c = false → dLcG j dt de ρ Q xs acc)
def dLc (dl : DA) (j : Nat) (dt : DT) (de : DE) : DA := fun ρ Q => dl ρ fun ds => ds.length ≤ 1000000 ∧ dLcG j dt de ρ Q ds []
def dYes : DT := fun _ Q => Q true
/-- what holds between two turns of a comprehension: D the new list -/
def LcW (K : PySem.W.Frag) (H0 F0 F H : Hp) (ρ : Env) (σ : St) (D : Addr) (G : List DL.D → Prop) (k : Nat) (H' : Hp) : Prop := ∃ F' os vs acc, Slots K F' H' ρ σ os ∧ os.Nodup ∧ (∀ a ∈ os, F' a = none ∧ H0 a = none) ∧ D ∉ os ∧ Ex F0 F' ∧ (∀ a, F0 a = none → F' a ≠ none → H0 a = none) ∧
  Stp F H F' H' ∧ H D = none ∧ F' D = none ∧ H' D = some (.lst vs) ∧ RepL K F' vs acc ∧ acc.length ≤ k ∧ G acc
section
variable {K : PySem.W.Frag} {H0 F0 F H : Hp} {ρ : Env} {σ : St} {D : Addr} {te : TE} {de : DE} {tt : TT} {dt : DT} {j : Nat}
theorem set_none_set (σ : St) (j : Nat) (v : Option V) : (wipe σ [j]).set j v = σ.set j v := by
  show (σ.set j none).set j v = σ.set j v
  rw [List.set_set]
theorem lcw_turn (h0 : Ex H0 H) {G : Nat → List DL.D → Prop} {k : Nat} {H' : Hp} {x : DL.D} {v : V} (ht : ST K tt dt) (he : SE true K te de) (w : LcW K H0 F0 F H ρ σ D (G k) k H')
    (hx : ∀ F', Ex F F' → Rep K F' v x) (hk : k < 1000000) (hg : ∀ acc, G k acc → dt (put ρ j (.fz x)) fun c => (c = true → de (put ρ j (.fz x)) fun d => G (k + 1) (acc ++ [d])) ∧ (c = false → G (k + 1) acc)) :
    wipe ((wipe σ [j]).set j (some v)) [j] = wipe σ [j] ∧ tt ((wipe σ [j]).set j (some v)) H' fun b H3 => if b = true then te ((wipe σ [j]).set j (some v)) H3 fun y H4 => ∃ acc, H4 D = some (.lst acc) ∧ acc.length < sizeLine ∧ LcW K H0 F0 F H ρ σ D (G (k + 1)) (k + 1) (upd H4 D (.lst (acc ++ [y])))
      else LcW K H0 F0 F H ρ σ D (G (k + 1)) (k + 1) H3 := by
  obtain ⟨F', os, vs, acc, s1, s2, s3, s4, f0, nw, st, hD, fD, hD', hv, hl, g⟩ := w
  rw [set_none_set]
  refine ⟨?_, ?_⟩
  · show (σ.set j (some v)).set j none = σ.set j none
    rw [List.set_set]
  have fh := st.fh
  have h0' : Ex H0 H' := h0.trans st.hH
  have r : Rel K H0 F0 F' H' ρ σ := ⟨⟨os, s1, s2, s3⟩, f0, fh, h0', nw⟩
  have rx := r.putFz j (hx F' st.fF)
  have keep : ∀ F2 H2, Stp F' H' F2 H2 → Slots K F2 H2 ρ σ os ∧ (∀ a ∈ os, F2 a = none ∧ H0 a = none) ∧ Ex F0 F2 ∧ (∀ a, F0 a = none → F2 a ≠ none → H0 a = none) ∧ F2 D = none ∧ H2 D = some (.lst vs) := fun F2 H2 s => by
    refine ⟨s1.keep s.fF (fun a _ x e => s.hH a x e), fun a ha => ⟨?_, (s3 a ha).2⟩, f0.trans s.fF, fun a e n => ?_, ?_, s.hH _ _ hD'⟩
    · cases q : F2 a with
      | none => rfl
      | some o => exact (s1.dom a ha (s.nw a (s3 a ha).1 (by rw [q]; simp))).elim
    · by_cases q : F' a = none
      · exact h0'.back (s.nw a q n)
      · exact nw a e q
    · cases q : F2 D with
      | none => rfl
      | some o =>
        have := s.nw D fD (by rw [q]; simp)
        rw [this] at hD'
        cases hD'
  refine ht H0 F0 F' H' _ _ _ _ rx (hg acc g) fun c F2 H2 s hq => ?_
  cases c with
  | false =>
    rw [if_neg Bool.false_ne_true]
    obtain ⟨k1, k2, k3, k4, k5, k6⟩ := keep F2 H2 s
    exact ⟨F2, os, vs, acc, k1, s2, k2, s4, k3, k4, st.trans s, hD, k5, k6, hv.up s.fF, Nat.le_succ_of_le hl, hq.2 rfl⟩
  | true =>
    rw [if_pos rfl]
    refine he H0 F0 F2 H2 _ _ _ _ (rx.step s) (hq.1 rfl) fun y d F3 H3 s' hy hq => ?_
    have ss := s.trans s'
    obtain ⟨k1, k2, k3, k4, k5, k6⟩ := keep F3 H3 ss
    refine ⟨vs, k6, by rw [hv.len]; exact sz_lt (Nat.lt_of_le_of_lt hl hk), F3, os, vs ++ [y], acc ++ [d], k1.keep (Ex.refl _) (fun a ha x e => ?_), s2, k2, s4, k3, k4, ?_, hD, k5, upd_same, (hv.up ss.fF).append (.one hy), by simp; exact hl, hq⟩
    · rw [upd_ne (ne_mem ha s4)]
      exact e
    · have t := st.trans ss
      exact ⟨t.fF, Ex.mut t.hH hD, Ex.mut t.fh k5, t.nw⟩
theorem lcw_start (r : Rel K H0 F0 F H ρ σ) (hD : H D = none) {G : List DL.D → Prop} (g : G []) : LcW K H0 F0 F H ρ σ D G 0 (upd H D (.lst [])) := by
  obtain ⟨os, s1, s2, s3⟩ := r.sl
  refine ⟨F, os, [], [], s1.keep (Ex.refl F) (fun a ha x e => ?_), s2, s3, fun z => s1.dom D z hD, r.f0, r.nw, Stp.grow r.fh (Ex.new hD), hD, r.fh.back hD, upd_same, .nil, Nat.zero_le _, g⟩
  rw [upd_ne (ne_of_none e hD)]
  exact e
/-- a clause's tests -/
structure QTs (X : Cx) (ifs : List Expr) (tt : TT) (dt : DT) : Prop where
  pt : PTs X ifs tt
  st : ST X.K tt dt
theorem qts_nil {X : Cx} : QTs X [] tYes dYes := ⟨pts_nil, fun _ _ F H _ _ _ _ r q k => k true F H (Stp.refl r.fh) q⟩
theorem qts_one {X : Cx} {c : Expr} (h : QT X c tt dt) : QTs X [c] tt dt := ⟨pts_one h.pt, h.st⟩
theorem sl_lcL {tl : TE} {dl : DA} (hl : SF K tl dl) (ht : ST K tt dt) (he : SE true K te de) : SL K (tLc (iList K tl) (gName j) tt te [j]) (dLc dl j dt de) := fun H0 F0 F1 H1 ρ σ Q R r1 q k =>
  hl H0 F0 F1 H1 ρ σ _ _ r1 q fun a vs ds F H s hs hv q => ⟨a, rfl, ⟨vs, s.fh.seq hs⟩, fun D hD => by
    have r := r1.step s
    refine lc_list (K := K) (a := a) (xs := vs) (fun k H' => LcW K H0 F0 F H ρ σ D (fun acc => dLcG j dt de ρ Q (ds.drop k) acc) k H') (lcw_start r hD q.2) (fun k H' _ w => ?_) (fun k x H' hx w => ?_) (fun H' w => ?_)
    · obtain ⟨F', os, vs, acc, s1, s2, s3, s4, f0, nw, st, _⟩ := w
      exact st.fh.seq (st.fF.seq hs)
    · have hk : k < ds.length := by
        have := (List.getElem?_eq_some_iff.mp hx).1
        rw [hv.len] at this
        exact this
      obtain ⟨v, e1, e2⟩ := hv.get (List.getElem?_eq_getElem hk)
      obtain rfl : v = x := Option.some.inj (e1.symm.trans hx)
      refine lcw_turn (G := fun k acc => dLcG j dt de ρ Q (ds.drop k) acc) (x := ds[k]) r.h0 ht he w (fun F' e => e2.up e) (Nat.lt_of_lt_of_le hk q.1) fun acc g => ?_
      rw [List.drop_eq_getElem_cons hk] at g
      exact g
    · obtain ⟨F', os, ws, acc, s1, s2, s3, s4, f0, nw, st, hD0, fD, hD', hv', hl, g⟩ := w
      rw [hv.len, List.drop_length] at g
      exact k D ws acc F' H' (s.trans st) (s.hH.back hD) fD hD' hv' g⟩
theorem sl_lcR {ta : TA} {lo : Int} {F H : Hp} {n : Nat} {ds : List DL.D} (ht : ST K tt dt) (he : SE true K te de) (r : Rel K H0 F0 F H ρ σ) {Q : List DL.D → Prop} (hn : n = ds.length) (hd : ∀ k (h : k < ds.length), ds[k] = .int (lo + (k : Nat))) (q : ds.length ≤ 1000000 ∧ dLcG j dt de ρ Q ds []) {R : VK}
    (k : ∀ p vs es F2 H2, Stp F H F2 H2 → H p = none → F2 p = none → H2 p = some (.lst vs) → RepL K F2 vs es → Q es → R (.ref p) H2) (D : Addr) (hD : H D = none) :
    ∃ W : Nat → Nat → Hp → Prop, (∃ m, W 0 m (upd H D (.lst []))) ∧ ∀ i m H, W i m H →
      ((Itr lo n).stop i H ∧ R (.ref D) H) ∨ ((Itr lo n).go i H ∧ ∃ Nx : Hp → Prop, (∀ H', Nx H' → ∃ m', m' < m ∧ W (i + 1) m' H') ∧ ∀ x H', (Itr lo n).yld i H x H' → gName j x (wipe σ [j]) H' fun σ2 H2 => wipe σ2 [j] = wipe σ [j] ∧ tt σ2 H2 fun b H3 =>
        if b = true then te σ2 H3 fun y H4 => ∃ acc, H4 D = some (.lst acc) ∧ acc.length < sizeLine ∧ Nx (upd H4 D (.lst (acc ++ [y]))) else Nx H3) := by
  subst hn
  refine lc_range (fun k H' => LcW K H0 F0 F H ρ σ D (fun acc => dLcG j dt de ρ Q (ds.drop k) acc) k H') (lcw_start r hD q.2) (fun k H' hk w => ?_) (fun H' w => ?_)
  · refine lcw_turn (G := fun k acc => dLcG j dt de ρ Q (ds.drop k) acc) (x := ds[k]) r.h0 ht he w (fun F' e => by rw [hd k hk]; exact .int _) (Nat.lt_of_lt_of_le hk q.1) fun acc g => ?_
    rw [List.drop_eq_getElem_cons hk] at g
    exact g
  · obtain ⟨F', os, ws, acc, s1, s2, s3, s4, f0, nw, st, hD0, fD, hD', hv', hl, g⟩ := w
    rw [List.drop_length] at g
    exact k D ws acc F' H' st hD fD hD' hv' g
theorem sl_lcR1 {ta : TA} {da : DA} (ha : SA false K ta da) (ht : ST K tt dt) (he : SE true K te de) : SL K (tLc (iRng1 ta) (gName j) tt te [j]) (dLc (dRng1 da) j dt de) := fun H0 F0 F1 H1 ρ σ Q R r1 q k =>
  ha H0 F0 F1 H1 ρ σ _ _ r1 q fun vs ds F H s hv q => by
    split at q
    · rename_i j2
      cases hv with
      | cons h1 h2 =>
        cases h1
        cases h2
        refine ⟨_, rfl, q.1.1, q.1.2, fun D hD => ?_⟩
        exact sl_lcR (ta := ta) (lo := 0) ht he (r1.step s) (by rw [rangeD_len, Int.sub_zero]) (fun k h => by rw [rangeD_len] at h; exact rangeD_get h) q.2 (fun p vs es F2 H2 s2 hp => k p vs es F2 H2 (s.trans s2) (s.hH.back hp)) D hD
    · exact q.elim
theorem sl_lcR2 {ta : TA} {da : DA} (ha : SA false K ta da) (ht : ST K tt dt) (he : SE true K te de) : SL K (tLc (iRng2 ta) (gName j) tt te [j]) (dLc (dRng2 da) j dt de) := fun H0 F0 F1 H1 ρ σ Q R r1 q k =>
  ha H0 F0 F1 H1 ρ σ _ _ r1 q fun vs ds F H s hv q => by
    split at q
    · cases hv with
      | cons h1 h2 =>
        cases h1
        cases h2 with
        | cons h3 h4 =>
          cases h3
          cases h4
          refine ⟨_, _, rfl, q.1, fun D hD => ?_⟩
          exact sl_lcR (ta := ta) ht he (r1.step s) (by rw [rangeD_len]) (fun k h => by rw [rangeD_len] at h; exact rangeD_get h) q.2 (fun p vs es F2 H2 s2 hp => k p vs es F2 H2 (s.trans s2) (s.hH.back hp)) D hD
    · exact q.elim
end
/-- what a comprehension's parts are -/
structure QC (X : Cx) (iter : Expr) (x : Str) (px : Pos) (ifs : List Expr) (elt : Expr) (scope : Scope) (j : Nat) (wi : TI) (tt : TT) (te : TE) (dl : DA) : Prop where
  hc : X.calm = true
  hN : X.N.Nodup
  pi : PI X (.Name x px) iter wi
  ok : BlkOk X.N X.env.scope scope [(x, j)]
  pg : ∀ (s : Shared) (H : Hp) (C : Addr) (cl : List (Str × Addr)) (fp : List Addr), PG (X.blk s H scope (compEnvC scope cl C X.env) fp) (.Name x px) (gName j)
  pt : ∀ (s : Shared) (H : Hp) (C : Addr) (cl : List (Str × Addr)) (fp : List Addr), PTs (X.blk s H scope (compEnvC scope cl C X.env) fp) ifs tt
  pe : ∀ (s : Shared) (H : Hp) (C : Addr) (cl : List (Str × Addr)) (fp : List Addr), PE (X.blk s H scope (compEnvC scope cl C X.env) fp) elt te
  fs : ∀ x, foldedSetIterable iter X.env x = pure x
  sl : SL X.K (tLc wi (gName j) tt te [j]) dl
section
variable {X : Cx} {iter elt : Expr} {x : Str} {px pos : Pos} {ifs : List Expr} {scope : Scope} {j : Nat} {wi : TI} {tt : TT} {te tl : TE} {dl : DA} {dt : DT} {de : DE}
theorem qc_L (hc : X.calm = true) (hN : X.N.Nodup) (h : QF X iter tl dl) (ok : BlkOk X.N X.env.scope scope [(x, j)])
    (hg : ∀ (s : Shared) (H : Hp) (C : Addr) (cl : List (Str × Addr)) (fp : List Addr), PG (X.blk s H scope (compEnvC scope cl C X.env) fp) (.Name x px) (gName j))
    (ht : ∀ (s : Shared) (H : Hp) (C : Addr) (cl : List (Str × Addr)) (fp : List Addr), QTs (X.blk s H scope (compEnvC scope cl C X.env) fp) ifs tt dt)
    (he : ∀ (s : Shared) (H : Hp) (C : Addr) (cl : List (Str × Addr)) (fp : List Addr), QE true (X.blk s H scope (compEnvC scope cl C X.env) fp) elt te de)
    (fs : ∀ x, foldedSetIterable iter X.env x = pure x := by intro _; rfl) : QC X iter x px ifs elt scope j (iList X.K tl) tt te (dLc dl j dt de) :=
  ⟨hc, hN, pi_list h.pe, ok, hg, fun s H C cl fp => (ht s H C cl fp).pt, fun s H C cl fp => (he s H C cl fp).pe, fs, sl_lcL h.sf (ht X.s_0 X.H_0 0 [] []).st (he X.s_0 X.H_0 0 [] []).se⟩
theorem qc_R1 {a : Expr} {p p2 : Pos} {ta : TA} {da : DA} (hc : X.calm = true) (hN : X.N.Nodup) (hm : X.mg "range" = none) (h : QA false X [a] ta da) (ok : BlkOk X.N X.env.scope scope [(x, j)])
    (hg : ∀ (s : Shared) (H : Hp) (C : Addr) (cl : List (Str × Addr)) (fp : List Addr), PG (X.blk s H scope (compEnvC scope cl C X.env) fp) (.Name x px) (gName j))
    (ht : ∀ (s : Shared) (H : Hp) (C : Addr) (cl : List (Str × Addr)) (fp : List Addr), QTs (X.blk s H scope (compEnvC scope cl C X.env) fp) ifs tt dt)
    (he : ∀ (s : Shared) (H : Hp) (C : Addr) (cl : List (Str × Addr)) (fp : List Addr), QE true (X.blk s H scope (compEnvC scope cl C X.env) fp) elt te de)
    (hgl : Gl X "range" := by rfl) (hs : starEach [a] X.env = [(false, eval a X.env)] := by rfl)
    (fs : ∀ x, foldedSetIterable (.Call (.Name "range" p) [a] [] p2) X.env x = pure x := by intro _; rfl) : QC X (.Call (.Name "range" p) [a] [] p2) x px ifs elt scope j (iRng1 ta) tt te (dLc (dRng1 da) j dt de) :=
  ⟨hc, hN, pi_range1 hgl hm h.pa hs, ok, hg, fun s H C cl fp => (ht s H C cl fp).pt, fun s H C cl fp => (he s H C cl fp).pe, fs, sl_lcR1 h.sa (ht X.s_0 X.H_0 0 [] []).st (he X.s_0 X.H_0 0 [] []).se⟩
theorem qc_R2 {a b : Expr} {p p2 : Pos} {ta : TA} {da : DA} (hc : X.calm = true) (hN : X.N.Nodup) (hm : X.mg "range" = none) (h : QA false X [a, b] ta da) (ok : BlkOk X.N X.env.scope scope [(x, j)])
    (hg : ∀ (s : Shared) (H : Hp) (C : Addr) (cl : List (Str × Addr)) (fp : List Addr), PG (X.blk s H scope (compEnvC scope cl C X.env) fp) (.Name x px) (gName j))
    (ht : ∀ (s : Shared) (H : Hp) (C : Addr) (cl : List (Str × Addr)) (fp : List Addr), QTs (X.blk s H scope (compEnvC scope cl C X.env) fp) ifs tt dt)
    (he : ∀ (s : Shared) (H : Hp) (C : Addr) (cl : List (Str × Addr)) (fp : List Addr), QE true (X.blk s H scope (compEnvC scope cl C X.env) fp) elt te de)
    (hgl : Gl X "range" := by rfl) (hs : starEach [a, b] X.env = [(false, eval a X.env), (false, eval b X.env)] := by rfl) (hs2 : starEach [b] X.env = [(false, eval b X.env)] := by rfl)
    (fs : ∀ x, foldedSetIterable (.Call (.Name "range" p) [a, b] [] p2) X.env x = pure x := by intro _; rfl) : QC X (.Call (.Name "range" p) [a, b] [] p2) x px ifs elt scope j (iRng2 ta) tt te (dLc (dRng2 da) j dt de) :=
  ⟨hc, hN, pi_range2 hgl hm h.pa hs hs2, ok, hg, fun s H C cl fp => (ht s H C cl fp).pt, fun s H C cl fp => (he s H C cl fp).pe, fs, sl_lcR2 h.sa (ht X.s_0 X.H_0 0 [] []).st (he X.s_0 X.H_0 0 [] []).se⟩
theorem ql_lc (h : QC X iter x px ifs elt scope j wi tt te dl) : QL X (.ListComp elt [⟨.Name x px, iter, ifs, 0⟩] scope pos) (tLc wi (gName j) tt te [j]) dl := ⟨pe_lc (own := [(x, j)]) h.hc h.hN h.pi h.ok h.pg h.pt h.pe h.fs, h.sl⟩
/-- y = [..] on one line -/
theorem qs_setLcL {i : Nat} {y : Str} {py spos : Pos} (h : QC X iter x px ifs elt scope j wi tt te dl) (hy : X.N[i]? = some y) (hyl : X.env.scope.names.lookup y = some .local)
    (hsw : swapsWith (.ListComp elt [⟨.Name x px, iter, ifs, 0⟩] scope pos) (some (.Name y py)) spos.line X.env = pure true) : QSt X (.Assign [.Name y py] (.ListComp elt [⟨.Name x px, iter, ifs, 0⟩] scope pos) spos) (tAsg (tLc wi (gName j) tt te [j]) (gName i)) (dSetL i dl) :=
  ⟨ps_setLc (own := [(x, j)]) h.hc h.hN hy hyl hsw h.pi h.ok h.pg h.pt h.pe h.fs, fun H0 F0 F H ρ σ P E r q g =>
    h.sl H0 F0 F H ρ σ _ _ r q fun p vs ds F2 H2 s hp hf h2 hv hq => g.nx _ _ _ _ (r.setOwn s i (.l1 h2 hv) (by simp) (fun a ha => by simp only [List.mem_singleton] at ha; subst ha; exact ⟨hf, hp⟩)) hq⟩
theorem qs_setLcF {i : Nat} {y : Str} {py spos : Pos} (h : QC X iter x px ifs elt scope j wi tt te dl) (hy : X.N[i]? = some y) (hyl : X.env.scope.names.lookup y = some .local)
    (hsw : swapsWith (.ListComp elt [⟨.Name x px, iter, ifs, 0⟩] scope pos) (some (.Name y py)) spos.line X.env = pure true) : QSt X (.Assign [.Name y py] (.ListComp elt [⟨.Name x px, iter, ifs, 0⟩] scope pos) spos) (tAsg (tLc wi (gName j) tt te [j]) (gName i)) (dSet i (dL dl)) :=
  ⟨ps_setLc (own := [(x, j)]) h.hc h.hN hy hyl hsw h.pi h.ok h.pg h.pt h.pe h.fs, fun H0 F0 F H ρ σ P E r q g =>
    h.sl H0 F0 F H ρ σ _ _ r q fun p vs ds F2 H2 s hp hf h2 hv hq => g.nx _ _ _ _ ((r.step (Stp.own s hp hf h2)).putFz i (.lst upd_same (hv.up (Ex.new hf)))) hq⟩
end
end DL

/-! DL H: built-in calls, == of data, calls of defs, a def's promise -/
namespace DL
open PySem L2

/-! ### == of data -/
mutual
def D.py : D → PyData
  | .non => .none
  | .bl b => .bool b
  | .int i => .int i
  | .str s => .str s
  | .lst xs => .list (D.pyAll xs)
  | .tup xs => .tuple (D.pyAll xs)
  | .dct _ => .dict []
  | .scr ns => .list (ns.map PyData.int)
def D.pyAll : List D → List PyData
  | [] => []
  | x :: xs => D.py x :: D.pyAll xs
end
mutual
def D.plain : D → Bool
  | .dct _ => false
  | .lst xs => D.plainAll xs
  | .tup xs => D.plainAll xs
  | _ => true
def D.plainAll : List D → Bool
  | [] => true
  | x :: xs => D.plain x && D.plainAll xs
end
section
variable {K : PySem.W.Frag} {H : Hp}
theorem dp_ints : ∀ ns : List Int, DpAll K H (ns.map V.int) (ns.map PyData.int)
  | [] => .nil
  | n :: ns => .cons (.int n) (dp_ints ns)
mutual
theorem Rep.dp : ∀ (d : D) (v : V), Rep K H v d → d.plain = true → Dp K H v d.py
  | .non, _, h, _ => by cases h; exact .non
  | .bl _, _, h, _ => by cases h; exact .bl _
  | .int _, _, h, _ => by cases h; exact .int _
  | .str _, _, h, _ => by cases h; exact .str _
  | .lst ds, _, h, p => by
    cases h with
    | lst h1 h2 => exact .lst (.inl (.inl h1)) (RepL.dp ds _ h2 p)
  | .tup ds, _, h, p => by
    cases h with
    | tup h1 h2 => exact .tup (.inl (.inl h1)) (RepL.dp ds _ h2 p)
  | .dct _, _, _, p => by cases p
  | .scr ns, _, h, _ => by
    cases h with
    | scr h1 => exact .lst h1 (dp_ints ns)
theorem RepL.dp : ∀ (ds : List D) (vs : List V), RepL K H vs ds → D.plainAll ds = true → DpAll K H vs (D.pyAll ds)
  | [], _, h, _ => by cases h; exact .nil
  | d :: ds, _, h, p => by
    cases h with
    | cons h1 h2 =>
      have q : (D.plain d && D.plainAll ds) = true := p
      rw [Bool.and_eq_true] at q
      exact .cons (Rep.dp d _ h1 q.1) (RepL.dp ds _ h2 q.2)
end
end
def D.shp (d : D) : Prop := d.plain = true ∧ SeqAt.shaped d.py = true
def oEqD (neg : Bool) : DR2 := fun x y Q => x.shp ∧ y.shp ∧ Q (.bl (xor neg (PyData.eqv x.py y.py)))
section
variable {K : PySem.W.Frag} {b : Bool}
theorem r2_eqD : R2D false b K (rEqD K) (oEqD false) := fun F H x y d e Q R ef hx hy q k =>
  ⟨_, _, Rep.dp d x hx q.1.1, Rep.dp e y hy q.2.1.1, q.1.2, q.2.1.2, k _ _ F H (Stp.refl ef) (.bl _) (by simpa using q.2.2)⟩
theorem r2_neD : R2D false b K (rNeD K) (oEqD true) := fun F H x y d e Q R ef hx hy q k =>
  ⟨_, _, Rep.dp d x hx q.1.1, Rep.dp e y hy q.2.1.1, q.1.2, q.2.1.2, k _ _ F H (Stp.refl ef) (.bl _) (by simpa using q.2.2)⟩
end
section
variable {X : Cx} {b : Bool} {pos : Pos} {e f : Expr} {ta tb : TE} {da db : DE}
theorem qe_eqD (hu : X.A.units + 64 < cLine) (ha : QE false X e ta da) (hb : QE false X f tb db) : QE b X (.Compare e [.Eq] [f] pos) (tOp (rEqD X.K) ta tb) (dOp (oEqD false) da db) := ⟨pe_cmpR (op_eqD hu) ha.pe hb.pe (nomark _), se_op r2_eqD ha.se hb.se⟩
theorem qe_neD (hu : X.A.units + 64 < cLine) (ha : QE false X e ta da) (hb : QE false X f tb db) : QE b X (.Compare e [.NotEq] [f] pos) (tOp (rNeD X.K) ta tb) (dOp (oEqD true) da db) := ⟨pe_cmpR (op_neD hu) ha.pe hb.pe (nomark _), se_op r2_neD ha.se hb.se⟩
theorem qt_eqD (hu : X.A.units + 64 < cLine) (ha : QE false X e ta da) (hb : QE false X f tb db) : QT X (.Compare e [.Eq] [f] pos) (tTest (tOp (rEqD X.K) ta tb)) (dT (dOp (oEqD false) da db)) := ⟨pt_cmpR (op_eqD hu) ha.pe hb.pe (nomark _), st_test (se_op r2_eqD ha.se hb.se)⟩
theorem qt_neD (hu : X.A.units + 64 < cLine) (ha : QE false X e ta da) (hb : QE false X f tb db) : QT X (.Compare e [.NotEq] [f] pos) (tTest (tOp (rNeD X.K) ta tb)) (dT (dOp (oEqD true) da db)) := ⟨pt_cmpR (op_neD hu) ha.pe hb.pe (nomark _), st_test (se_op r2_neD ha.se hb.se)⟩
end

/-! ### built-in calls -/
def dI2 (g : Int → Int → Int) (da : DA) : DE := fun ρ Q => da ρ fun xs => match xs with | [.int i, .int j] => Q (.int (g i j)) | _ => False
def gMin (i j : Int) : Int := if j < i then j else i
def gMax (i j : Int) : Int := if j > i then j else i
def rI2 (g : Int → Int → Int) : List V → Hp → VK → Prop := fun xs H Q => ∃ i j, xs = [.int i, .int j] ∧ Q (.int (g i j)) H
def D.ty : D → String
  | .non => "NoneType" | .bl _ => "bool" | .int _ => "int" | .str _ => "str" | .lst _ => "list" | .tup _ => "tuple" | .dct _ => "dict" | .scr _ => "list"
inductive TyIn : String → Prop
  | int : TyIn "int" | bool : TyIn "bool" | list : TyIn "list" | tuple : TyIn "tuple" | str : TyIn "str"
def isiB (t T : String) : Bool := t == T || (t == "bool" && T == "int")
def D.isi (d : D) (T : String) : Bool := isiB d.ty T
def dIsi (T : String) (da : DE) : DE := fun ρ Q => da ρ fun d => Q (.bl (d.isi T))
def dAll (dl : DA) : DE := fun ρ Q => dl ρ fun ds => ∃ bs : List Bool, ds = bs.map D.bl ∧ Q (.bl (bs.all id))
def dLenSet (dl : DA) : DE := fun ρ Q => dl ρ fun ds => ∃ ns : List Int, ds = ns.map D.int ∧ ns.Nodup ∧ ns.length ≤ 4000 ∧ Q (.int ns.length)
def oInL (neg : Bool) (x : D) (ds : List D) (Q : D → Prop) : Prop := ∃ (k : Int) (ns : List Int), x = .int k ∧ ds = ns.map D.int ∧ Q (.bl (xor neg (decide (k ∈ ns))))
def dInL (neg : Bool) (da : DE) (dl : DA) : DE := fun ρ Q => da ρ fun x => dl ρ fun ds => oInL neg x ds Q
theorem inV_ints (k : Int) (ns : List Int) : inV (.int k) (ns.map V.int) = decide (k ∈ ns) := by
  unfold inV
  rw [Bool.eq_iff_iff, List.any_eq_true, decide_eq_true_iff]
  constructor
  · rintro ⟨y, hy, e⟩
    obtain ⟨n, hn, rfl⟩ := List.mem_map.mp hy
    have : n = k := by simpa [eqV] using e
    exact this ▸ hn
  · intro h
    exact ⟨.int k, List.mem_map.mpr ⟨k, h, rfl⟩, by simp [eqV]⟩
theorem flat_ints (ns : List Int) : (ns.map V.int).all flatV = true := by
  rw [List.all_eq_true]
  intro y hy
  obtain ⟨n, _, rfl⟩ := List.mem_map.mp hy
  rfl
theorem RepL.bools_inv {K : PySem.W.Frag} {H : Hp} : ∀ {ns : List Bool} {vs : List V}, RepL K H vs (ns.map D.bl) → vs = ns.map V.bl
  | [], _, h => by cases h; rfl
  | n :: ns, _, h => by
    cases h with
    | cons h1 h2 =>
      cases h1
      rw [RepL.bools_inv h2]
      rfl
theorem kit_NoneType {K : PySem.W.Frag} {T : String} (hT : TyIn T) : PySem.W.kitOne K (.type "NoneType") (.type T) = some (isiB "NoneType" T) := by cases hT <;> exact kit_ty (by decide +kernel)
theorem kit_bool {K : PySem.W.Frag} {T : String} (hT : TyIn T) : PySem.W.kitOne K (.type "bool") (.type T) = some (isiB "bool" T) := by cases hT <;> exact kit_ty (by decide +kernel)
theorem kit_int {K : PySem.W.Frag} {T : String} (hT : TyIn T) : PySem.W.kitOne K (.type "int") (.type T) = some (isiB "int" T) := by cases hT <;> exact kit_ty (by decide +kernel)
theorem kit_str {K : PySem.W.Frag} {T : String} (hT : TyIn T) : PySem.W.kitOne K (.type "str") (.type T) = some (isiB "str" T) := by cases hT <;> exact kit_ty (by decide +kernel)
theorem kit_list {K : PySem.W.Frag} {T : String} (hT : TyIn T) : PySem.W.kitOne K (.type "list") (.type T) = some (isiB "list" T) := by cases hT <;> exact kit_ty (by decide +kernel)
theorem kit_tuple {K : PySem.W.Frag} {T : String} (hT : TyIn T) : PySem.W.kitOne K (.type "tuple") (.type T) = some (isiB "tuple" T) := by cases hT <;> exact kit_ty (by decide +kernel)
theorem kit_dict {K : PySem.W.Frag} {T : String} (hT : TyIn T) : PySem.W.kitOne K (.type "dict") (.type T) = some (isiB "dict" T) := by cases hT <;> exact kit_ty (by decide +kernel)
theorem isi_ok {K : PySem.W.Frag} {H : Hp} {v : V} {d : D} {T : String} (h : Rep K H v d) (hT : TyIn T) : ∃ t : String, TyX K H v (.type t) ∧ PySem.W.kitOne K (.type t) (.type T) = some (d.isi T) := by
  cases h with
  | non => exact ⟨_, .base .non, kit_NoneType hT⟩
  | bl => exact ⟨_, .base (.bl _), kit_bool hT⟩
  | int => exact ⟨_, .base (.int _), kit_int hT⟩
  | str => exact ⟨_, .base (.str _), kit_str hT⟩
  | lst h1 _ => exact ⟨_, .base (.lst h1), kit_list hT⟩
  | tup h1 _ => exact ⟨_, .base (.tup h1), kit_tuple hT⟩
  | dct h1 _ => exact ⟨_, .base (.dK h1), kit_dict hT⟩
  | scr h1 =>
    rcases h1 with (h1 | ⟨o, h1⟩) | ⟨o, _, _, h1, h2, _⟩
    · exact ⟨_, .base (.lst h1), kit_list hT⟩
    · exact ⟨_, .base (.frz h1), kit_list hT⟩
    · exact ⟨_, .kList h1 h2, kit_list hT⟩
section
variable {X : Cx} {b : Bool} {pos : Pos} {e f : Expr} {te tf ta : TE} {de df : DE} {dl : DA} {da : DA}
theorem qe_min {p : Pos} {x y : Expr} {ta : TA} (hc : X.calm = true) (hm : X.mg "min" = none) (h : QA false X [x, y] ta da) (hg : Gl X "min" := by rfl) (hv : bootBuiltins "min" = some (.builtin "min") := by decide +kernel)
    (he : starEach [x, y] X.env = (false, eval x X.env) :: starEach [y] X.env := by rfl) (hpl : (backTo pos (starEach [y] X.env)).any (·.1) = false := by rfl) : QE b X (.Call (.Name "min" p) [x, y] [] pos) (tCB (rI2 gMin) ta) (dI2 gMin da) :=
  ⟨pe_callB (call_min2 hc) hg hm hv h.pa (by decide) (by decide) he hpl, fun H0 F0 F H ρ σ Q R r q k => h.sa H0 F0 F H ρ σ _ _ r q fun vs ds F2 H2 s hv hq => by
    split at hq
    · cases hv with
      | cons h1 h2 => cases h1; cases h2 with
        | cons h3 h4 => cases h3; cases h4; exact ⟨_, _, rfl, k _ _ F2 H2 s (.int _) hq⟩
    · exact hq.elim⟩
theorem qe_max {p : Pos} {x y : Expr} {ta : TA} (hc : X.calm = true) (hm : X.mg "max" = none) (h : QA false X [x, y] ta da) (hg : Gl X "max" := by rfl) (hv : bootBuiltins "max" = some (.builtin "max") := by decide +kernel)
    (he : starEach [x, y] X.env = (false, eval x X.env) :: starEach [y] X.env := by rfl) (hpl : (backTo pos (starEach [y] X.env)).any (·.1) = false := by rfl) : QE b X (.Call (.Name "max" p) [x, y] [] pos) (tCB (rI2 gMax) ta) (dI2 gMax da) :=
  ⟨pe_callB (call_max2 hc) hg hm hv h.pa (by decide) (by decide) he hpl, fun H0 F0 F H ρ σ Q R r q k => h.sa H0 F0 F H ρ σ _ _ r q fun vs ds F2 H2 s hv hq => by
    split at hq
    · cases hv with
      | cons h1 h2 => cases h1; cases h2 with
        | cons h3 h4 => cases h3; cases h4; exact ⟨_, _, rfl, k _ _ F2 H2 s (.int _) hq⟩
    · exact hq.elim⟩
theorem qe_isi {p p2 : Pos} {x : Expr} {T : String} {n : Str} (hT : TyIn T) (hm : X.mg "isinstance" = none) (hmT : X.mg n = none) (h : QE false X x te de) (hg : Gl X "isinstance" := by rfl) (hgT : Gl X n := by rfl) (hv : bootBuiltins "isinstance" = some (.builtin "isinstance") := by decide +kernel)
    (hvT : bootBuiltins n = some (.type T) := by decide +kernel) (hn : n ≠ "__name__" := by decide) (hd : (n == ("__debug__" : Str)) = false := by decide)
    (he : starEach [x, .Name n p2] X.env = (false, eval x X.env) :: starEach [.Name n p2] X.env := by rfl) (he2 : starEach [.Name n p2] X.env = (false, eval (.Name n p2) X.env) :: starEach [] X.env := by rfl) (hpl : (backTo pos (starEach [.Name n p2] X.env)).any (·.1) = false := by rfl) :
    QE b X (.Call (.Name "isinstance" p) [x, .Name n p2] [] pos) (tCB (rIsi X.K) (tCons te (tCons (tC (.ty T)) tNil))) (dIsi T de) :=
  ⟨pe_callB call_isi hg hm hv (pa_cons h.pe (pa_cons (pe_bltn (v := .ty T) hgT hmT hvT rfl hn hd) pa_nil he2) he) (by decide) (by decide) he hpl, fun H0 F0 F H ρ σ Q R r q k => h.se H0 F0 F H ρ σ _ _ r q fun v d F2 H2 s hv hq => by
    obtain ⟨t, h1, h2⟩ := isi_ok hv hT
    exact ⟨v, .ty T, _, _, _, rfl, .ty T, h1, h2, k _ _ F2 H2 s (.bl _) hq⟩⟩
theorem qe_all {p : Pos} {x : Expr} (hc : X.calm = true) (hm : X.mg "all" = none) (h : QS false X x te dl) (hg : Gl X "all" := by rfl) (hv : bootBuiltins "all" = some (.builtin "all") := by decide +kernel) (he : starEach [x] X.env = (false, eval x X.env) :: starEach [] X.env := by rfl) :
    QE b X (.Call (.Name "all" p) [x] [] pos) (tCB (rAll X.K) (tCons te tNil)) (dAll dl) := ⟨pe_callB (cr_all hc) hg hm hv (pa_cons h.pe pa_nil he) (by decide) (by decide) he, fun H0 F0 F H ρ σ Q R r q k =>
  h.ss H0 F0 F H ρ σ _ _ r q fun a vs ds F2 H2 s hs hr hq => by
    obtain ⟨bs, rfl, hq⟩ := hq
    obtain rfl := hr.bools_inv
    exact ⟨a, bs, rfl, hs, k _ _ F2 H2 s (.bl _) hq⟩⟩
theorem qe_lenSet {p p2 q : Pos} {x : Expr} (hc : X.calm = true) (hm : X.mg "len" = none) (hm2 : X.mg "set" = none) (h : QS false X x te dl) (hg : Gl X "len" := by rfl) (hg2 : Gl X "set" := by rfl) (he : starEach [x] X.env = (false, eval x X.env) :: starEach [] X.env := by rfl) :
    QE b X (.Call (.Name "len" p) [.Call (.Name "set" p2) [x] [] q] [] pos) (RZ.tLenSetI X.K te) (dLenSet dl) := ⟨RZ.pe_lenSetI hg hm hg2 hm2 h.pe hc he, fun H0 F0 F H ρ σ Q R r q k =>
  h.ss H0 F0 F H ρ σ _ _ r q fun a vs ds F2 H2 s hs hr hq => by
    obtain ⟨ns, rfl, h1, h2, hq⟩ := hq
    obtain rfl := hr.ints_inv
    exact ⟨a, ns, rfl, hs, h1, h2, k _ _ F2 H2 s (.int _) hq⟩⟩
theorem se_inL {neg : Bool} (h : SE false X.K te de) (h2 : SI false X.K tf dl) : SE b X.K (tOp (rIn X.K neg) te tf) (dInL neg de dl) := fun H0 F0 F H ρ σ Q R r q k =>
  h H0 F0 F H ρ σ _ _ r q fun v d F2 H2 s hv hq => h2 H0 F0 F2 H2 ρ σ _ _ (r.step s) hq fun a vs ds F3 H3 s3 hs hr hq => by
    obtain ⟨n, ns, rfl, rfl, hq⟩ := hq
    cases hv
    obtain rfl := hr.ints_inv
    refine ⟨a, _, rfl, hs, rfl, flat_ints ns, k _ _ F3 H3 (s.trans s3) (.bl _) ?_⟩
    rw [inV_ints]
    cases neg with
    | false => simpa using hq
    | true => simpa using hq
theorem qt_ninL (h : QE false X e te de) (h2 : QI false X f tf dl) (hm : behindInMarks .NotIn f = false := by rfl) : QT X (.Compare e [.NotIn] [f] pos) (tTest (tOp (rIn X.K true) te tf)) (dT (dInL true de dl)) := ⟨pt_cmpR op_notIn_seq h.pe h2.pe hm, st_test (se_inL h.se h2.si)⟩

/-! ### calls of defs, a def's promise -/
abbrev DSp := List D → (D → Prop) → Prop
def liftSp (K : PySem.W.Frag) (sp : DSp) : Sp := fun vs H Q _ => ∃ F ds Q0, Ex F H ∧ RepL K F vs ds ∧ sp ds Q0 ∧ ∀ d v F2 H2, Q0 d → Stp F H F2 H2 → Rep K F2 v d → Q v H2
def dCall (sp : DSp) (da : DA) : DE := fun ρ Q => da ρ fun ds => sp ds Q
theorem se_call {ta : TA} {K : PySem.W.Frag} {sp : DSp} {E : XK} (h : SA b K ta da) : SE b K (tCall (liftSp K sp) [] E ta) (dCall sp da) := fun H0 F0 F H ρ σ Q R r q k =>
  h H0 F0 F H ρ σ _ _ r q fun vs ds F2 H2 s hv hq => by
    show liftSp K sp (vs ++ []) H2 R E
    rw [List.append_nil]
    refine ⟨pick b F2 H2, ds, Q, pick_to s.fh, hv, hq, fun d v F3 H3 hq s3 hr => ?_⟩
    cases b with
    | true => exact k v d F3 H3 (s.trans s3) hr hq
    | false => exact k v d F2 H3 (s.trans (Stp.grow s.fh s3.hH)) (hr.up s3.fh) hq
theorem qe_call {k : Nat} {fa : Addr} {fd : FuncData} {ps : List Str} {sp : DSp} {x : Str} {p : Pos} {es : List Expr} {ta : TA} (G : FnOk X.prog X.w X.K X.mg X.base CX0 k fa fd ps (liftSp X.K sp)) (hr : Room k X.A) (hm : X.mg x = some (.ref fa)) (hk : PySem.W.keepIn X.K (.ref fa) = true) (hb : Binds X.K fd ps [])
    (h : QA b X (e :: es) ta da) (hg : Gl X x := by rfl) (hdb : (x == ("__debug__" : Str)) = false := by decide) (he : starEach (e :: es) X.env = (false, eval e X.env) :: starEach es X.env := by rfl) (hpl : (backTo pos (starEach es X.env)).any (·.1) = false := by rfl)  {K : PySem.W.Frag} (hK : X.K = K := by rfl) :
    QE b X (.Call (.Name x p) (e :: es) [] pos) (tCall (liftSp K sp) [] E0 ta) (dCall sp da) := by
  subst hK
  exact ⟨pe_call G hr hg hm hk hb .nil pass0 h.pa hdb he hpl, se_call h.sa⟩
end
def dstart (n : Nat) (ds : List D) : Env := ds.map Sl.fz ++ List.replicate (n - ds.length) .un
theorem slots_un {K : PySem.W.Frag} {F H : Hp} : ∀ n : Nat, Slots K F H (List.replicate n .un) (List.replicate n none) []
  | 0 => .nil
  | n + 1 => .cons (o := []) (os := []) (.un _) (slots_un n)
theorem slots_start {K : PySem.W.Frag} {F H : Hp} {n : Nat} : ∀ {ds : List D} {vs : List V}, RepL K F vs ds → Slots K F H (ds.map Sl.fz ++ List.replicate n .un) (vs.map some ++ List.replicate n none) []
  | [], _, h => by cases h; exact slots_un n
  | d :: ds, _, h => by
    cases h with
    | cons h1 h2 => exact .cons (o := []) (os := []) (.fz h1) (slots_start h2)
def dEnds (Q : D → Prop) : DEnds := { nx := fun _ => Q .non, rt := Q }
/-- THE RULE for a def -/
theorem fn_ok {P : Program} {w : World} {K : PySem.W.Frag} {mg : Str → Option Value} {base : Heap} {x qual : Str} {st : Stmt} {f : Addr} {fd : FuncData} {N ps : List Str} {k : Nat} {sp : DSp} {d : DS} (F : Fun K x qual st f fd) (S : FnScope N ps (defScope st))
    (hl : ∀ ds Q, sp ds Q → ds.length = ps.length)
    (hd : ∀ ds Q, sp ds Q → d (dEnds Q) (dstart N.length ds))
    (hbody : ∀ (cdv : Value) (A : Around) (outer : List PySem.Env) (s : Shared) (H : Hp) (E : XK), Room k (A.deeper (PyProof.Rows.envOfC qual (defScope st) s.heap.objs.size f cdv)) →
      ∃ t, QSs (cxOf CX0 P w K mg base N qual (defScope st) f cdv A outer s H E).nox (defBody st) t d) : FnOk P w K mg base CX0 (k + 1) f fd ps (liftSp K sp) := by
  refine F.ok S (fun vs H Q E h => ?_) (fun cdv A outer s H vs Q E hr h => ?_)
  · obtain ⟨F', ds, Q0, e, hv, hs, _⟩ := h
    rw [hv.len]
    exact hl ds Q0 hs
  · obtain ⟨F', ds, Q0, e, hv, hs, k⟩ := h
    obtain ⟨t, ht⟩ := hbody cdv A outer s H E hr
    refine ⟨t, ht.ps, ?_⟩
    refine ht.ss H F' F' H (dstart N.length ds) (L2.start N vs) (dEnds Q0) _ ⟨⟨[], ?_, List.nodup_nil, fun a ha => by cases ha⟩, Ex.refl _, e, Ex.refl _, fun a e n => (n e).elim⟩ (hd ds Q0 hs) ⟨?_, ?_, ?_, ?_⟩
    · unfold dstart L2.start
      rw [hv.len]
      exact slots_start hv
    · intro F2 H2 ρ2 σ2 r q
      exact k .non .non F2 H2 q ⟨r.f0, r.h0, r.fh, r.nw⟩ .non
    · intro F2 H2 v d e1 e2 e3 e4 hr q
      exact k d v F2 H2 q ⟨e1, e3, e2, e4⟩ hr
    · intro _ _ _ _ _ q; exact q.elim
    · intro _ _ _ _ _ q; exact q.elim
end DL

/-! DL I: short names; what a law's text gives -/
namespace DL
open PySem L2
abbrev oAdd : DR2 := oI fun i j => .int (i + j)
abbrev oSub : DR2 := oI fun i j => .int (i - j)
abbrev oMul : DR2 := oIc CMul fun i j => .int (i * j)
abbrev oDiv : DR2 := oIc CDivN fun i j => .int (i.fdiv j)
abbrev oMod : DR2 := oIc (fun _ j => j ≠ 0) fun i j => .int (i.fmod j)
abbrev oPow : DR2 := oIc CPow fun i j => .int (i ^ j.toNat)
abbrev oLt : DR2 := oI fun i j => .bl (decide (i < j))
abbrev oLe : DR2 := oI fun i j => .bl (decide (i ≤ j))
abbrev oGt : DR2 := oI fun i j => .bl (decide (j < i))
abbrev oGe : DR2 := oI fun i j => .bl (decide (j ≤ i))
abbrev dints (ns : List Int) : D := .lst (ns.map D.int)

/-- a def of the text, with its promise -/
def Has (P : Program) (w : World) (K : PySem.W.Frag) (mg : Str → Option Value) (base : Heap) (k : Nat) (x : Str) (ps : List Str) (sp : DSp) : Prop :=
  ∃ (fa : Addr) (fd : FuncData), FnOk P w K mg base CX0 k fa fd ps (liftSp K sp) ∧ mg x = some (.ref fa) ∧ PySem.W.keepIn K (.ref fa) = true ∧ Binds K fd ps []
/-- built-in names that the text leaves alone -/
structure Bt (mg : Str → Option Value) : Prop where
  len : mg "len" = none
  range : mg "range" = none
  list : mg "list" = none
  sorted : mg "sorted" = none
  min : mg "min" = none
  max : mg "max" = none
  isinstance : mg "isinstance" = none
  int : mg "int" = none
  bool : mg "bool" = none
  tuple : mg "tuple" = none
  str : mg "str" = none
  all : mg "all" = none
  set : mg "set" = none
/-- the law's promise -/
def sp_law : DSp := fun ds Q => ∃ ns : List Int, ds = [.scr ns] ∧ ns.length ≤ 63 ∧ Q (.bl true)

theorem has_mk {P : Program} {w : World} {K : PySem.W.Frag} {mg : Str → Option Value} {base : Heap} {k : Nat} {x qual : Str} {st : Stmt} {fa : Addr} {fd : FuncData} {ps : List Str} {sp : DSp} (F : Fun K x qual st fa fd) (G : FnOk P w K mg base CX0 k fa fd ps (liftSp K sp)) (hm : mg x = some (.ref fa))
    (hb : Binds K fd ps []) : Has P w K mg base k x ps sp := ⟨fa, fd, G, hm, F.kp, hb⟩
theorem ln_law : ∀ ds Q, sp_law ds Q → ds.length = 1 := by
  rintro ds Q ⟨ns, rfl, _⟩
  rfl
theorem walk_law {l : PySem.W.OpenLaw} {q : Program} {loose : List Str} {XP : (Str → Option Value) → Heap → Prop} {YP : World → Heap → Prop} {d : DefRec} {K : Params → PySem.W.Frag} {k : Nat} (hn : l.most = some 63) (hdf : d.params.defaults = [])
    (hY : ∀ (w : World) (h : Heap), YP w h → (K w.params).In h)
    (F : ∀ (w : World) (mg : Str → Option Value) (fa : Addr) (h : Heap), (K w.params).In h → h.Ns mainGlobals mg → mg d.name = some (.ref fa) →
      ∃ fd : FuncData, (∀ (s : Shared) (u : Value), BindsTo s fd ⟨[u], []⟩ [("script", u)]) ∧ ∀ base : Heap, (K w.params).In base → base.Ns mainGlobals mg → FnOk l.prog w (K w.params) mg base CX0 k fa fd ["script"] (liftSp (K w.params) sp_law)) (hr : Room k callerA) :
    PySem.W.WalkO q loose XP YP l.row.toRowW d [] (fun f vs => PySem.call f vs) :=
  L2.walk_of (n := 63) (k := k) (x := "script") (CX := fun _ => CX0) (sp := fun w => liftSp (K w.params) sp_law) hn (by decide) hdf hr hY F
    (fun _ H a ns hl _ hS => ⟨H, [.scr ns], fun d => d = .bl true, Ex.refl _, .cons (.scr hS) .nil, ⟨ns, rfl, hl, rfl⟩, fun d v F2 H2 e _ hr => by subst e; cases hr; rfl⟩) fun _ _ _ _ _ z => z
/-- a statement, then the rest, with a word between them -/
def dJoin (a b : DS) : DS := fun P ρ => ∃ Mid : Env → Prop, a { P with nx := Mid } ρ ∧ ∀ ρ', Mid ρ' → b P ρ'
theorem qss_cut {X : Cx} {st : Stmt} {rest : List Stmt} {t u : TS} {d d' : DS} (h1 : QSt X st t d) (h2 : QSs X rest u d') : QSs X (st :: rest) (tSeq t u) (dJoin d d') := ⟨pss_cons h1.ps h2.ps, fun H0 F0 F H ρ σ P E r q g => by
  obtain ⟨Mid, q1, q2⟩ := q
  exact h1.ss H0 F0 F H ρ σ _ _ r q1 ⟨fun F H ρ σ r q => h2.ss H0 F0 F H ρ σ P E r (q2 ρ q) g, g.rt, g.bk, g.ct⟩⟩
/-! ### ranges, comprehensions -/
theorem rangeD_nil {lo hi : Int} (h : hi ≤ lo) : rangeD lo hi = [] := by
  unfold rangeD
  rw [show (hi - lo).toNat = 0 by omega]
  rfl
theorem rangeD_cons {lo hi : Int} (h : lo < hi) : rangeD lo hi = .int lo :: rangeD (lo + 1) hi := by
  unfold rangeD
  obtain ⟨n, hn⟩ : ∃ n, (hi - lo).toNat = n + 1 := ⟨(hi - lo).toNat - 1, by omega⟩
  rw [hn, show (hi - (lo + 1)).toNat = n by omega, List.range_succ_eq_map, List.map_cons, List.map_map]
  simp only [Int.natCast_zero, Int.add_zero, List.cons.injEq, true_and]
  apply List.map_congr_left
  intro i _
  simp only [Function.comp, D.int.injEq]
  omega
def rangeI (lo hi : Int) : List Int := (List.range (hi - lo).toNat).map fun i => lo + (i : Nat)
theorem rangeD_eq (lo hi : Int) : rangeD lo hi = (rangeI lo hi).map D.int := by
  unfold rangeD rangeI
  rw [List.map_map]
  rfl
theorem dLcG_map {j : Nat} {de : DE} {ρ : Env} {Q : List D → Prop} (f : D → D) : ∀ {xs : List D} {acc : List D}, (∀ x ∈ xs, ∀ R : D → Prop, R (f x) → de (put ρ j (.fz x)) R) → Q (acc ++ xs.map f) → dLcG j dYes de ρ Q xs acc
  | [], acc, _, q => by simpa [dLcG] using q
  | x :: xs, acc, h, q => by
    refine ⟨fun _ => h x (List.mem_cons_self ..) _ (dLcG_map f (fun y hy => h y (List.mem_cons_of_mem _ hy)) (by simpa using q)), fun h => nomatch h⟩
theorem dLcG_filter {j : Nat} {dt : DT} {de : DE} {ρ : Env} {Q : List D → Prop} (p : D → Bool) (f : D → D) : ∀ {xs : List D} {acc : List D}, (∀ x ∈ xs, ∀ R : Bool → Prop, R (p x) → dt (put ρ j (.fz x)) R) →
    (∀ x ∈ xs, ∀ R : D → Prop, p x = true → R (f x) → de (put ρ j (.fz x)) R) → Q (acc ++ (xs.filter p).map f) → dLcG j dt de ρ Q xs acc
  | [], acc, _, _, q => by simpa [dLcG] using q
  | x :: xs, acc, ht, h, q => by
    refine ht x (List.mem_cons_self ..) _ ⟨fun hp => h x (List.mem_cons_self ..) _ hp (dLcG_filter p f (fun y hy => ht y (List.mem_cons_of_mem _ hy)) (fun y hy => h y (List.mem_cons_of_mem _ hy)) ?_), fun hp => dLcG_filter p f (fun y hy => ht y (List.mem_cons_of_mem _ hy)) (fun y hy => h y (List.mem_cons_of_mem _ hy)) ?_⟩
    · rw [List.filter_cons, if_pos hp] at q
      simpa using q
    · rw [List.filter_cons, if_neg (by rw [hp]; exact Bool.false_ne_true)] at q
      exact q
/-! ### items -/
theorem atI_nat {α : Type} {xs : List α} {i : Int} {x : α} (h0 : 0 ≤ i) (h : xs[i.toNat]? = some x) : atI xs i = some x := by
  have hl := (List.getElem?_eq_some_iff.mp h).1
  unfold atI ixN
  rw [if_pos h0, if_pos (by omega)]
  exact h
theorem atI_map {α β : Type} {f : α → β} {xs : List α} {i : Int} {x : α} (h0 : 0 ≤ i) (h : xs[i.toNat]? = some x) : atI (xs.map f) i = some (f x) := atI_nat h0 (by rw [List.getElem?_map, h]; rfl)
theorem atI_getD {f : Int → D} {xs : List Int} {i : Int} (h0 : 0 ≤ i) (h : i < xs.length) : atI (xs.map f) i = some (f (xs.getD i.toNat 0)) := by
  refine atI_map h0 ?_
  have : i.toNat < xs.length := by omega
  rw [List.getD_eq_getElem?_getD, List.getElem?_eq_getElem this]
  rfl
theorem shp_ints (ns : List Int) : (dints ns).shp := by
  have h1 : ∀ ns : List Int, D.plainAll (ns.map D.int) = true := fun ns => by
    induction ns with
    | nil => rfl
    | cons n ns ih => exact ih
  have h2 : ∀ ns : List Int, PyData.canLayAll0 (D.pyAll (ns.map D.int)) = true := fun ns => by
    induction ns with
    | nil => rfl
    | cons n ns ih =>
      show (PyData.canLay0 (.int n) && PyData.canLayAll0 (D.pyAll (ns.map D.int))) = true
      rw [ih]
      simp [PyData.canLay0]
  have h3 : ∀ ns : List Int, PyData.depthAll (D.pyAll (ns.map D.int)) = 0 := fun ns => by
    induction ns with
    | nil => rfl
    | cons n ns ih =>
      show max (PyData.depth (.int n)) (PyData.depthAll (D.pyAll (ns.map D.int))) = 0
      rw [ih]
      simp [PyData.depth]
  refine ⟨h1 ns, ?_⟩
  unfold SeqAt.shaped
  show (PyData.canLayAll0 (D.pyAll (ns.map D.int)) && decide (PyData.depthAll (D.pyAll (ns.map D.int)) + 1 ≤ 64)) = true
  rw [h2, h3]
  decide
theorem eqv_dints (ns ms : List Int) : PyData.eqv (dints ns).py (dints ms).py = decide (ns = ms) := by
  show PyData.eqvAll (D.pyAll (ns.map D.int)) (D.pyAll (ms.map D.int)) = decide (ns = ms)
  induction ns generalizing ms with
  | nil =>
    cases ms with
    | nil => rfl
    | cons m ms => rfl
  | cons n ns ih =>
    cases ms with
    | nil => rfl
    | cons m ms =>
      show (PyData.eqv (.int n) (.int m) && PyData.eqvAll (D.pyAll (ns.map D.int)) (D.pyAll (ms.map D.int))) = _
      rw [ih]
      show ((n == m) && decide (ns = ms)) = _
      rw [Bool.eq_iff_iff]
      simp
end DL

/-! DL J: lists of lists of one's own: made by a comprehension; an item popped from one and appended to another -/
namespace DL
open PySem L2

/-! ### x = [[] for y in ..] -/
def dSet2 (i : Nat) (dl : DA) : DS := fun P ρ => dl ρ fun ds => ds.length ≤ 1000000 ∧ P.nx (put ρ i (.l2 (List.replicate ds.length [])))
/-- between two turns: D the new list, its items empty lists at as -/
def NlW (K : PySem.W.Frag) (H : Hp) (D : Addr) (k : Nat) (H' : Hp) : Prop := ∃ as : List Addr, Ex H H' ∧ H D = none ∧ H' D = some (.lst (as.map V.ref)) ∧ as.length = k ∧ as.Nodup ∧ (∀ a ∈ as, H a = none ∧ a ≠ D ∧ H' a = some (.lst []))
section
variable {K : PySem.W.Frag} {H : Hp} {σ : St} {D : Addr} {j : Nat}
theorem nlw_start (hD : H D = none) : NlW K H D 0 (upd H D (.lst [])) := ⟨[], Ex.new hD, hD, upd_same, rfl, .nil, fun _ h => by cases h⟩
theorem nlw_turn {k : Nat} {H' : Hp} (v : V) (w : NlW K H D k H') (hk : k < 1000000) :
    wipe ((wipe σ [j]).set j (some v)) [j] = wipe σ [j] ∧ tYes ((wipe σ [j]).set j (some v)) H' fun b H3 => if b = true then tLst tNil ((wipe σ [j]).set j (some v)) H3 fun y H4 => ∃ acc, H4 D = some (.lst acc) ∧ acc.length < sizeLine ∧ NlW K H D (k + 1) (upd H4 D (.lst (acc ++ [y])))
      else NlW K H D (k + 1) H3 := by
  obtain ⟨as, e, hD, hD', hl, nd, ha⟩ := w
  refine ⟨?_, ?_⟩
  · show ((wipe σ [j]).set j (some v)).set j none = σ.set j none
    rw [set_none_set, List.set_set]
  unfold tYes
  simp only [if_true]
  refine ⟨Nat.zero_le _, fun p hp => ?_⟩
  have pD : p ≠ D := fun z => by rw [z, hD'] at hp; cases hp
  have hpH : H p = none := e.back hp
  refine ⟨as.map V.ref, by rw [upd_ne pD.symm]; exact hD', by rw [List.length_map, hl]; exact sz_lt hk, as ++ [p], ?_, hD, ?_, by rw [List.length_append, hl]; rfl, ?_, fun a hm => ?_⟩
  · exact Ex.mut (e.trans (Ex.new hp)) hD
  · rw [upd_same, List.map_append]; rfl
  · rw [List.nodup_append]
    refine ⟨nd, by simp, fun a h1 b h2 => ?_⟩
    simp only [List.mem_singleton] at h2
    subst h2
    intro z
    subst z
    rw [(ha a h1).2.2] at hp
    cases hp
  · rcases List.mem_append.mp hm with hm | hm
    · obtain ⟨h1, h2, h3⟩ := ha a hm
      refine ⟨h1, h2, ?_⟩
      rw [upd_ne h2, upd_ne (fun z => by rw [z, hp] at h3; cases h3)]
      exact h3
    · simp only [List.mem_singleton] at hm
      subst hm
      exact ⟨hpH, pD, by rw [upd_ne pD, upd_same]⟩
theorem ownLs_nil {F H' : Hp} : ∀ {as : List Addr}, (∀ a ∈ as, H' a = some (.lst [])) → OwnLs K F H' as (List.replicate as.length [])
  | [], _ => .nil
  | a :: as, h => .cons (h a (List.mem_cons_self ..)) .nil (ownLs_nil fun b hb => h b (List.mem_cons_of_mem _ hb))
theorem nlw_end {H0 F0 F : Hp} {ρ : Env} {n i : Nat} {H' : Hp} (r : Rel K H0 F0 F H ρ σ) (w : NlW K H D n H') : Rel K H0 F0 F H' (put ρ i (.l2 (List.replicate n []))) (σ.set i (some (.ref D))) := by
  obtain ⟨as, e, hD, hD', hl, nd, ha⟩ := w
  subst hl
  refine r.setOwn (Stp.grow r.fh e) i (.l2 hD' (ownLs_nil fun a h => (ha a h).2.2)) (List.nodup_cons.mpr ⟨fun z => (ha D z).2.1 rfl, nd⟩) fun a h => ?_
  rcases List.mem_cons.mp h with rfl | h
  · exact ⟨r.fh.back hD, hD⟩
  · exact ⟨r.fh.back (ha a h).1, (ha a h).1⟩
end
structure QC2 (X : Cx) (iter : Expr) (x : Str) (px : Pos) (elt : Expr) (scope : Scope) (j : Nat) (wi : TI) (dl : DA) : Prop where
  hc : X.calm = true
  hN : X.N.Nodup
  pi : PI X (.Name x px) iter wi
  ok : BlkOk X.N X.env.scope scope [(x, j)]
  pg : ∀ (s : Shared) (H : Hp) (C : Addr) (cl : List (Str × Addr)) (fp : List Addr), PG (X.blk s H scope (compEnvC scope cl C X.env) fp) (.Name x px) (gName j)
  pe : ∀ (s : Shared) (H : Hp) (C : Addr) (cl : List (Str × Addr)) (fp : List Addr), PE (X.blk s H scope (compEnvC scope cl C X.env) fp) elt (tLst tNil)
  fs : ∀ x, foldedSetIterable iter X.env x = pure x
  go : ∀ (H0 F0 F H : Hp) (ρ : Env) (σ : St) (i : Nat) (Q : Env → Prop) (R : VK), Rel X.K H0 F0 F H ρ σ → (dl ρ fun ds => ds.length ≤ 1000000 ∧ Q (put ρ i (.l2 (List.replicate ds.length [])))) →
    (∀ D F2 H2 ρ2, Rel X.K H0 F0 F2 H2 ρ2 (σ.set i (some (.ref D))) → Q ρ2 → R (.ref D) H2) → tLc wi (gName j) tYes (tLst tNil) [j] σ H R
section
variable {X : Cx} {iter : Expr} {x : Str} {px pos p4 : Pos} {scope : Scope} {j : Nat} {wi : TI} {tl : TE} {dl : DA}
theorem qc2_L (hc : X.calm = true) (hN : X.N.Nodup) (h : QF X iter tl dl) (ok : BlkOk X.N X.env.scope scope [(x, j)])
    (hg : ∀ (s : Shared) (H : Hp) (C : Addr) (cl : List (Str × Addr)) (fp : List Addr), PG (X.blk s H scope (compEnvC scope cl C X.env) fp) (.Name x px) (gName j))
    (fs : ∀ x, foldedSetIterable iter X.env x = pure x := by intro _; rfl) : QC2 X iter x px (.List [] p4) scope j (iList X.K tl) dl :=
  ⟨hc, hN, pi_list h.pe, ok, hg, fun s H C cl fp => pe_lst pa_nil, fs, fun H0 F0 F1 H1 ρ σ i Q R r1 q k => h.sf H0 F0 F1 H1 ρ σ _ _ r1 q fun a vs ds F H s hs hv q => ⟨a, rfl, ⟨vs, s.fh.seq hs⟩, fun D hD => by
    have r := r1.step s
    refine lc_list (K := X.K) (a := a) (xs := vs) (fun k H' => NlW X.K H D k H') (nlw_start hD) (fun k H' _ w => ?_) (fun k x H' hx w => ?_) (fun H' w => ?_)
    · obtain ⟨as, e, _⟩ := w
      exact e.seq (s.fh.seq hs)
    · have := (List.getElem?_eq_some_iff.mp hx).1
      rw [hv.len] at this
      exact nlw_turn x w (Nat.lt_of_lt_of_le this q.1)
    · rw [hv.len] at w
      exact k D F H' _ (nlw_end r w) q.2⟩⟩
theorem qc2_R1 {a : Expr} {p p2 : Pos} {ta : TA} {da : DA} (hc : X.calm = true) (hN : X.N.Nodup) (hm : X.mg "range" = none) (h : QA false X [a] ta da) (ok : BlkOk X.N X.env.scope scope [(x, j)])
    (hg : ∀ (s : Shared) (H : Hp) (C : Addr) (cl : List (Str × Addr)) (fp : List Addr), PG (X.blk s H scope (compEnvC scope cl C X.env) fp) (.Name x px) (gName j))
    (hgl : Gl X "range" := by rfl) (hs : starEach [a] X.env = [(false, eval a X.env)] := by rfl)
    (fs : ∀ x, foldedSetIterable (.Call (.Name "range" p) [a] [] p2) X.env x = pure x := by intro _; rfl) : QC2 X (.Call (.Name "range" p) [a] [] p2) x px (.List [] p4) scope j (iRng1 ta) (dRng1 da) :=
  ⟨hc, hN, pi_range1 hgl hm h.pa hs, ok, hg, fun s H C cl fp => pe_lst pa_nil, fs, fun H0 F0 F1 H1 ρ σ i Q R r1 q k => h.sa H0 F0 F1 H1 ρ σ _ _ r1 q fun vs ds F H s hv q => by
    split at q
    · cases hv with
      | cons h1 h2 =>
        cases h1
        cases h2
        refine ⟨_, rfl, q.1.1, q.1.2, fun D hD => ?_⟩
        have r := r1.step s
        have ql := q.2.1
        have qq := q.2.2
        rw [rangeD_len, Int.sub_zero] at ql qq
        refine lc_range (fun k H' => NlW X.K H D k H') (nlw_start hD) (fun k H' hk w => ?_) (fun H' w => ?_)
        · exact nlw_turn _ w (by omega)
        · exact k D F H' _ (nlw_end r w) qq
    · exact q.elim⟩
theorem qs_setLc2 {i : Nat} {y : Str} {py spos : Pos} (h : QC2 X iter x px (.List [] p4) scope j wi dl) (hy : X.N[i]? = some y) (hyl : X.env.scope.names.lookup y = some .local)
    (hsw : swapsWith (.ListComp (.List [] p4) [⟨.Name x px, iter, [], 0⟩] scope pos) (some (.Name y py)) spos.line X.env = pure true) : QSt X (.Assign [.Name y py] (.ListComp (.List [] p4) [⟨.Name x px, iter, [], 0⟩] scope pos) spos) (tAsg (tLc wi (gName j) tYes (tLst tNil) [j]) (gName i)) (dSet2 i dl) :=
  ⟨ps_setLc (own := [(x, j)]) h.hc h.hN hy hyl hsw h.pi h.ok h.pg (fun _ _ _ _ _ => pts_nil) h.pe h.fs, fun H0 F0 F H ρ σ P E r q g =>
    h.go H0 F0 F H ρ σ i P.nx _ r q fun D F2 H2 ρ2 r2 q2 => g.nx _ _ _ _ r2 q2⟩
end

/-! ### xs[k].append(ys.pop(0)); xs.append(ys[k].pop(..)) -/
def dApp2Pop (i : Nat) (dk : DE) (j : Nat) : DS := fun P ρ => match nth ρ i with
  | .l2 dss => dk ρ fun x => match x with
    | .int k => ∃ n ds, ixN dss.length k = some n ∧ dss[n]? = some ds ∧ i ≠ j ∧ match nth ρ j with
      | .l1 (y :: ys) => ds.length < 1000000 ∧ P.nx (put (put ρ j (.l1 ys)) i (.l2 (dss.set n (ds ++ [y]))))
      | _ => False
    | _ => False
  | _ => False
def dAppPop2At (i j : Nat) (dk : DE) (dp : DE) : DS := fun P ρ => match nth ρ i with
  | .l1 es => match nth ρ j with
    | .l2 dss => dk ρ fun x => match x with
      | .int k => ∃ n ds, ixN dss.length k = some n ∧ dss[n]? = some ds ∧ i ≠ j ∧ dp ρ fun z => match z with
        | .int m => ∃ q y, 0 ≤ m ∧ m < 2 ^ 62 ∧ q = m.toNat ∧ ds[q]? = some y ∧ es.length < 1000000 ∧ P.nx (put (put ρ j (.l2 (dss.set n (ds.eraseIdx q)))) i (.l1 (es ++ [y])))
        | _ => False
      | _ => False
    | _ => False
  | _ => False
def dAppPop2 (i j : Nat) (dk : DE) : DS := fun P ρ => match nth ρ i with
  | .l1 es => match nth ρ j with
    | .l2 dss => dk ρ fun x => match x with
      | .int k => ∃ n ds y, ixN dss.length k = some n ∧ dss[n]? = some ds ∧ i ≠ j ∧ ds[ds.length - 1]? = some y ∧ es.length < 1000000 ∧ P.nx (put (put ρ j (.l2 (dss.set n ds.dropLast))) i (.l1 (es ++ [y])))
      | _ => False
    | _ => False
  | _ => False
section
variable {X : Cx} {pos : Pos} {o : Expr} {to : TE} {dk : DE}
theorem map_ref_inj : ∀ {as bs : List Addr}, as.map V.ref = bs.map V.ref → as = bs
  | [], [], _ => rfl
  | [], _ :: _, h => by cases h
  | _ :: _, [], h => by cases h
  | a :: as, b :: bs, h => by
    simp only [List.map_cons, List.cons.injEq, V.ref.injEq] at h
    rw [h.1, map_ref_inj h.2]
theorem Rel.sep {K : PySem.W.Frag} {H0 F0 F H : Hp} {ρ : Env} {σ : St} (r : Rel K H0 F0 F H ρ σ) {i j : Nat} (hij : i ≠ j) (hi : nth ρ i ≠ .un) (hj : nth ρ j ≠ .un) :
    ∃ v1 o1 v2 o2, σ[i]? = some v1 ∧ SlotOk K F H (nth ρ i) v1 o1 ∧ σ[j]? = some v2 ∧ SlotOk K F H (nth ρ j) v2 o2 ∧ ∀ x ∈ o1, x ∉ o2 := by
  obtain ⟨os, h1, h2, _⟩ := r.sl
  obtain ⟨v, o, os1, os2, e1, e2, e3, k⟩ := h1.at i hi
  subst e3
  have g := k F H .un v [] (Ex.refl F) (fun _ _ _ e => e) (.un v)
  have nj : nth (put ρ i .un) j = nth ρ j := nth_put_ne (fun z => hij z.symm)
  obtain ⟨v2, o2, a1, a2, f1, f2, f3, _⟩ := g.at j (by rw [nj]; exact hj)
  rw [nj] at f2
  refine ⟨v, o, v2, o2, e1, e2, ?_, f2, fun x hx hx2 => ?_⟩
  · rw [List.getElem?_set_ne hij] at f1
    exact f1
  · have m : x ∈ os1 ++ [] ++ os2 := by rw [f3]; simp [hx2]
    simp only [List.append_nil, List.mem_append] at m
    simp only [List.nodup_append, List.mem_append] at h2
    rcases m with m | m
    · exact h2.1.2.2 x m x hx rfl
    · exact h2.2.2 x (.inr hx) x m rfl
/-- an own list and an own list of lists stand apart -/
theorem Rel.sep12 {K : PySem.W.Frag} {H0 F0 F H : Hp} {ρ : Env} {σ : St} (r : Rel K H0 F0 F H ρ σ) {i j : Nat} {dss : List (List D)} {ds : List D} (hij : i ≠ j) (hi : nth ρ i = .l2 dss) (hj : nth ρ j = .l1 ds) {a l : Addr} {as : List Addr}
    (e1 : σ[i]? = some (some (.ref a))) (e2 : H a = some (.lst (as.map V.ref))) (f1 : σ[j]? = some (some (.ref l))) : a ≠ l ∧ l ∉ as := by
  obtain ⟨v1, o1, v2, o2, g1, g2, g3, g4, g5⟩ := r.sep hij (by rw [hi]; exact Sl.noConfusion) (by rw [hj]; exact Sl.noConfusion)
  rw [hi] at g2
  rw [hj] at g4
  rw [e1] at g1
  rw [f1] at g3
  cases g1
  cases g3
  cases g4
  cases g2 with
  | @l2 _ as2 _ h1 h2 =>
    rw [e2] at h1
    obtain rfl := map_ref_inj (HO.lst.inj (Option.some.inj h1))
    exact ⟨fun z => g5 a (List.mem_cons_self ..) (z ▸ List.mem_singleton.mpr rfl), fun z => g5 l (List.mem_cons_of_mem _ z) (List.mem_singleton.mpr rfl)⟩
theorem qs_app2pop {i j : Nat} {x y : Str} {p1 p2 p3 p4 p5 p6 p7 : Pos} {kz : Nat} {pz : Pos} (hi : QE false X o to dk) (hv : QE false X (.Name x p1) (tVar i) (dVar false i)) (hy : QE false X (.Name y p4) (tVar j) (dVar false j)) (hpx : PlainIx o)
    (hb : attributeBase (.Subscript (.Name x p1) o p5) "append" X.env (eval (.Subscript (.Name x p1) o p5) X.env) = eval (.Subscript (.Name x p1) o p5) X.env := by rfl)
    (hb2 : attributeBase (.Name y p4) "pop" X.env (eval (.Name y p4) X.env) = eval (.Name y p4) X.env := by rfl)
    (hf2 : ((backTo p7 (starEach [.Constant (.int 0) kz pz] X.env)).all (fun x => !x.1) && (backToKw p7 (keywordEach [] X.env)).all (fun x => x.1.isSome)
      && decide (([.Constant (.int 0) kz pz] : List Expr).length + ([] : List Keyword).length + (if ([] : List Keyword).isEmpty then 0 else 1) < 30)) = true := by rfl)
    (hl2 : (p6.endLine == p7.line) = true := by rfl) (hs2 : starEach [.Constant (.int 0) kz pz] X.env = (false, eval (.Constant (.int 0) kz pz) X.env) :: starEach [] X.env := by rfl) (hpl2 : (backTo p7 (starEach [] X.env)).any (·.1) = false := by rfl)
    (hfew : ((backTo p3 (starEach [.Call (.Attribute (.Name y p4) "pop" p6) [.Constant (.int 0) kz pz] [] p7] X.env)).all (fun x => !x.1) && (backToKw p3 (keywordEach [] X.env)).all (fun x => x.1.isSome)
      && decide (([.Call (.Attribute (.Name y p4) "pop" p6) [.Constant (.int 0) kz pz] [] p7] : List Expr).length + ([] : List Keyword).length + (if ([] : List Keyword).isEmpty then 0 else 1) < 30)) = true := by rfl)
    (hline : (p2.endLine == p3.line) = true := by rfl) (hs : starEach [.Call (.Attribute (.Name y p4) "pop" p6) [.Constant (.int 0) kz pz] [] p7] X.env = (false, eval (.Call (.Attribute (.Name y p4) "pop" p6) [.Constant (.int 0) kz pz] [] p7) X.env) :: starEach [] X.env := by rfl) (hpl : (backTo p3 (starEach [] X.env)).any (·.1) = false := by rfl)
    (hsw : swapsWith (.Call (.Attribute (.Subscript (.Name x p1) o p5) "append" p2) [.Call (.Attribute (.Name y p4) "pop" p6) [.Constant (.int 0) kz pz] [] p7] [] p3) none pos.line X.env = pure false := by rfl) :
    QSt X (.Expr (.Call (.Attribute (.Subscript (.Name x p1) o p5) "append" p2) [.Call (.Attribute (.Name y p4) "pop" p6) [.Constant (.int 0) kz pz] [] p7] [] p3) pos)
      (tDrop (tBM X.K "list" rAppend (tOp (rIx X.K) (tVar i) to) (tCons (tBM X.K "list" rPopAt (tVar j) (tCons (tC (.int 0)) tNil)) tNil))) (dApp2Pop i dk j) :=
  ⟨ps_expr (pe_bm PySem.F.plainAttrs_list PySem.F.slot_list_append PySem.F.type_list_append mt_append (pe_ix ix_seq hv.pe hi.pe hpx)
    (pa_cons (pe_bm PySem.F.plainAttrs_list PySem.F.slot_list_pop PySem.F.type_list_pop mt_popAt hy.pe (pa_cons pe_int pa_nil hs2) hb2 hf2 hl2 hs2 hpl2) pa_nil hs) hb hfew hline hs hpl) hsw, fun H0 F0 F H ρ σ P E r q g => by
    unfold dApp2Pop at q
    split at q
    · rename_i dss hii
      obtain ⟨a, as, e1, e2, e3, _, _⟩ := r.l2 hii
      refine ⟨_, e1, hi.se H0 F0 F H ρ σ _ _ r q fun v d F2 H2 s hv hq => ?_⟩
      have r2 := r.step s
      obtain ⟨a', as', e1', e2', e3', k2, _⟩ := r2.l2 hii
      cases e1.symm.trans e1'
      split at hq
      · cases hv
        obtain ⟨n, ds, hn, hds, hij, hq⟩ := hq
        obtain ⟨b, vs, b1, b2, b3, _⟩ := k2 n ds hds
        split at hq
        · rename_i y0 ys hj
          obtain ⟨l, ws, f1, f2, f3, kj⟩ := r2.l1 hj
          refine .inl ⟨a, _, _, .ref b, rfl, rfl, .inl (.inl e2'), ?_, st_slot b2, ?_⟩
          · unfold atI
            rw [List.length_map, e3', hn]
            show (as'.map V.ref)[n]? = _
            rw [List.getElem?_map, b1]
            rfl
          cases f3 with
          | @cons v0 ws0 _ _ g1 g2 =>
            refine ⟨_, f1, st_slot f2, l, v0 :: ws0, 0, 0, v0, rfl, rfl, f2, by decide, by decide, ?_, rfl, ?_⟩
            · unfold seqIndex?
              simp
            have r3 := kj ws0 ys g2
            have hii3 : nth (put ρ j (.l1 ys)) i = .l2 dss := by rw [nth_put_ne hij]; exact hii
            obtain ⟨a3, as3, x1, x2, x3, k3, _⟩ := r3.l2 hii3
            cases e1.symm.trans x1
            obtain ⟨b3', vs3, y1, y2, y3, k4⟩ := k3 n ds hds
            have la := (r2.sep12 hij hii hj e1 e2' f1).1
            have ea : as3 = as' := by
              rw [upd_ne la, e2'] at x2
              exact (map_ref_inj (HO.lst.inj (Option.some.inj x2))).symm
            subst ea
            rw [b1] at y1
            cases y1
            exact ⟨b, vs3, v0, rfl, rfl, y2, by rw [y3.len]; exact sz_lt hq.1, g.nx F2 _ _ _ (k4 _ _ (y3.append (.one g1))) hq.2⟩
        · exact hq.elim
      · exact hq.elim
    · exact q.elim⟩
theorem qs_appPop2 {i j : Nat} {x y : Str} {p1 p2 p3 p4 p6 p7 p8 : Pos} (hi : QE false X o to dk) (hv : QE false X (.Name x p1) (tVar i) (dVar false i)) (hy : QE false X (.Name y p4) (tVar j) (dVar false j)) (hpx : PlainIx o)
    (hb : attributeBase (.Name x p1) "append" X.env (eval (.Name x p1) X.env) = eval (.Name x p1) X.env := by rfl)
    (hb2 : attributeBase (.Subscript (.Name y p4) o p8) "pop" X.env (eval (.Subscript (.Name y p4) o p8) X.env) = eval (.Subscript (.Name y p4) o p8) X.env := by rfl)
    (hl2 : (p6.endLine == p7.line) = true := by rfl)
    (hfew : ((backTo p3 (starEach [(.Call (.Attribute (.Subscript (.Name y p4) o p8) "pop" p6) [] [] p7)] X.env)).all (fun x => !x.1) && (backToKw p3 (keywordEach [] X.env)).all (fun x => x.1.isSome)
      && decide (([(.Call (.Attribute (.Subscript (.Name y p4) o p8) "pop" p6) [] [] p7)] : List Expr).length + ([] : List Keyword).length + (if ([] : List Keyword).isEmpty then 0 else 1) < 30)) = true := by rfl)
    (hline : (p2.endLine == p3.line) = true := by rfl) (hs : starEach [(.Call (.Attribute (.Subscript (.Name y p4) o p8) "pop" p6) [] [] p7)] X.env = (false, eval (.Call (.Attribute (.Subscript (.Name y p4) o p8) "pop" p6) [] [] p7) X.env) :: starEach [] X.env := by rfl) (hpl : (backTo p3 (starEach [] X.env)).any (·.1) = false := by rfl)
    (hsw : swapsWith (.Call (.Attribute (.Name x p1) "append" p2) [(.Call (.Attribute (.Subscript (.Name y p4) o p8) "pop" p6) [] [] p7)] [] p3) none pos.line X.env = pure false := by rfl) :
    QSt X (.Expr (.Call (.Attribute (.Name x p1) "append" p2) [(.Call (.Attribute (.Subscript (.Name y p4) o p8) "pop" p6) [] [] p7)] [] p3) pos)
      (tDrop (tBM X.K "list" rAppend (tVar i) (tCons (tBM0 X.K "list" rPop (tOp (rIx X.K) (tVar j) to)) tNil))) (dAppPop2 i j dk) :=
  ⟨ps_expr (pe_bm PySem.F.plainAttrs_list PySem.F.slot_list_append PySem.F.type_list_append mt_append hv.pe (pa_cons (pe_bm0 PySem.F.plainAttrs_list PySem.F.slot_list_pop PySem.F.type_list_pop mt_pop (pe_ix ix_seq hy.pe hi.pe hpx) hb2 hl2) pa_nil hs) hb hfew hline hs hpl) hsw, fun H0 F0 F H ρ σ P E r q g => by
    unfold dAppPop2 at q
    split at q
    · rename_i es hii
      split at q
      · rename_i dss hjj
        obtain ⟨l, ws, f1, f2, f3, _⟩ := r.l1 hii
        obtain ⟨a, as, e1, e2, e3, _, _⟩ := r.l2 hjj
        refine ⟨_, f1, st_slot f2, _, e1, hi.se H0 F0 F H ρ σ _ _ r q fun v d F2 H2 s hv hq => ?_⟩
        have r2 := r.step s
        obtain ⟨a', as', e1', e2', e3', k2, _⟩ := r2.l2 hjj
        cases e1.symm.trans e1'
        split at hq
        · cases hv
          obtain ⟨n, ds, y0, hn, hds, hij, hy0, hz, hq⟩ := hq
          obtain ⟨b, vs, b1, b2, b3, kb⟩ := k2 n ds hds
          obtain ⟨v0, hv0, rv0⟩ := b3.get hy0
          refine .inl ⟨a, _, _, .ref b, rfl, rfl, .inl (.inl e2'), ?_, st_slot b2, b, vs, v0, rfl, rfl, b2, by rw [b3.len]; exact hv0, ?_⟩
          · unfold atI
            rw [List.length_map, e3', hn]
            show (as'.map V.ref)[n]? = _
            rw [List.getElem?_map, b1]
            rfl
          have r4 := kb vs.dropLast ds.dropLast (by rw [List.dropLast_eq_take, List.dropLast_eq_take, b3.len]; exact b3.take _)
          have hii4 : nth (put ρ j (.l2 (dss.set n ds.dropLast))) i = .l1 es := by rw [nth_put_ne hij]; exact hii
          obtain ⟨l4, ws4, g1, g2, g3, kl⟩ := r4.l1 hii4
          cases f1.symm.trans g1
          exact ⟨l, ws4, v0, rfl, rfl, g2, by rw [g3.len]; exact sz_lt hz, g.nx F2 _ _ _ (kl _ _ (g3.append (.one rv0))) hq⟩
        · exact hq.elim
      · exact q.elim
    · exact q.elim⟩
theorem qs_appPop2At {i j : Nat} {x y : Str} {p1 p2 p3 p4 p6 p7 p8 : Pos} {f : Expr} {tf : TE} {dp : DE} (hi : QE false X o to dk) (hf : QE false X f tf dp) (hv : QE false X (.Name x p1) (tVar i) (dVar false i)) (hy : QE false X (.Name y p4) (tVar j) (dVar false j)) (hpx : PlainIx o)
    (hb : attributeBase (.Name x p1) "append" X.env (eval (.Name x p1) X.env) = eval (.Name x p1) X.env := by rfl)
    (hb2 : attributeBase (.Subscript (.Name y p4) o p8) "pop" X.env (eval (.Subscript (.Name y p4) o p8) X.env) = eval (.Subscript (.Name y p4) o p8) X.env := by rfl)
    (hf2 : ((backTo p7 (starEach [f] X.env)).all (fun x => !x.1) && (backToKw p7 (keywordEach [] X.env)).all (fun x => x.1.isSome)
      && decide (([f] : List Expr).length + ([] : List Keyword).length + (if ([] : List Keyword).isEmpty then 0 else 1) < 30)) = true := by rfl)
    (hl2 : (p6.endLine == p7.line) = true := by rfl) (hs2 : starEach [f] X.env = (false, eval f X.env) :: starEach [] X.env := by rfl) (hpl2 : (backTo p7 (starEach [] X.env)).any (·.1) = false := by rfl)
    (hfew : ((backTo p3 (starEach [(.Call (.Attribute (.Subscript (.Name y p4) o p8) "pop" p6) [f] [] p7)] X.env)).all (fun x => !x.1) && (backToKw p3 (keywordEach [] X.env)).all (fun x => x.1.isSome)
      && decide (([(.Call (.Attribute (.Subscript (.Name y p4) o p8) "pop" p6) [f] [] p7)] : List Expr).length + ([] : List Keyword).length + (if ([] : List Keyword).isEmpty then 0 else 1) < 30)) = true := by rfl)
    (hline : (p2.endLine == p3.line) = true := by rfl) (hs : starEach [(.Call (.Attribute (.Subscript (.Name y p4) o p8) "pop" p6) [f] [] p7)] X.env = (false, eval (.Call (.Attribute (.Subscript (.Name y p4) o p8) "pop" p6) [f] [] p7) X.env) :: starEach [] X.env := by rfl) (hpl : (backTo p3 (starEach [] X.env)).any (·.1) = false := by rfl)
    (hsw : swapsWith (.Call (.Attribute (.Name x p1) "append" p2) [(.Call (.Attribute (.Subscript (.Name y p4) o p8) "pop" p6) [f] [] p7)] [] p3) none pos.line X.env = pure false := by rfl) :
    QSt X (.Expr (.Call (.Attribute (.Name x p1) "append" p2) [(.Call (.Attribute (.Subscript (.Name y p4) o p8) "pop" p6) [f] [] p7)] [] p3) pos)
      (tDrop (tBM X.K "list" rAppend (tVar i) (tCons (tBM X.K "list" rPopAt (tOp (rIx X.K) (tVar j) to) (tCons tf tNil)) tNil))) (dAppPop2At i j dk dp) :=
  ⟨ps_expr (pe_bm PySem.F.plainAttrs_list PySem.F.slot_list_append PySem.F.type_list_append mt_append hv.pe (pa_cons (pe_bm PySem.F.plainAttrs_list PySem.F.slot_list_pop PySem.F.type_list_pop mt_popAt (pe_ix ix_seq hy.pe hi.pe hpx) (pa_cons hf.pe pa_nil hs2) hb2 hf2 hl2 hs2 hpl2) pa_nil hs) hb hfew hline hs hpl) hsw, fun H0 F0 F H ρ σ P E r q g => by
    unfold dAppPop2At at q
    split at q
    · rename_i es hii
      split at q
      · rename_i dss hjj
        obtain ⟨l, ws, f1, f2, f3, _⟩ := r.l1 hii
        obtain ⟨a, as, e1, e2, e3, _, _⟩ := r.l2 hjj
        refine ⟨_, f1, st_slot f2, _, e1, hi.se H0 F0 F H ρ σ _ _ r q fun v d F2 H2 s hv hq => ?_⟩
        have r2 := r.step s
        obtain ⟨a', as', e1', e2', e3', k2, _⟩ := r2.l2 hjj
        cases e1.symm.trans e1'
        split at hq
        · cases hv
          obtain ⟨n, ds, hn, hds, hij, hq⟩ := hq
          obtain ⟨b, vs, b1, b2, b3, kb⟩ := k2 n ds hds
          refine .inl ⟨a, _, _, .ref b, rfl, rfl, .inl (.inl e2'), ?_, st_slot b2, hf.se H0 F0 F2 H2 ρ σ _ _ r2 hq fun z dz F3 H3 s3 hz hq => ?_⟩
          · unfold atI
            rw [List.length_map, e3', hn]
            show (as'.map V.ref)[n]? = _
            rw [List.getElem?_map, b1]
            rfl
          split at hq
          · rename_i m
            cases hz
            obtain ⟨q, y0, m0, m1, rfl, hy0, hz, hq⟩ := hq
            have r3 := r2.step s3
            obtain ⟨a3, as3, e13, e23, e33, k3, _⟩ := r3.l2 hjj
            cases e1.symm.trans e13
            obtain ⟨b3', vs3, c1, c2, c3, kb3⟩ := k3 n ds hds
            have ea : as3 = as' := by
              have := s3.hH _ _ e2'
              rw [e23] at this
              exact map_ref_inj (HO.lst.inj (Option.some.inj this))
            subst ea
            rw [b1] at c1
            cases c1
            obtain ⟨v0, hv0, rv0⟩ := c3.get hy0
            refine ⟨b, vs3, m, m.toNat, v0, rfl, rfl, c2, by omega, by omega, ?_, hv0, ?_⟩
            · have hlt := (List.getElem?_eq_some_iff.mp hv0).1
              have z1 : ¬ m < 0 := by omega
              have z2 : m < (vs3.length : Int) := by omega
              simp [seqIndex?, z1, z2, m0]
            have r4 := kb3 _ _ (c3.eraseIdx m.toNat)
            have hii4 : nth (put ρ j (.l2 (dss.set n (ds.eraseIdx m.toNat)))) i = .l1 es := by rw [nth_put_ne hij]; exact hii
            obtain ⟨l4, ws4, g1, g2, g3, kl⟩ := r4.l1 hii4
            cases f1.symm.trans g1
            exact ⟨l, ws4, v0, rfl, rfl, g2, by rw [g3.len]; exact sz_lt hz, g.nx F3 _ _ _ (kl _ _ (g3.append (.one rv0))) hq⟩
          · exact hq.elim
        · exact hq.elim
      · exact q.elim
    · exact q.elim⟩
end
end DL

/-! DL K: xs.index(y) of whole numbers; dicts of lists of one's own; a list that an own call has made -/
namespace DL
open PySem L2
def dIndex (dl : DA) (de : DE) : DE := fun ρ Q => dl ρ fun ds => de ρ fun x => match x with
  | .int k => ∃ (ns : List Int) (j : Nat), ds = ns.map D.int ∧ ns[j]? = some k ∧ (∀ m, m < j → ns[m]? ≠ some k) ∧ Q (.int j)
  | _ => False
section
variable {X : Cx} {pos : Pos} {e f : Expr} {te tf : TE} {de df : DE} {dl : DA} {b : Bool}
theorem repL_ints {K : PySem.W.Frag} {H : Hp} : ∀ {vs : List V} {ns : List Int}, RepL K H vs (ns.map D.int) → vs = ns.map V.int
  | _, [], .nil => rfl
  | _, n :: ns, .cons h1 h2 => by
    cases h1
    rw [repL_ints h2]
    rfl
theorem qe_index {p2 p3 : Pos} (ho : QX false X e te dl) (h : QE false X f tf df)
    (hb : attributeBase e "index" X.env (eval e X.env) = eval e X.env := by rfl)
    (hfew : ((backTo p3 (starEach [f] X.env)).all (fun x => !x.1) && (backToKw p3 (keywordEach [] X.env)).all (fun x => x.1.isSome)
      && decide (([f] : List Expr).length + ([] : List Keyword).length + (if ([] : List Keyword).isEmpty then 0 else 1) < 30)) = true := by rfl)
    (hline : (p2.endLine == p3.line) = true := by rfl) (hs : starEach [f] X.env = (false, eval f X.env) :: starEach [] X.env := by rfl) (hpl : (backTo p3 (starEach [] X.env)).any (·.1) = false := by rfl) {K : PySem.W.Frag} (hK : X.K = K := by rfl) :
    QE b X (.Call (.Attribute e "index" p2) [f] [] p3) (tBM K "list" (rIndex K) te (tCons tf tNil)) (dIndex dl df) := by
  subst hK
  refine ⟨pe_bm PySem.F.plainAttrs_list PySem.F.slot_list_index PySem.F.type_list_index mt_index ho.pe (pa_cons h.pe pa_nil hs) hb hfew hline hs hpl, fun H0 F0 F H ρ σ Q R r q k => ?_⟩
  refine ho.sx H0 F0 F H ρ σ _ _ r q fun a vs ds F2 H2 s hs hr hq => ⟨st_slot hs, h.se H0 F0 F2 H2 ρ σ _ _ (r.step s) hq fun v d F3 H3 s3 hv hq => ?_⟩
  split at hq
  · cases hv
    obtain ⟨ns, j, rfl, h1, h2, hq⟩ := hq
    have ev := repL_ints hr
    subst ev
    refine ⟨a, ns.map V.int, .int _, j, .int _, rfl, rfl, .inl (.inl (s3.hH _ _ hs)), rfl, ?_, by rw [List.getElem?_map, h1]; rfl, by simp [eqV], fun m z hm hz => ?_, k _ _ F3 H3 (s.trans s3) (.int _) hq⟩
    · rw [List.all_eq_true]
      intro x hx
      obtain ⟨n, _, rfl⟩ := List.mem_map.mp hx
      rfl
    · rw [List.getElem?_map] at hz
      cases hn : ns[m]? with
      | none => rw [hn] at hz; cases hz
      | some n =>
        rw [hn] at hz
        cases hz
        have := h2 m hm
        rw [hn] at this
        show (n == _) = false
        rw [beq_eq_false_iff_ne]
        intro z
        exact this (by rw [z])
  · exact hq.elim
end
end DL

/-! DL L: dicts of lists of one's own, changed; a list that an own call has made -/
namespace DL
open PySem L2
section
variable {K : PySem.W.Frag} {F H F' H' : Hp}
theorem OwnD.len : ∀ {kvs : List (Key × V)} {as : List Addr} {m : List (Int × List D)}, OwnD K F H kvs as m → kvs.length = m.length
  | _, _, _, .nil => rfl
  | _, _, _, .cons _ _ h3 => by simp only [List.length_cons, OwnD.len h3]
theorem lookI_pos {α : Type} {k : Int} {d : α} {m : List (Int × α)} : lookI ((k, d) :: m) k = some d := by simp [lookI]
theorem lookI_neg {α : Type} {k j : Int} {d : α} {m : List (Int × α)} (h : k ≠ j) : lookI ((k, d) :: m) j = lookI m j := by simp [lookI, List.find?_cons, h]
theorem OwnD.noKey : ∀ {kvs : List (Key × V)} {as : List Addr} {m : List (Int × List D)} {k : Int}, OwnD K F H kvs as m → lookI m k = none → (kvs.any fun p => decide (p.1 = (.inl k : Key))) = false
  | _, _, _, _, .nil, _ => rfl
  | _, _, _, k, .cons (k := k0) (ds := ds) (m := m) h1 h2 h3, e => by
    by_cases z : k0 = k
    · subst z
      rw [lookI_pos] at e
      cases e
    · rw [lookI_neg z] at e
      rw [List.any_cons, OwnD.noKey h3 e, inl_dec, decide_eq_false z]
      rfl
theorem OwnD.append : ∀ {kvs kus : List (Key × V)} {as bs : List Addr} {m n : List (Int × List D)}, OwnD K F H kvs as m → OwnD K F H kus bs n → OwnD K F H (kvs ++ kus) (as ++ bs) (m ++ n)
  | _, _, _, _, _, _, .nil, g => g
  | _, _, _, _, _, _, .cons h1 h2 h3, g => .cons h1 h2 (OwnD.append h3 g)
/-- keys apart -/
def KeysApart (m : List (Int × List D)) : Prop := (m.map (·.1)).Nodup
theorem putI_at {α : Type} {k : Int} {d : α} : ∀ {m : List (Int × α)}, (lookI m k).isSome → putI m k d = m.map fun p => if p.1 = k then (p.1, d) else p := by
  intro m h
  unfold putI
  rw [if_pos]
  induction m with
  | nil => cases h
  | cons p m ih =>
    obtain ⟨k0, d0⟩ := p
    by_cases z : k0 = k
    · simp [z]
    · rw [lookI_neg z] at h
      rw [List.any_cons, ih h, Bool.or_true]
/-- the first list under a key, by its address; keys apart -/
theorem OwnD.at : ∀ {kvs : List (Key × V)} {as : List Addr} {m : List (Int × List D)} {k : Int} {ds : List D}, OwnD K F H kvs as m → KeysApart m → lookI m k = some ds → as.Nodup →
    ∃ b vs, valV kvs (.inl k : Key) = some (.ref b) ∧ b ∈ as ∧ H b = some (.lst vs) ∧ RepL K F vs ds ∧ ∀ vs' ds', RepL K F vs' ds' → OwnD K F (upd H b (.lst vs')) kvs as (m.map fun p => if p.1 = k then (p.1, ds') else p)
  | _, _, _, _, _, .nil, _, e, _ => by cases e
  | _, _, _, k, ds, .cons (k := k0) (a := a) (vs := vs) (ds := ds0) (kvs := kvs) (as := as) (m := m) h1 h2 h3, ka, e, n => by
    obtain ⟨n1, n2⟩ := List.nodup_cons.mp n
    have ka' : k0 ∉ m.map (·.1) ∧ (m.map (·.1)).Nodup := List.nodup_cons.mp ka
    by_cases z : k0 = k
    · subst z
      rw [lookI_pos] at e
      cases e
      refine ⟨a, vs, by simp [valV], List.mem_cons_self .., h1, h2, fun vs' ds' h' => ?_⟩
      have rest : (m.map fun p => if p.1 = k0 then (p.1, ds') else p) = m := by
        have : ∀ p ∈ m, (if p.1 = k0 then (p.1, ds') else p) = p := fun p hp => if_neg fun (z : p.1 = k0) => ka'.1 (List.mem_map.mpr ⟨p, hp, z⟩)
        rw [List.map_congr_left this, List.map_id']
      rw [List.map_cons, if_pos rfl, rest]
      refine .cons upd_same h' (h3.keep (Ex.refl F) fun b hb x e => ?_)
      rw [upd_ne (ne_mem hb n1)]
      exact e
    · rw [lookI_neg z] at e
      obtain ⟨b, vs2, g1, g2, g3, g4, g5⟩ := OwnD.at h3 ka'.2 e n2
      refine ⟨b, vs2, ?_, List.mem_cons_of_mem _ g2, g3, g4, fun vs' ds' h' => ?_⟩
      · rw [← g1]
        simp [valV, List.find?_cons, z]
      · rw [List.map_cons, if_neg z]
        refine .cons ?_ h2 (g5 vs' ds' h')
        rw [upd_ne (ne_mem g2 n1).symm]
        exact h1
end
section
variable {K : PySem.W.Frag} {H0 F0 F H : Hp} {ρ : Env} {σ : St}
theorem OwnD.dom : ∀ {kvs : List (Key × V)} {as : List Addr} {m : List (Int × List D)}, OwnD K F H kvs as m → ∀ c ∈ as, H c ≠ none
  | _, _, _, .nil, c, h => by cases h
  | _, _, _, .cons h1 _ h3, c, h => by
    rcases List.mem_cons.mp h with rfl | h
    · rw [h1]; simp
    · exact OwnD.dom h3 c h
theorem Rel.dl (r : Rel K H0 F0 F H ρ σ) {i : Nat} {m : List (Int × List D)} (h : nth ρ i = .dl m) : ∃ a kvs, σ[i]? = some (some (.ref a)) ∧ H a = some (.dK kvs) ∧ kvs.length = m.length ∧
    (∀ k ds, KeysApart m → lookI m k = some ds → ∃ b vs, valV kvs (.inl k : Key) = some (.ref b) ∧ H b = some (.lst vs) ∧ RepL K F vs ds ∧ ∀ vs' ds', RepL K F vs' ds' → Rel K H0 F0 F (upd H b (.lst vs')) (put ρ i (.dl (putI m k ds'))) σ) ∧
    (∀ p k, H p = none → lookI m k = none → Rel K H0 F0 F (upd (upd H p (.lst [])) a (.dK (putK kvs (.inl k : Key) (.ref p)))) (put ρ i (.dl (m ++ [(k, [])]))) σ) := by
  obtain ⟨v, o, e1, e2, n, ho, k⟩ := r.mutate i (by rw [h]; exact Sl.noConfusion)
  rw [h] at e2
  cases e2 with
  | @dl a kvs as _ h1 h2 =>
    obtain ⟨n1, n2⟩ := List.nodup_cons.mp n
    refine ⟨a, kvs, e1, h1, h2.len, fun j ds ka hj => ?_, fun p j hp hj => ?_⟩
    · obtain ⟨b, vs, g1, g2, g3, g4, g5⟩ := h2.at ka hj n2
      refine ⟨b, vs, g1, g3, g4, fun vs' ds' h' => ?_⟩
      have q := ho b (List.mem_cons_of_mem _ g2)
      have ab : a ≠ b := (ne_mem g2 n1).symm
      rw [putI_at (by rw [hj]; rfl)]
      refine k F _ _ (a :: as) (Ex.refl F) (Ex.mut r.fh q.1) (Ex.mut r.h0 q.2) r.nw (fun c hc x e => ?_) (.dl (by rw [upd_ne ab]; exact h1) (g5 vs' ds' h')) n (fun b hb => ⟨(ho b hb).1, (ho b hb).2, .inl hb⟩) (fun b _ n => .inl n)
      rw [upd_ne (ne_mem (List.mem_cons_of_mem a g2) hc).symm]
      exact e
    · have q := ho a (List.mem_cons_self ..)
      have pa : p ≠ a := fun z => by rw [z, h1] at hp; cases hp
      have hF : F p = none := r.fh.back hp
      have keep : ∀ (o : HO) c, c ≠ a → ∀ x, H c = some x → upd (upd H p (.lst [])) a o c = some x := fun o c hc x e => by
        rw [upd_ne hc, upd_ne (ne_of_none e hp)]
        exact e
      have e3 : putK kvs (.inl j : Key) (.ref p) = kvs ++ [(.inl j, .ref p)] := by
        unfold putK
        rw [h2.noKey hj]
        rfl
      rw [e3]
      refine k F _ _ (a :: (as ++ [p])) (Ex.refl F) (Ex.mut (r.fh.trans (Ex.new hp)) q.1) (Ex.mut (r.h0.trans (Ex.new hp)) q.2) r.nw (fun c hc x e => keep _ c (ne_mem (List.mem_cons_self ..) hc).symm x e)
        (.dl upd_same (OwnD.append (h2.keep (Ex.refl F) fun c hc x e => keep _ c (ne_mem hc n1) x e) (.cons (by rw [upd_ne pa, upd_same]) .nil .nil))) ?_ (fun b hb => ?_) (fun b _ n => .inl n)
      · have dom : ∀ c ∈ a :: as, c ≠ p := fun c hc z => by
          subst z
          rcases List.mem_cons.mp hc with rfl | hc
          · exact pa rfl
          · exact h2.dom c hc hp
        rw [← List.cons_append, List.nodup_append]
        refine ⟨n, by simp, fun c hc d hd => ?_⟩
        rw [List.mem_singleton.mp hd]
        exact dom c hc
      · rw [← List.cons_append] at hb
        rcases List.mem_append.mp hb with hb | hb
        · exact ⟨(ho b hb).1, (ho b hb).2, .inl hb⟩
        · rw [List.mem_singleton.mp hb]
          exact ⟨hF, r.h0.back hp, .inr hp⟩
end
def dAppK (i : Nat) (dk de : DE) : DS := fun P ρ => match nth ρ i with
  | .dl m => dk ρ fun x => match x with
    | .int k => ∃ ds, lookI m k = some ds ∧ KeysApart m ∧ de ρ fun d => ds.length < 1000000 ∧ P.nx (put ρ i (.dl (putI m k (ds ++ [d]))))
    | _ => False
  | _ => False
section
variable {X : Cx} {pos : Pos} {e f : Expr} {te tf : TE} {de df : DE} {b : Bool}
theorem qs_putNil {i j : Nat} {x y : Str} {p1 p2 p4 p5 : Pos} (hu : X.A.units + 1 < cLine) (hi : QE false X (.Name y p5) (tVar j) (dVar false j)) (hv : QE false X (.Name x p1) (tVar i) (dVar false i)) (hs : swapsWith (.List [] p4) (some (.Subscript (.Name x p1) (.Name y p5) p2)) pos.line X.env = pure false := by rfl) :
    QSt X (.Assign [.Subscript (.Name x p1) (.Name y p5) p2] (.List [] p4) pos) (sDPut (tVar i) (tVar j) (tLst tNil)) (dPutNil i (dVar false j)) := ⟨ps_dput hu hv.pe hi.pe (pe_lst pa_nil) hs, fun H0 F0 F H ρ σ P E r q g => ⟨Nat.zero_le _, fun p hp => by
    unfold dPutNil at q
    split at q
    · rename_i m hii
      obtain ⟨a, kvs, e1, e2, e3, _, k⟩ := r.dl hii
      have hk : tVar j σ H (fun v _ => ∃ k, v = .int k ∧ m.length < 1000000 ∧ lookI m k = none ∧ P.nx (put ρ i (.dl (m ++ [(k, [])])))) := hi.se H0 F0 F H ρ σ _ _ r q fun v d F2 H2 s hv hq => by
        split at hq
        · cases hv
          exact ⟨_, rfl, hq⟩
        · exact hq.elim
      obtain ⟨v, f1, key, rfl, hq⟩ := hk
      exact ⟨_, e1, _, f1, a, _, rfl, DPut.k (k := .inl _) (by rw [upd_ne (ne_of_none e2 hp)]; exact e2) (by rw [e3]; exact sz_lt hq.1), g.nx F _ _ _ (k p key hp hq.2.1) hq.2.2⟩
    · exact q.elim⟩⟩
/-- d[k].append(e), d a dict of lists of one's own -/
theorem qs_appK {i : Nat} {x : Str} {o : Expr} {to : TE} {dk : DE} {p1 p2 p3 p5 : Pos} (hu : X.A.units + 1 < cLine) (h : QE true X e te de) (hi : QE false X o to dk) (hv : QE false X (.Name x p1) (tVar i) (dVar false i)) (hpx : NoSl o)
    (hb : attributeBase (.Subscript (.Name x p1) o p5) "append" X.env (eval (.Subscript (.Name x p1) o p5) X.env) = eval (.Subscript (.Name x p1) o p5) X.env := by rfl)
    (hfew : ((backTo p3 (starEach [e] X.env)).all (fun x => !x.1) && (backToKw p3 (keywordEach [] X.env)).all (fun x => x.1.isSome)
      && decide (([e] : List Expr).length + ([] : List Keyword).length + (if ([] : List Keyword).isEmpty then 0 else 1) < 30)) = true := by rfl)
    (hline : (p2.endLine == p3.line) = true := by rfl) (hs : starEach [e] X.env = (false, eval e X.env) :: starEach [] X.env := by rfl) (hpl : (backTo p3 (starEach [] X.env)).any (·.1) = false := by rfl)
    (hsw : swapsWith (.Call (.Attribute (.Subscript (.Name x p1) o p5) "append" p2) [e] [] p3) none pos.line X.env = pure false := by rfl) :
    QSt X (.Expr (.Call (.Attribute (.Subscript (.Name x p1) o p5) "append" p2) [e] [] p3) pos) (tDrop (tBM X.K "list" rAppend (tDGet (tVar i) to) (tCons te tNil))) (dAppK i dk de) :=
  ⟨ps_expr (pe_bm PySem.F.plainAttrs_list PySem.F.slot_list_append PySem.F.type_list_append mt_append (pe_dget hu hv.pe hi.pe hpx) (pa_cons h.pe pa_nil hs) hb hfew hline hs hpl) hsw, fun H0 F0 F H ρ σ P E r q g => by
    unfold dAppK at q
    split at q
    · rename_i m hii
      obtain ⟨a, kvs, e1, e2, e3, _, _⟩ := r.dl hii
      refine ⟨_, e1, hi.se H0 F0 F H ρ σ _ _ r q fun v d F2 H2 s hv hq => ?_⟩
      have r2 := r.step s
      obtain ⟨a', kvs', e1', e2', e3', k2, _⟩ := r2.dl hii
      cases e1.symm.trans e1'
      split at hq
      · cases hv
        obtain ⟨ds, hds, ka, hq⟩ := hq
        obtain ⟨b, vs, b1, b2, b3, _⟩ := k2 _ ds ka hds
        refine ⟨a, .ref b, rfl, .inl ⟨kvs', .inl _, .inl e2', rfl, b1.symm⟩, st_slot b2, h.se H0 F0 F2 H2 ρ σ _ _ r2 hq fun w dw F3 H3 s3 hw hq => ?_⟩
        have r3 := r2.step s3
        obtain ⟨a'', kvs'', e1'', e2'', e3'', k3, _⟩ := r3.dl hii
        cases e1.symm.trans e1''
        have ek : kvs'' = kvs' := by
          have := s3.hH _ _ e2'
          rw [e2''] at this
          exact (HO.dK.inj (Option.some.inj this))
        obtain ⟨b', vs', b1', b2', b3', k4⟩ := k3 _ ds ka hds
        rw [ek, b1] at b1'
        cases b1'
        exact ⟨b, vs', w, rfl, rfl, b2', by rw [b3'.len]; exact sz_lt hq.1, g.nx F3 _ _ _ (k4 _ _ (b3'.append (.one hw))) hq.2⟩
      · exact hq.elim
    · exact q.elim⟩
end
/-! ### a new list of whole numbers, made by an own call whose arguments are whole numbers and dicts of such -/
def FlatArg : D → Prop
  | .int _ => True
  | .dct m => ∃ n : List (Int × Int), m = n.map fun p => (p.1, D.int p.2)
  | _ => False
def dCallL (sp : DSp) (da : DA) : DA := fun ρ Q => da ρ fun xs => (∀ x ∈ xs, FlatArg x) ∧ sp xs fun d => match d with
  | .lst ds => (∃ ns : List Int, ds = ns.map D.int) ∧ Q ds
  | _ => False
def dicts (H : Hp) : Hp := fun a => match H a with
  | some (.dK kvs) => some (.dK kvs)
  | _ => none
theorem dicts_ex (H : Hp) : Ex (dicts H) H := fun a x h => by
  unfold dicts at h
  split at h
  · rename_i kvs e
    rw [e]
    exact h
  · cases h
theorem repD_flat {K : PySem.W.Frag} {H H' : Hp} : ∀ {n : List (Int × Int)} {kvs : List (Key × V)}, RepD K H kvs (n.map fun p => (p.1, D.int p.2)) → RepD K H' kvs (n.map fun p => (p.1, D.int p.2))
  | [], _, h => by cases h; exact .nil
  | p :: n, _, h => by
    cases h with
    | cons h1 h2 =>
      cases h1
      exact .cons (.int _) (repD_flat h2)
theorem repL_dicts {K : PySem.W.Frag} {H : Hp} : ∀ {vs : List V} {ds : List D}, RepL K H vs ds → (∀ x ∈ ds, FlatArg x) → RepL K (dicts H) vs ds
  | _, _, .nil, _ => .nil
  | _, _, .cons (d := d) h1 h2, h => by
    refine .cons ?_ (repL_dicts h2 fun x hx => h x (List.mem_cons_of_mem _ hx))
    have := h d (List.mem_cons_self ..)
    cases h1 with
    | int => exact .int _
    | dct e r =>
      obtain ⟨n, rfl⟩ := this
      refine .dct ?_ (repD_flat r)
      unfold dicts
      rw [e]
    | _ => exact this.elim
theorem sl_call {ta : TA} {da : DA} {K : PySem.W.Frag} {sp : DSp} {E : XK} (h : SA true K ta da) : SL K (tCall (liftSp K sp) [] E ta) (dCallL sp da) := fun H0 F0 F H ρ σ Q R r q k =>
  h H0 F0 F H ρ σ _ _ r q fun vs ds F2 H2 s hv hq => by
    show liftSp K sp (vs ++ []) H2 R E
    rw [List.append_nil]
    refine ⟨dicts H2, ds, _, dicts_ex H2, repL_dicts (hv.up s.fh) hq.1, hq.2, fun d v F3 H3 hq s3 hr => ?_⟩
    split at hq
    · cases hr with
      | @lst a vs' _ e1 e2 =>
        obtain ⟨⟨ns, rfl⟩, hq⟩ := hq
        have hn : H2 a = none := s3.nw a (by
          cases z : dicts H2 a with
          | none => rfl
          | some o =>
            have := s3.fF a o z
            rw [e1] at this
            cases this
            unfold dicts at z
            split at z
            · cases z
            · cases z) (by rw [e1]; simp)
        have st : Stp F H F2 H3 := s.trans (Stp.grow s.fh s3.hH)
        have rl : RepL K F2 vs' (ns.map D.int) := by
          have ev := repL_ints e2
          subst ev
          have : ∀ ns : List Int, RepL K F2 (ns.map V.int) (ns.map D.int) := fun ns => by
            induction ns with
            | nil => exact .nil
            | cons n ns ih => exact .cons (.int _) ih
          exact this ns
        exact k a vs' _ F2 H3 st (s.hH.back hn) (s.fh.back hn) (s3.fh _ _ e1) rl hq
    · exact hq.elim
section
variable {X : Cx} {pos : Pos} {e : Expr}
theorem ql_call {k : Nat} {fa : Addr} {fd : FuncData} {ps : List Str} {sp : DSp} {x : Str} {p : Pos} {es : List Expr} {ta : TA} {da : DA} (G : FnOk X.prog X.w X.K X.mg X.base CX0 k fa fd ps (liftSp X.K sp)) (hr : Room k X.A) (hm : X.mg x = some (.ref fa)) (hk : PySem.W.keepIn X.K (.ref fa) = true) (hb : Binds X.K fd ps [])
    (h : QA true X (e :: es) ta da) (hg : Gl X x := by rfl) (hdb : (x == ("__debug__" : Str)) = false := by decide) (he : starEach (e :: es) X.env = (false, eval e X.env) :: starEach es X.env := by rfl) (hpl : (backTo pos (starEach es X.env)).any (·.1) = false := by rfl)  {K : PySem.W.Frag} (hK : X.K = K := by rfl) :
    QL X (.Call (.Name x p) (e :: es) [] pos) (tCall (liftSp K sp) [] E0 ta) (dCallL sp da) := by
  subst hK
  exact ⟨pe_call G hr hg hm hk hb .nil pass0 h.pa hdb he hpl, sl_call h.sa⟩
end
end DL

/-! DL M: texts: put together, of a number, joined; int of a truth value -/
namespace DL
open PySem L2
def oAddS : DR2 := fun x y Q => match x, y with
  | .str a, .str b => a.length + b.length ≤ 1000000 ∧ Q (.str (a ++ b))
  | _, _ => False
def rAddT : R2 := fun x y H Q => ∃ i j, x = .str i ∧ y = .str j ∧ i.length + j.length ≤ sizeLine ∧ Q (.str (i ++ j)) H
def dStrI (de : DE) : DE := fun ρ Q => de ρ fun x => match x with
  | .int i => (-(2 ^ 62) ≤ i ∧ i < 2 ^ 62) ∧ Q (.str (Str.ofString (toString i)))
  | _ => False
def dIntB (de : DE) : DE := fun ρ Q => de ρ fun x => match x with
  | .bl k => Q (.int (if k then 1 else 0))
  | _ => False
def dJoinS (de : DE) (dl : DA) : DE := fun ρ Q => de ρ fun x => match x with
  | .str a => dl ρ fun ds => ∃ ys : List Str, ds = ys.map D.str ∧ (ys.map (·.length)).sum + ys.length * a.length ≤ 1000000 ∧ Q (.str (Txt.join a ys))
  | _ => False
section
variable {X : Cx} {pos : Pos} {e f : Expr} {te tf : TE} {de df : DE} {dl : DA} {b c : Bool}
theorem r2_addS {K : PySem.W.Frag} : R2D c b K rAddT oAddS := fun F H x y d e Q R ef hx hy q k => by
  unfold oAddS at q
  split at q
  · cases hx
    cases hy
    exact ⟨_, _, rfl, rfl, sz_ok q.1, k _ _ F H (Stp.refl ef) (.str _) q.2⟩
  · exact q.elim
theorem qe_addS (ha : QE false X e te de) (hb : QE false X f tf df) : QE b X (.BinOp e .Add f pos) (tOp rAddT te tf) (dOp oAddS de df) := ⟨pe_op op_add_str ha.pe hb.pe, se_op r2_addS ha.se hb.se⟩
theorem repL_strs {K : PySem.W.Frag} {H : Hp} : ∀ {vs : List V} {ys : List Str}, RepL K H vs (ys.map D.str) → vs = ys.map V.str
  | _, [], .nil => rfl
  | _, y :: ys, .cons h1 h2 => by
    cases h1
    rw [repL_strs h2]
    rfl
theorem qe_strI {x : Expr} {p : Pos} (h : QE false X x te de) (hm : X.mg "str" = none) (hg : Gl X "str" := by rfl) (hv : bootBuiltins "str" = some (.type "str") := by decide +kernel) (he : starEach [x] X.env = (false, eval x X.env) :: starEach [] X.env := by rfl) :
    QE b X (.Call (.Name "str" p) [x] [] pos) (tCB (fun xs H Q => ∃ i, xs = [.int i] ∧ i.natAbs.log2 < 1920 ∧ Q (.str (toString i)) H) (tCons te tNil)) (dStrI de) := ⟨pe_callTy call_str_int hg hm hv (pa_cons h.pe pa_nil he) (by decide) (by decide) he, fun H0 F0 F H ρ σ Q R r q k =>
  h.se H0 F0 F H ρ σ _ _ r q fun v d F2 H2 s hv hq => by
    split at hq
    · cases hv
      rename_i i
      refine ⟨i, rfl, ?_, k _ _ F2 H2 s (.str _) hq.2⟩
      have : i.natAbs < 2 ^ 63 := by omega
      by_cases z : i.natAbs = 0
      · rw [z]; decide
      · have := (Nat.log2_lt z).mpr this
        omega
    · exact hq.elim⟩
theorem qe_intB {x : Expr} {p : Pos} (h : QE false X x te de) (hm : X.mg "int" = none) (hg : Gl X "int" := by rfl) (hv : bootBuiltins "int" = some (.type "int") := by decide +kernel) (he : starEach [x] X.env = (false, eval x X.env) :: starEach [] X.env := by rfl) :
    QE b X (.Call (.Name "int" p) [x] [] pos) (tCB (fun xs H Q => (∃ i, xs = [.int i] ∧ Q (.int i) H) ∨ ∃ k, xs = [.bl k] ∧ Q (.int (if k then 1 else 0)) H) (tCons te tNil)) (dIntB de) := ⟨pe_callTy call_int1 hg hm hv (pa_cons h.pe pa_nil he) (by decide) (by decide) he, fun H0 F0 F H ρ σ Q R r q k =>
  h.se H0 F0 F H ρ σ _ _ r q fun v d F2 H2 s hv hq => by
    split at hq
    · cases hv
      exact .inr ⟨_, rfl, k _ _ F2 H2 s (.int _) hq⟩
    · exact hq.elim⟩
theorem qe_join {o x : Expr} {to : TE} {dO : DE} {apos : Pos} (ho : QE false X o to dO) (h : QS false X x te dl) (hs : starEach [x] X.env = [(false, eval x X.env)] := by rfl) (hbase : attributeBase o "join" X.env (eval o X.env) = eval o X.env := by rfl) (hline : (apos.endLine == pos.line) = true := by rfl) :
    QE b X (.Call (.Attribute o "join" apos) [x] [] pos) (tM1 (fun x xs H Q => ∃ a p, ∃ ys : List Str, x = .str a ∧ xs = [.ref p] ∧ (SqL X.K H p (ys.map V.str) ∨ SqT X.K H p (ys.map V.str)) ∧
      (ys.map (·.length)).sum + ys.length * a.length ≤ 16777216 ∧ Q (.str (Txt.join a ys)) H) to te) (dJoinS dO dl) := ⟨pe_join ho.pe h.pe hs hbase hline, fun H0 F0 F H ρ σ Q R r q k =>
  ho.se H0 F0 F H ρ σ _ _ r q fun v d F2 H2 s hv hq => by
    split at hq
    · cases hv
      refine ⟨⟨_, rfl⟩, h.ss H0 F0 F2 H2 ρ σ _ _ (r.step s) hq fun a vs ds F3 H3 s3 hs hr hq => ?_⟩
      obtain ⟨ys, rfl, hz, hq⟩ := hq
      obtain rfl := repL_strs hr
      exact ⟨_, a, ys, rfl, rfl, .inl hs, by omega, k _ _ F3 H3 (s.trans s3) (.str _) hq⟩
    · exact hq.elim⟩
end
end DL

/-! DL X: a comprehension whose element, a call, may raise -/
namespace DL
open PySem L2
/-- the block's context: a raise is noted by the def's frame and goes on -/
abbrev blkX (X : Cx) (s : Shared) (H : Hp) (scope : Scope) (ce : PySem.Env) (fp : List Addr) : Cx := { X.blk s H scope ce fp with xe := notedBy (model X.prog X.w) X.A ce (CompFails (model X.prog X.w) X.A X.xe ce) }
section
variable {X : Cx} {pins : List (Addr × Obj)} {σ : St} {H : Hp} {s s' : Shared} {E : XK}
/-- a call's exception in our air, in flight -/
theorem xe_flight (I : Inv X pins σ H s) {u : Value} (c : L2.CX X.prog X.w X.stack H s E u s') :
    ∃ (a : Addr) (B : Heap) (sI : Shared) (Hb : Hp) (cls : Value) (d : Option Addr), u = .ref a ∧ Inv X pins σ Hb sI ∧ (∀ b o, sI.heap.get? b = some o → b ∉ frs X.stack → B.get? b = some o) ∧ sI.heap.UpToSlots s'.heap ∧
      HandSPX.FlyingZ B X.stack a (Zc cls d) s'.heap ∧ Hb a = none ∧ s'.os = sI.os ∧ PyProof.Rows.AllBare s'.gens ∧ E cls d Hb := by
  obtain ⟨a, B, H', cls, d, rfl, fl, hok, ub, na, os, ag, hE⟩ := c
  obtain ⟨G, g1, g2⟩ := restrict s'.heap fun b => (B.get? b).isSome || decide (b ∈ frs X.stack)
  have st : B.StaysIn s'.heap := fl.1
  have gB : ∀ b o, B.get? b = some o → G.get? b = some o := fun b o e => by
    rw [g1 b (by simp [e])]
    exact st b o e
  have gF : ∀ b, b ∈ frs X.stack → G.get? b = s'.heap.get? b := fun b hb => g1 b (by simp [hb])
  have og : ∀ b o, G.get? b = some o → s'.heap.get? b = some o ∧ ((B.get? b).isSome = true ∨ b ∈ frs X.stack) := fun b o e => by
    cases q : ((B.get? b).isSome || decide (b ∈ frs X.stack)) with
    | false => rw [g2 b q] at e; cases e
    | true =>
      rw [g1 b q] at e
      exact ⟨e, by simpa [Bool.or_eq_true] using q⟩
  refine ⟨a, B, { s with heap := G, gens := s'.gens, drawn := s'.drawn, toks := s'.toks }, H', cls, d, rfl, ?_, fun b o e hb => ?_, Heap.UpToSlots.of_keeps fun b o e => (og b o e).1, fl, na, os, ag, hE⟩
  · refine I.call (ch := []) ⟨fun b o e n hb _ => gB b o (ub.keep b o e n hb), fun b o e n hb _ => ?_, fun b o e n _ => ub.free b o e n, fun b o e _ => ?_, ub.tups, ub.frzs, ub.tbls⟩ (hok.kept gB) ag (fun _ z => nomatch z)
    · obtain ⟨sl, q⟩ := ub.slot b o e hb
      exact ⟨sl, by rw [gF b hb]; exact q⟩
    · by_cases hb : b ∈ frs X.stack
      · obtain ⟨sl, q⟩ := ub.slot b o e hb
        exact ⟨_, by rw [gF b hb]; exact q⟩
      · obtain ⟨o', q⟩ := ub.there b o e hb
        exact ⟨o', gB b o' q⟩
  · obtain ⟨e', h⟩ := og b o e
    rcases h with h | h
    · obtain ⟨o', q⟩ := Option.isSome_iff_exists.mp h
      have z := st b o' q
      rw [e'] at z; cases z
      exact q
    · exact absurd h hb
end
section
variable {X : Cx} {pins pins' : List (Addr × Obj)} {σ σ' : St} {H3 H' : Hp} {s3 s' s'' : Shared} {E : XK} {scope : Scope} {fp : List Addr} {ce : PySem.Env}
theorem lcx_pass (hs : X.stack = X.env :: X.outer) (hf : X.env.frame = some X.env.locals) (tk : Takes X (fun cls d _ H => E cls d H)) (I3 : Inv X pins σ H3 s3) (cL : ce.locals = s3.heap.objs.size) (cF : ce.frame = X.env.frame) (f3 : ∀ b ∈ fp, FpOk X pins H3 b)
    {u : Value} (I : Inv (blkX X s3 H3 scope ce fp) pins' σ' H' s') (c : L2.CX X.prog X.w X.stack H' s' E u s'') : (blkX X s3 H3 scope ce fp).xe u s'' := by
  obtain ⟨a, B, sI, Hb, cls, d, rfl, J, nb, up, fl, na, os, ag, hE⟩ := xe_flight I c
  have J : Inv (blkX X s3 H3 scope ce fp) pins' σ' Hb sI := J
  have nb : ∀ b o, sI.heap.get? b = some o → b ∉ frs X.stack → B.get? b = some o := nb
  have fl : HandSPX.FlyingZ B X.stack a (Zc cls d) s''.heap := fl
  have hfr : X.A.frames = some (X.env :: X.outer) := by rw [I3.ok.frames, hs]
  obtain ⟨C, hC⟩ : ∃ C, ce.locals = C := ⟨_, rfl⟩
  have nC : Hb C = none := by rw [← hC]; exact J.free
  have fC : FpOk X pins Hb C := I3.fpOk (by rw [← hC, cL]; exact Nat.le_refl _) nC
  have frlt : ∀ b ∈ frs X.stack, b ≠ C := fun b hb z => by
    obtain ⟨_, o, e, _⟩ := I3.stack.mem hb
    have := Heap.lt_size e
    rw [z, ← hC, cL] at this
    exact Nat.lt_irrefl _ this
  obtain ⟨m, hnI, _⟩ := J.loc
  have hnI : sI.heap.Ns C m := by rw [← hC]; exact hnI
  -- the ground without the block
  obtain ⟨B', hB'⟩ : ∃ B', B' = PySem.W.hideAll B [C] := ⟨_, rfl⟩
  have bOf : ∀ b o, B'.get? b = some o → B.get? b = some o := fun b o e => by
    rw [hB'] at e
    exact PySem.W.of_hideAll _ e
  have bGet : ∀ b o, B.get? b = some o → b ≠ C → B'.get? b = some o := fun b o e n => by
    rw [hB']
    exact PySem.W.hideAll_get _ e (by simpa using n)
  have bC : B'.get? C = none := by
    rw [hB']
    exact PySem.W.hideAll_none _ (by simp)
  have bNone : ∀ b, B.get? b = none → B'.get? b = none := fun b e => by
    cases q : B'.get? b with
    | none => rfl
    | some o =>
      have := bOf b o q
      rw [e] at this
      cases this
  have fl' : HandSPX.FlyingZ B' (X.env :: X.outer) a (Zc cls d) s''.heap := by
    obtain ⟨g1, g2, g3, oe, vs, T, oT, ts, he, hz, hd, h1, hnT, r⟩ := fl
    rw [hs] at g3
    exact ⟨fun b o e => g1 b o (bOf b o e), bNone _ g2, funFrames_none g3 (fun L hL => bNone _ (g3.mem hL).1), oe, vs, T, oT, ts, he, hz, hd, h1, bNone _ hnT, r⟩
  show wpAny _ _ (noteFrame (.ref a) ce) _ _ _
  rw [noteFrame_env _ cF]
  refine HandSPX.looks_onZ Zc.steady hfr hf fl' fun h1 hh up1 => ?_
  have hn1 : h1.Ns C m := (up.trans up1).ns hnI
  refine ⟨m, by rw [hC]; exact hn1, fun h2 m2 hn2 sb => ?_⟩
  rw [hC] at hn2 sb
  have hh2 : HandSPX.HeldZ B' (X.env :: X.outer) a (Zc cls d) X.env.locals h2 := by
    obtain ⟨g1, g2, g3, oe, vs, T, oT, ts, he, hz, hd, h1', hnT, hTe, hT, hdT, h3'⟩ := hh
    have dC : ∀ b o vs, h1.get? b = some o → o.data = .fields vs → b ≠ C := fun b o vs e e2 z => by
      obtain ⟨oL, es, ep, q1, q2, _⟩ := hn1
      rw [z, q1] at e
      cases e
      rw [q2] at e2
      cases e2
    refine ⟨fun b o e => (sb.2 b fun z => by rw [z, bC] at e; cases e).trans (g1 b o e), g2, Heap.FunFrames.sameBut sb hn2 g3, oe, vs, T, oT, ts, (sb.2 a (dC a _ _ he hd)).trans he, hz, hd, h1', hnT, hTe, (sb.2 T (dC T _ _ hT hdT)).trans hT, hdT, h3'⟩
  obtain ⟨oe, vs, T, oT, ts, he, hz, hd, h1', hnT, hTe, hT, hdT, h3'⟩ := id hh2.2.2.2
  unfold passOn
  refine wpAny_bind (wpAny_field he hd h1' ?_)
  rw [if_neg (show ¬ ((Value.ref T == Value.none) = true) from by simp)]
  have fin : wpAny (model X.prog X.w) X.A (setFlight (.ref a) ce.frame) (fun _ s4 => wpAny (model X.prog X.w) X.A (throw (.ref a) : Sem Value) (fun _ _ => False) X.xe s4) X.xe { s'' with heap := h2 } := by
    rw [cF, hf]
    refine HandSPX.setFlight_onZ hh2 fun h3 hh3 up3 => wpAny_throw (tk _ _ ?_)
    -- the state without the exception, the block let go
    have J2 : Inv X pins σ Hb sI := I3.call' (ch := fp) J.os J.base J.hok J.bare fun b hb => ⟨(f3 b hb).2.2.2.1, (f3 b hb).2.1, (f3 b hb).2.2.2.2.1, (f3 b hb).2.2.2.2.2⟩
    have J3 : Inv X pins σ Hb { sI with heap := PySem.W.hideAll sI.heap [C] } := J2.turned (t' := sI.toks) (it := C) (fun b o n e => PySem.W.hideAll_get _ e (by simpa using n)) nC fC.2.1 fC.2.2.2.1 fC.2.2.2.2.1 fC.2.2.2.2.2
    have iOf : ∀ b o, (PySem.W.hideAll sI.heap [C]).get? b = some o → sI.heap.get? b = some o ∧ b ≠ C := fun b o e => ⟨PySem.W.of_hideAll _ e, fun z => by
      rw [z, PySem.W.hideAll_none _ (by simp)] at e
      cases e⟩
    refine ⟨a, B', { sI with heap := PySem.W.hideAll sI.heap [C] }, pins, σ, Hb, cls, d, rfl, J3, fun b o e hb => ?_, fun b o e hnf => ?_, .inr (.inr (by rw [hs]; exact hh3)), na, os, ag, hE⟩
    · obtain ⟨e1, n⟩ := iOf b o e
      exact bGet b o (nb b o e1 hb) n
    · obtain ⟨e1, n⟩ := iOf b o e
      obtain ⟨sl, q1⟩ := (up.trans up1) b o e1 hnf
      exact up3 b { o with slots := sl } ((sb.2 b n).trans q1) hnf |>.imp fun sl' q => q
  first
    | exact wpAny_bind (wpAny_pure (wpAny_bind fin))
    | exact wpAny_bind fin
end
section
variable {X : Cx} {E : XK}
/-- [elt for target in iter], the element may raise E -/
theorem pe_lcX {elt tg iter : Expr} {scope : Scope} {own : List (Str × Nat)} {pos : Pos} {wi : TI} {g : TG} {te : TE} (hs : X.stack = X.env :: X.outer) (hf : X.env.frame = some X.env.locals) (tk : Takes X (fun cls d _ H => E cls d H))
    (hc : X.calm = true) (hN : X.N.Nodup) (hi : PI X tg iter wi) (ok : BlkOk X.N X.env.scope scope own)
    (hg : ∀ (s : Shared) (H : Hp) (C : Addr) (cl : List (Str × Addr)) (fp : List Addr), PG (X.blk s H scope (compEnvC scope cl C X.env) fp) tg g)
    (he : ∀ (s : Shared) (H : Hp) (C : Addr) (cl : List (Str × Addr)) (fp : List Addr), (∀ pins' σ' H' s' u s'', L2.Inv (blkX X s H scope (compEnvC scope cl C X.env) fp) pins' σ' H' s' → L2.CX X.prog X.w X.stack H' s' E u s'' → (blkX X s H scope (compEnvC scope cl C X.env) fp).xe u s'') →
      PE (blkX X s H scope (compEnvC scope cl C X.env) fp) elt te)
    (hfs : ∀ x, foldedSetIterable iter X.env x = pure x := by intro _; rfl) :
    PE X (.ListComp elt [⟨tg, iter, [], 0⟩] scope pos) (tLc wi g tYes te (own.map (·.2))) := by
  refine ⟨fun pins s σ H Q I h => ?_⟩
  rw [eval_ListComp]
  have hfree : ∀ y ∈ scope.names, y.2 = .free → ∃ c, X.env.cells.lookup y.1 = some c := fun y hy e => by
    rcases ok.free y hy e with k | k
    · exact I.ok.has _ (.inl k)
    · exact I.ok.has _ (.inr k)
  refine comprehension_at (use := none) rfl hfs (closure_ok hfree) ok.kind (fun y hy e => by rw [ok.uniq y hy, e])
    (thn (hi.run pins s σ H _ I h) fun xv s1 hx => thn hx fun itv s2 h2 => ?_)
  obtain ⟨it, fp, tn, J, H2, e, I2, T, st2, f2, q⟩ := h2
  subst e
  refine wpAny_newObj_type (newEnv_comp ?_) (by show 0 ≤ sizeLine; decide)
  generalize hD : s2.heap.objs.size = D
  have hDn : H2 D = none := I2.hok.fresh (Nat.le_of_eq hD)
  obtain ⟨W, ⟨m0, w0⟩, turn⟩ := q D hDn
  generalize hs3 : ({ s2 with heap := s2.heap.push { cls := .type "list", data := .seq ([] : List Value).toArray } } : Shared) = s3
  have I3 : L2.Inv X pins σ (upd H2 D (.lst [])) s3 := by
    rw [← hs3]
    refine I2.laid (t' := s2.toks) (fun b o e => Heap.get?_push_of_some _ e) (Nat.le_of_eq hD) ⟨Nat.zero_le _, [], 0, .nil, ?_⟩
    rw [← hD]
    exact Heap.get?_push_size _ rfl
  have h3 : s3.heap = s2.heap.push { cls := .type "list", data := .seq ([] : List Value).toArray } := by rw [← hs3]
  have sz : ∀ b ∈ fp, b < s2.heap.objs.size := fun b hb => by
    obtain ⟨o, e, _⟩ := T.obj _ _ st2 b hb
    exact Heap.lt_size e
  have f3 : ∀ b ∈ fp, FpOk X pins (upd H2 D (.lst [])) b ∧ b < s3.heap.objs.size := fun b hb => by
    have hlt := sz b hb
    refine ⟨⟨?_, (f2 b hb).2⟩, by rw [h3, Heap.size_push]; exact Nat.lt_succ_of_lt hlt⟩
    rw [upd_ne (by rw [← hD]; exact Nat.ne_of_lt hlt)]
    exact (f2 b hb).1
  have st3 : tn 0 s3.heap := T.keep _ _ _ st2 fun b _ o e => by rw [h3]; exact Heap.get?_push_of_some _ e
  have I4 := block_start I3 ok hN f3
  have pg := hg s3 (upd H2 D (.lst [])) s3.heap.objs.size (cellsFrom (s3.heap.objs.size + 1) scope.names (cloFrom X.env.cells scope.names [])) fp
  have pe := he s3 (upd H2 D (.lst [])) s3.heap.objs.size (cellsFrom (s3.heap.objs.size + 1) scope.names (cloFrom X.env.cells scope.names [])) fp
  have cF : (compEnvC scope (cellsFrom (s3.heap.objs.size + 1) scope.names (cloFrom X.env.cells scope.names [])) s3.heap.objs.size X.env).frame = X.env.frame := rfl
  show codeAny _ _ (.compStart (.ListComp elt [⟨tg, iter, [], 0⟩] scope pos) 0 (.ref it) (.ref D) (compEnvC scope (cellsFrom (s3.heap.objs.size + 1) scope.names (cloFrom X.env.cells scope.names [])) s3.heap.objs.size X.env))
    (compEnds (model X.prog X.w) X.A X.xe none (EP X pins σ Q) (.ref D) (compEnvC scope (cellsFrom (s3.heap.objs.size + 1) scope.names (cloFrom X.env.cells scope.names [])) s3.heap.objs.size X.env)) { s3 with heap := pushCells (s3.heap.push { cls := .type "dict", data := .dict #[] }) scope.names }
  have nfp : ∀ b ∈ fp, (upd H2 D (.lst [])) b = none := fun b hb => (f3 b hb).1.1
  generalize hce : compEnvC scope (cellsFrom (s3.heap.objs.size + 1) scope.names (cloFrom X.env.cells scope.names [])) s3.heap.objs.size X.env = ce at I4 pg pe cF ⊢
  have cL : ce.locals = s3.heap.objs.size := by subst hce; rfl
  generalize hH3 : upd H2 D (.lst []) = H3 at I3 I4 pg pe w0 nfp f3
  have pe := pe fun pins' σ' H' s' u s'' Ib c => lcx_pass hs hf tk I3 cL cF (fun b hb => (f3 b hb).1) Ib c
  generalize hs4 : ({ s3 with heap := pushCells (s3.heap.push { cls := .type "dict", data := .dict #[] }) scope.names } : Shared) = s4 at I4 ⊢
  have st4 : tn 0 s4.heap := T.keep _ _ _ st3 fun b _ o e => by rw [← hs4]; exact pushCells_keeps _ _ _ _ (Heap.get?_push_of_some _ e)
  have stat : ∀ {σ' : St} {H' : Hp} {s' : Shared}, L2.Inv (X.blk s3 H3 scope ce fp) [] σ' H' s' → (∀ b ∈ fp, H' b = none) → ∀ b ∈ fp, FpOk (X.blk s3 H3 scope ce fp) [] H' b := fun {σ' H' s'} I' hn b hb =>
    ⟨hn b hb, (I'.ok.exf b hb).1, I'.ok.exfs b hb, .inl hb, fun x c e => (I'.ok.exf b hb).2 x c e, fun p hp => absurd (show p ∈ ([] : List (Addr × Obj)) ++ [] from hp) (by simp)⟩
  have loop : codeAny (model X.prog X.w) X.A (.compLoop (.ListComp elt [⟨tg, iter, [], 0⟩] scope pos) 0 (.ref it) (.ref D) ce) (compEnds (model X.prog X.w) X.A X.xe none (EP X pins σ Q) (.ref D) ce) s4 := by
    refine compLoop_any (fun n s' => ∃ i H', L2.Inv (X.blk s3 H3 scope ce fp) [] (wipe σ (own.map (·.2))) H' s' ∧ tn i s'.heap ∧ (∀ b ∈ fp, H' b = none) ∧ W i n H') ?_ m0 ⟨0, H3, I4, st4, nfp, w0⟩
    rintro n s5 ⟨i, H5, I5, st5, n5, w5⟩
    rcases turn i n H5 w5 with ⟨stop, qq⟩ | ⟨go, Nx, hNx, step⟩
    · have td := T.done (X.blk s3 H3 scope ce fp) rfl rfl rfl hc i [] s5 _ H5 (fun _ _ => False) I5 (stat I5 n5) st5 stop
      refine thnF td fun r s6 ⟨hr, I6⟩ => ?_
      subst hr
      have I7 : L2.Inv X pins σ H5 s6 := I3.call' (ch := fp) I6.os I6.base I6.hok I6.bare fun b hb => ⟨(f3 b hb).1.2.2.2.1, (f3 b hb).1.2.1, (f3 b hb).1.2.2.2.2.1, (f3 b hb).1.2.2.2.2.2⟩
      have nC : H5 s3.heap.objs.size = none := by
        have z : H5 ce.locals = none := I6.free
        rw [cL] at z
        exact z
      obtain ⟨m, hn, _⟩ := I6.loc
      have hn : s6.heap.Ns ce.locals m := hn
      have f := I3.fpOk (Nat.le_refl _) nC
      show ∃ m, s6.heap.Ns ce.locals m ∧ ∀ h', Heap.SameBut ce.locals s6.heap h' → EP X pins σ Q (.ref D) { s6 with heap := h' }
      refine ⟨m, hn, fun h'' sb => ?_⟩
      rw [cL] at sb
      obtain ⟨f0, f1, f2', f3', f4, f5⟩ := f
      exact ⟨.ref D, H5, I7.turned (t' := s6.toks) (fun b o hb e => (sb.2 b hb).trans e) f0 f1 f3' f4 f5, rfl, qq⟩
    · have ti := T.item (X.blk s3 H3 scope ce fp) rfl rfl rfl hc i [] s5 _ H5 (fun _ _ => False) I5 (stat I5 n5) st5 go
      refine thnF ti fun r s6 ⟨u, hr, h6⟩ => ?_
      subst hr
      refine thnF h6 fun _ s7 ⟨x, H7, I7, r7, y7, st7, n7⟩ => ?_
      have I7' := I7.pinned (stat I7 n7) (T.obj _ _ st7)
      refine thnF (pg.run _ s7 _ H7 x u _ I7' r7 (step x H7 y7)) fun _ s8 ⟨σ8, H8, I8, hw8, q8⟩ => ?_
      refine thnF ((pts_nil (X := X.blk s3 H3 scope ce fp)).run _ s8 σ8 H8 _ I8 q8) fun b s9 ⟨H9, I9, q9⟩ => ?_
      have fin : ∀ {s' : Shared} {H' : Hp}, L2.Inv (X.blk s3 H3 scope ce fp) ([] ++ pinsAt fp s7.heap) σ8 H' s' → Nx H' → ∃ m, m < n ∧ ∃ i H', L2.Inv (X.blk s3 H3 scope ce fp) [] (wipe σ (own.map (·.2))) H' s' ∧ tn i s'.heap ∧ (∀ b ∈ fp, H' b = none) ∧ W i m H' := fun {s' H'} I' nx => by
        obtain ⟨m', hm, w'⟩ := hNx H' nx
        have pin' : ∀ b ∈ fp, ∀ o, s7.heap.get? b = some o → s'.heap.get? b = some o ∧ H' b = none := fun b hb o e =>
          let z := I'.pin (b, o) (List.mem_append_right _ (List.mem_append_right _ (mem_pinsAt hb e)))
          ⟨z.1, z.2.1⟩
        have hl : (wipe σ (own.map (·.2))).length = σ8.length := by rw [← hw8, wipe_length]
        refine ⟨m', hm, i + 1, H', (I'.unpinned (pins := [])).weak hl (fun j v e => ?_), T.keep _ _ _ st7 fun b hb o e => (pin' b hb o e).1, fun b hb => ?_, w'⟩
        · rw [← hw8] at e
          exact (wipe_some e).1
        · obtain ⟨o, e, _⟩ := T.obj _ _ st7 b hb
          exact (pin' b hb o e).2
      cases b with
      | false =>
        simp only [Bool.false_eq_true, if_false] at q9 ⊢
        exact fin I9 q9
      | true =>
        simp only [if_true] at q9 ⊢
        refine wpAny_mono (pe.run _ s9 σ8 H9 _ (I9.wish _) q9) (fun z s10 hz => ?_) fun _ _ z => z
        obtain ⟨yv, H10, I10, r10, acc, hD10, hz10, nx⟩ := hz
        have I10 : L2.Inv (X.blk s3 H3 scope ce fp) ([] ++ pinsAt fp s7.heap) σ8 H10 s10 := I10.wish (fun _ _ => False)
        exact app_ok (X := X.blk s3 H3 scope ce fp) I10 hD10 hz10 r10 fun s11 I11 => fin I11 nx
  exact codeAny_compStart_list loop (T.self X.A 0 _ _ _ st4 loop)
end
end DL

/-! DL Y: more of texts; defs that raise -/
namespace DL
open PySem L2
/-! ### texts -/
def dCutS (de : DE) (d1 d2 : DO) : DE := fun ρ Q => de ρ fun x => match x with
  | .str z => d1 ρ fun lo => d2 ρ fun hi => z.length ≤ 1000000 ∧ Q (.str (cutS z lo hi))
  | _ => False
def dSplit (de df : DE) : DA := fun ρ Q => de ρ fun x => match x with
  | .str a => df ρ fun y => match y with
    | .str b => (b.length == 0) = false ∧ a.length ≤ 1000000 ∧ Q ((Txt.split a b).map D.str)
    | _ => False
  | _ => False
def dIntS (de : DE) : DE := fun ρ Q => de ρ fun x => match x with
  | .str a => a.length ≤ 640 ∧ ∃ n, PySem.intText? a = some n ∧ Q (.int n)
  | _ => False
def dLenS (de : DE) : DE := fun ρ Q => de ρ fun x => match x with
  | .str a => a.length ≤ 1000000 ∧ Q (.int a.length)
  | _ => False
/-- the signs of a text -/
def signs (z : Str) : List Str := z.cps.toList.map fun c => ⟨#[c]⟩
def dSigns (de : DE) : DA := fun ρ Q => de ρ fun x => match x with
  | .str z => Q ((signs z).map D.str)
  | _ => False
def oInS (neg : Bool) : DR2 := fun x y Q => match x, y with
  | .str a, .str z => ∃ c, a = ⟨#[c]⟩ ∧ Q (.bl (xor neg (decide (c ∈ z.cps.toList))))
  | _, _ => False
theorem repL_ofStrs {K : PySem.W.Frag} {H : Hp} : ∀ (ys : List Str), RepL K H (ys.map V.str) (ys.map D.str)
  | [] => .nil
  | y :: ys => .cons (.str y) (repL_ofStrs ys)
def rNotS : R2 := fun x y H Q => ∃ (c : Nat) (z : Str), x = .str ⟨#[c]⟩ ∧ y = .str z ∧ Q (.bl (!decide (c ∈ z.cps.toList))) H
section
variable {X : Cx} {pos : Pos} {e f o : Expr} {te tf to : TE} {de df dO : DE} {dl : DA} {b c : Bool} {lo hi : Option Expr} {tl th : TO} {d1 d2 : DO}
theorem qe_cutS {p2 : Pos} (h : QE false X e te de) (h1 : QO X lo tl d1) (h2 : QO X hi th d2) : QE b X (.Subscript e (.Slice lo hi none p2) pos) (tSl rSlS te tl th) (dCutS de d1 d2) := ⟨pe_slice sl_str h.pe h1.po h2.po, fun H0 F0 F H ρ σ Q R r q k =>
  h.se H0 F0 F H ρ σ _ _ r q fun v d F2 H2 s hv hq => by
    split at hq
    · cases hv
      exact h1.so H0 F0 F2 H2 ρ σ _ _ (r.step s) hq fun l F3 H3 s3 hq => h2.so H0 F0 F3 H3 ρ σ _ _ ((r.step s).step s3) hq fun u F4 H4 s4 hq =>
        ⟨_, rfl, sz_ok hq.1, k _ _ F4 H4 ((s.trans s3).trans s4) (.str _) hq.2⟩
    · exact hq.elim⟩
theorem ql_split {apos : Pos} (ho : QE false X o to dO) (he : QE false X e te de) (hs : starEach [e] X.env = [(false, eval e X.env)] := by rfl) (hbase : attributeBase o "split" X.env (eval o X.env) = eval o X.env := by rfl) (hline : (apos.endLine == pos.line) = true := by rfl) :
    QL X (.Call (.Attribute o "split" apos) [e] [] pos) (tM1 (fun x xs H Q => ∃ a b, x = .str a ∧ xs = [.str b] ∧ (b.length == 0) = false ∧ a.length + 2 ≤ sizeLine ∧ rNewStrs (Txt.split a b) H Q) to te) (dSplit dO de) := ⟨pe_split ho.pe he.pe hs hbase hline, fun H0 F0 F H ρ σ Q R r q k =>
  ho.se H0 F0 F H ρ σ _ _ r q fun v d F2 H2 s hv hq => by
    split at hq
    · cases hv
      refine ⟨⟨_, rfl⟩, he.se H0 F0 F2 H2 ρ σ _ _ (r.step s) hq fun y dy F3 H3 s3 hy hq => ?_⟩
      split at hq
      · cases hy
        refine ⟨_, _, rfl, rfl, hq.1, by rw [sizeLine_eq]; have := hq.2.1; omega, fun p hp => ?_⟩
        have ss := s.trans s3
        exact k p _ _ F3 _ (ss.trans (Stp.grow ss.fh (Ex.new hp))) (ss.hH.back hp) (ss.fh.back hp) upd_same (repL_ofStrs _) hq.2.2
      · exact hq.elim
    · exact hq.elim⟩
theorem qe_intS {x : Expr} {p : Pos} (h : QE false X x te de) (hm : X.mg "int" = none) (hg : Gl X "int" := by rfl) (hv : bootBuiltins "int" = some (.type "int") := by decide +kernel) (he : starEach [x] X.env = (false, eval x X.env) :: starEach [] X.env := by rfl) :
    QE b X (.Call (.Name "int" p) [x] [] pos) (tCB (fun xs H Q => ∃ a n, xs = [.str a] ∧ PySem.intText? a = some n ∧ a.length ≤ 640 ∧ Q (.int n) H) (tCons te tNil)) (dIntS de) := ⟨pe_callTy call_int_str hg hm hv (pa_cons h.pe pa_nil he) (by decide) (by decide) he, fun H0 F0 F H ρ σ Q R r q k =>
  h.se H0 F0 F H ρ σ _ _ r q fun v d F2 H2 s hv hq => by
    split at hq
    · cases hv
      obtain ⟨h1, n, h2, hq⟩ := hq
      exact ⟨_, n, rfl, h2, h1, k _ _ F2 H2 s (.int _) hq⟩
    · exact hq.elim⟩
theorem qe_lenS {x : Expr} {p : Pos} (h : QE false X x te de) (hm : X.mg "len" = none) (hg : Gl X "len" := by rfl) (he : starEach [x] X.env = (false, eval x X.env) :: starEach [] X.env := by rfl) :
    QE b X (.Call (.Name "len" p) [x] [] pos) (tCB (fun xs H Q => ∃ a, xs = [.str a] ∧ a.length ≤ sizeLine ∧ Q (.int a.length) H) (tCons te tNil)) (dLenS de) := ⟨pe_callB call_len_str hg hm PySem.boot_len (pa_cons h.pe pa_nil he) (by decide) (by decide) he, fun H0 F0 F H ρ σ Q R r q k =>
  h.se H0 F0 F H ρ σ _ _ r q fun v d F2 H2 s hv hq => by
    split at hq
    · cases hv
      exact ⟨_, rfl, sz_ok hq.1, k _ _ F2 H2 s (.int _) hq.2⟩
    · exact hq.elim⟩
theorem r2_notS {K : PySem.W.Frag} : R2D c b K rNotS (oInS true) := fun F H x y d e Q R ef hx hy q k => by
  unfold oInS at q
  split at q
  · cases hx
    cases hy
    obtain ⟨c, rfl, q⟩ := q
    exact ⟨c, _, rfl, rfl, k _ _ F H (Stp.refl ef) (.bl _) (by simpa using q)⟩
  · exact q.elim
theorem qt_ninS (ha : QE false X e te de) (hb : QE false X f tf df) (hm : behindInMarks .NotIn f = false := by rfl) : QT X (.Compare e [.NotIn] [f] pos) (tTest (tOp rNotS te tf)) (dT (dOp (oInS true) de df)) := ⟨pt_cmpR op_notIn_sign ha.pe hb.pe hm, st_test (se_op r2_notS ha.se hb.se)⟩
end
/-- a for loop over a text's signs -/
theorem for_its {x : Str} {g : TG} {tb : TS} {D : Ends} {σ : St} {H : Hp} (Pv : Nat → St → Hp → Prop) (h0 : Pv 0 σ H)
    (hs : ∀ i c σ H, x.cps[i]? = some c → Pv i σ H → g (.str ⟨#[c]⟩) σ H fun σ2 H2 => tb { D with nx := Pv (i + 1), ct := Pv (i + 1), bk := D.nx } σ2 H2) (hd : ∀ σ H, Pv x.cps.size σ H → D.nx σ H) :
    ∃ W : Nat → Nat → St → Hp → Prop, (∃ m, W 0 m σ H) ∧ ∀ i m σ H, W i m σ H →
      ((Its x).stop i H ∧ D.nx σ H) ∨ ((Its x).go i H ∧ ∃ N : St → Hp → Prop, (∀ σ' H', N σ' H' → ∃ m', m' < m ∧ W (i + 1) m' σ' H') ∧ ∀ y H', (Its x).yld i H y H' → g y σ H' fun σ2 H2 => tb { D with nx := N, ct := N, bk := D.nx } σ2 H2) := by
  refine ⟨fun i m σ H => m = x.cps.size - i ∧ i ≤ x.cps.size ∧ Pv i σ H, ⟨x.cps.size, by simp, Nat.zero_le _, h0⟩, ?_⟩
  rintro i m σ H ⟨rfl, hi, p⟩
  by_cases hlt : i < x.cps.size
  · refine .inr ⟨hlt, Pv (i + 1), fun σ' H' p' => ⟨x.cps.size - (i + 1), by omega, rfl, hlt, p'⟩, fun y H' hy => ?_⟩
    obtain ⟨rfl, c, hc, rfl⟩ := hy
    exact hs i c σ _ hc p
  · have e : i = x.cps.size := by omega
    subst e
    exact .inl ⟨Nat.le_refl _, hd σ H p⟩
theorem signs_len (z : Str) : (signs z).length = z.cps.size := by
  unfold signs
  rw [List.length_map, Array.length_toList]
theorem signs_drop {z : Str} {i : Nat} {c : Nat} (h : z.cps[i]? = some c) : ((signs z).map D.str).drop i = .str ⟨#[c]⟩ :: ((signs z).map D.str).drop (i + 1) := by
  obtain ⟨hi, e⟩ := Array.getElem?_eq_some_iff.mp h
  have hl : i < ((signs z).map D.str).length := by rw [List.length_map, signs_len]; exact hi
  rw [List.drop_eq_getElem_cons hl]
  congr 1
  simp [signs, ← e]
section
variable {K : PySem.W.Frag} {H0 F0 F H : Hp} {ρ : Env} {σ : St}
/-- a def's body, H0 the heap where it began -/
def SSx (K : PySem.W.Frag) (H0 : Hp) (ts : TS) (ds : DS) : Prop := ∀ (F0 F H : Hp) (ρ : Env) (σ : St) (P : DEnds) (E : Ends), Rel K H0 F0 F H ρ σ → ds P ρ → Good K H0 F0 P E → ts E σ H
def SEx (b : Bool) (K : PySem.W.Frag) (H0 : Hp) (te : TE) (de : DE) : Prop := ∀ (F0 F H : Hp) (ρ : Env) (σ : St) (Q : D → Prop) (R : VK), Rel K H0 F0 F H ρ σ → de ρ Q →
  (∀ v d F2 H2, Stp F H F2 H2 → Rep K (pick b F2 H2) v d → Q d → R v H2) → te σ H R
def SAx (b : Bool) (K : PySem.W.Frag) (H0 : Hp) (ta : TA) (da : DA) : Prop := ∀ (F0 F H : Hp) (ρ : Env) (σ : St) (Q : List D → Prop) (R : List V → Hp → Prop), Rel K H0 F0 F H ρ σ → da ρ Q →
  (∀ vs ds F2 H2, Stp F H F2 H2 → RepL K (pick b F2 H2) vs ds → Q ds → R vs H2) → ta σ H R
theorem ssx_of {ts : TS} {ds : DS} (h : SSt K ts ds) : SSx K H0 ts ds := fun F0 F H ρ σ P E r q g => h H0 F0 F H ρ σ P E r q g
theorem sex_of {b : Bool} {te : TE} {de : DE} (h : SE b K te de) : SEx b K H0 te de := fun F0 F H ρ σ Q R r q k => h H0 F0 F H ρ σ Q R r q k
end
structure QSx (X : Cx) (H0 : Hp) (s : List Stmt) (ts : TS) (ds : DS) : Prop where
  ps : PSs X s ts
  sx : SSx X.K H0 ts ds
structure QYx (X : Cx) (H0 : Hp) (s : Stmt) (ts : TS) (ds : DS) : Prop where
  ps : PS X s ts
  sx : SSx X.K H0 ts ds
structure QEx (b : Bool) (X : Cx) (H0 : Hp) (e : Expr) (te : TE) (de : DE) : Prop where
  pe : PE X e te
  sx : SEx b X.K H0 te de
structure QAx (b : Bool) (X : Cx) (H0 : Hp) (es : List Expr) (ta : TA) (da : DA) : Prop where
  pa : PA X es ta
  sx : SAx b X.K H0 ta da
def dRaise (X0 : Nat → Prop) (c : Nat) : DS := fun _ _ => X0 c
/-- what a def that raises promises: sp over data; X0: by which classes it may leave -/
abbrev DSpX := List D → (D → Prop) → (Nat → Prop) → Prop
def liftSpX (K : PySem.W.Frag) (cl : Nat → Addr) (sp : DSpX) : Sp := fun vs H Q E => ∃ F ds Q0 X0, Ex F H ∧ RepL K F vs ds ∧ sp ds Q0 X0 ∧ (∀ d v F2 H2, Q0 d → Stp F H F2 H2 → Rep K F2 v d → Q v H2) ∧ ∀ c H2, X0 c → Ex H H2 → E (.ref (cl c)) none H2
def ExOk (cl : Nat → Addr) (H0 : Hp) (E : XK) (X0 : Nat → Prop) : Prop := ∀ c H2, X0 c → Ex H0 H2 → E (.ref (cl c)) none H2
def dCallX (sp : DSpX) (X0 : Nat → Prop) (da : DA) : DE := fun ρ Q => da ρ fun ds => sp ds Q X0
/-- an own class of errors without more -/
structure ExcT (K : PySem.W.Frag) (mg : Str → Option Value) (x : Str) (C : Addr) : Prop where
  gC : mg x = some (.ref C)
  xC : PySem.W.excIn K C [.type "ValueError", .type "Exception", .type "BaseException", .type "object"] "ValueError.__new__" = true
  kC : PySem.W.keepIn K (.ref C) = true
  bC : PySem.W.subIn K (.ref C) (.type "BaseException") = some true
  tC : PySem.W.typeIn K (.ref C) = some (.type "type")
section
variable {X : Cx} {H0 : Hp} {pos : Pos} {e f : Expr} {st : Stmt} {rest a b2 : List Stmt} {ts t u tb : TS} {ds d d' db : DS} {te tl : TE} {de : DE} {dl : DA} {tt : TT} {dt : DT} {ta : TA} {da : DA} {b : Bool} {cl : Nat → Addr} {E : XK} {X0 : Nat → Prop}
theorem qyx_of (h : QSt X st t d) : QYx X H0 st t d := ⟨h.ps, ssx_of h.ss⟩
theorem qsx_of (h : QSs X rest t d) : QSx X H0 rest t d := ⟨h.ps, ssx_of h.ss⟩
theorem qsx_nil : QSx X H0 [] tNext dNext := qsx_of qss_nil
theorem qsx_one (h : QYx X H0 st t d) : QSx X H0 [st] t d := ⟨pss_one h.ps, h.sx⟩
theorem qsx_cons (h1 : QYx X H0 st t d) (h2 : QSx X H0 rest u d') : QSx X H0 (st :: rest) (tSeq t u) (dSeq d d') := ⟨pss_cons h1.ps h2.ps, fun F0 F H ρ σ P E r q g =>
  h1.sx F0 F H ρ σ _ _ r q ⟨fun F H ρ σ r q => h2.sx F0 F H ρ σ P E r q g, g.rt, g.bk, g.ct⟩⟩
theorem qsx_cut (h1 : QYx X H0 st t d) (h2 : QSx X H0 rest u d') : QSx X H0 (st :: rest) (tSeq t u) (dJoin d d') := ⟨pss_cons h1.ps h2.ps, fun F0 F H ρ σ P E r q g => by
  obtain ⟨Mid, q1, q2⟩ := q
  exact h1.sx F0 F H ρ σ _ _ r q1 ⟨fun F H ρ σ r q => h2.sx F0 F H ρ σ P E r (q2 ρ q) g, g.rt, g.bk, g.ct⟩⟩
theorem qyx_if (hc : QT X e tt dt) (ha : QSx X H0 a t d) (hb : QSx X H0 b2 u d') : QYx X H0 (.If e a b2 pos) (tIfS tt t u) (dIfS dt d d') := ⟨ps_if hc.pt ha.ps hb.ps, fun F0 F H ρ σ P E r q g =>
  hc.st H0 F0 F H ρ σ _ _ r q fun z F2 H2 s hq => by
    cases z with
    | true => rw [if_pos rfl]; exact ha.sx F0 F2 H2 ρ σ P E (r.step s) (hq.1 rfl) g
    | false => rw [if_neg Bool.false_ne_true]; exact hb.sx F0 F2 H2 ρ σ P E (r.step s) (hq.2 rfl) g⟩
theorem qyx_ret (h : QEx true X H0 e te de) : QYx X H0 (.Return (some e) pos) (tRet te) (dRet de) := ⟨ps_ret h.pe, fun F0 F H ρ σ P E r q g => by
  obtain ⟨F2, r2⟩ := r.frzAll
  exact h.sx F0 F2 H _ σ P.rt E.rt r2 q fun v d F3 H3 s hv hq => by
    have r3 := r2.step s
    exact g.rt F3 H3 v d r3.f0 r3.fh r3.h0 r3.nw hv hq⟩
theorem qyx_raise {x m : Str} {j : Nat} {p p2 pos2 : Pos} {c : Nat} (hc : X.calm = true) (tk : Takes X (fun cls d _ H => E cls d H)) (T : ExcT X.K X.mg x (cl c)) (hE : ExOk cl H0 E X0) (hg : Gl X x := by rfl) (hdb : (x == ("__debug__" : Str)) = false := by decide) :
    QYx X H0 (.Raise (some (.Call (.Name x p) [.Constant (.str m) j p2] [] pos)) none pos2) (fun _ σ H => E (.ref (cl c)) none H) (dRaise X0 c) := ⟨ps_raise hc tk (pmk_own PySem.F.excBase_ValueError T.xC T.gC T.kC (raises_own T.bC T.tC) hg hdb), fun F0 F H ρ σ P En r q g => hE c H q r.h0⟩
theorem qyx_forS {x : Str} {px : Pos} {j : Nat} (hp : PassesOwn (model X.prog X.w) X.A X.env X.xe) (hc : X.calm = true) (hN : X.N.Nodup) (hi : X.N[j]? = some x) (hx : Loc X.env.scope x) (h : QE false X e te de) (hb : QSx X H0 a tb db)
    (hf : X.fn x = true ∨ X.env.scope.names.lookup x = some .local := by first | exact .inl rfl | exact .inr rfl | assumption)
    (hfs : ∀ x, foldedSetIterable e X.env x = pure x := by intro _; rfl) : QYx X H0 (.For (.Name x px) e a [] pos) (tFor (iStr te) (gName j) tb) (dFor (dSigns de) j db) :=
  ⟨ps_for hp hc (pi_str h.pe) (pg_name hN hi hx hf) hb.ps hfs, fun F0 F1 H1 ρ1 σ1 P E r1 q g1 => h.se H0 F0 F1 H1 ρ1 σ1 _ _ r1 q fun v d F H s hv hq => by
    split at hq
    · rename_i z
      cases hv
      have r := r1.step s
      have g := g1.base r
      refine ⟨z, rfl, for_its (x := z) (g := gName j) (fun k σ H => ∃ F' ρ', Rel X.K H0 F F' H ρ' σ ∧ dForG db j P (((signs z).map D.str).drop k) ρ') ⟨F, ρ1, r.base, hq⟩ ?_ ?_⟩
      · rintro k c σ H hc ⟨F', ρ', r', q⟩
        rw [signs_drop hc] at q
        exact hb.sx F F' H _ _ _ _ (r'.putFz j (.str _)) q ⟨fun F2 H2 ρ2 σ2 r2 q2 => ⟨F2, ρ2, r2, q2⟩, g.rt, g.nx, fun F2 H2 ρ2 σ2 r2 q2 => ⟨F2, ρ2, r2, q2⟩⟩
      · rintro σ H ⟨F', ρ', r', q⟩
        rw [List.drop_eq_nil_of_le (by rw [List.length_map, signs_len]; exact Nat.le_refl _)] at q
        exact g.nx F' H ρ' σ r' q
    · exact hq.elim⟩
/-- the same where nothing is raised -/
theorem qs_forS {x : Str} {px : Pos} {j : Nat} (hp : PassesOwn (model X.prog X.w) X.A X.env X.xe) (hc : X.calm = true) (hN : X.N.Nodup) (hi : X.N[j]? = some x) (hx : Loc X.env.scope x) (h : QE false X e te de) (hb : QSs X a tb db)
    (hf : X.fn x = true ∨ X.env.scope.names.lookup x = some .local := by first | exact .inl rfl | exact .inr rfl | assumption)
    (hfs : ∀ x, foldedSetIterable e X.env x = pure x := by intro _; rfl) : QSt X (.For (.Name x px) e a [] pos) (tFor (iStr te) (gName j) tb) (dFor (dSigns de) j db) :=
  ⟨(qyx_forS (H0 := fun _ => none) hp hc hN hi hx h (qsx_of hb) hf hfs).ps, fun H0 => (qyx_forS (H0 := H0) (px := px) (pos := pos) hp hc hN hi hx h (qsx_of hb) hf hfs).sx⟩
theorem qex_of (h : QE b X e te de) : QEx b X H0 e te de := ⟨h.pe, sex_of h.se⟩
theorem qax_of {es : List Expr} (h : QA b X es ta da) : QAx b X H0 es ta da := ⟨h.pa, fun F0 F H ρ σ Q R r q k => h.sa H0 F0 F H ρ σ Q R r q k⟩
theorem qax_cons {es : List Expr} (h : QEx b X H0 e te de) (hr : QAx b X H0 es ta da) (hs : starEach (e :: es) X.env = (false, eval e X.env) :: starEach es X.env := by rfl) : QAx b X H0 (e :: es) (tCons te ta) (dCons de da) := ⟨pa_cons h.pe hr.pa hs, fun F0 F H ρ σ Q R r q k =>
  h.sx F0 F H ρ σ _ _ r q fun v d F2 H2 s hv hq => hr.sx F0 F2 H2 ρ σ _ _ (r.step s) hq fun vs ds F3 H3 s3 hvs q3 => k _ _ F3 H3 (s.trans s3) (.cons (hv.stp s3) hvs) q3⟩
theorem qex_tup {x1} {es : List Expr} (h : QAx true X H0 es ta da) : QEx b X H0 (.Tuple es x1 pos) (tTup ta) (dTup da) := ⟨pe_tup h.pa, fun F0 F H ρ σ Q R r q k =>
  h.sx F0 F H ρ σ _ _ r q fun vs ds F2 H2 s hvs hq => ⟨by rw [RepL.len hvs]; exact sz_ok hq.1, fun p hp => by
    have s2 := Stp.cell (o := .tup vs) s.fh hp
    refine k _ _ _ _ (s.trans s2) ?_ hq.2
    exact (Rep.tup upd_same (RepL.up hvs s2.fF)).any s2.fh⟩⟩
theorem sex_call {K : PySem.W.Frag} {sp : DSpX} (h : SA b K ta da) (hE : ExOk cl H0 E X0) : SEx b K H0 (tCallS (liftSpX K cl sp) (fun _ => E) ta) (dCallX sp X0 da) := fun F0 F H ρ σ Q R r q k =>
  h H0 F0 F H ρ σ _ _ r q fun vs ds F2 H2 s hv hq => by
    refine ⟨pick b F2 H2, ds, Q, X0, pick_to s.fh, hv, hq, fun d v F3 H3 hq s3 hr => ?_, fun c H3 hc e => hE c H3 hc ((r.h0.trans s.hH).trans e)⟩
    cases b with
    | true => exact k v d F3 H3 (s.trans s3) hr hq
    | false => exact k v d F2 H3 (s.trans (Stp.grow s.fh s3.hH)) (hr.up s3.fh) hq
theorem qex_call {k : Nat} {fa : Addr} {fd : FuncData} {ps : List Str} {sp : DSpX} {x : Str} {p : Pos} {es : List Expr} (G : FnOk X.prog X.w X.K X.mg X.base (L2.CX X.prog X.w) k fa fd ps (liftSpX X.K cl sp)) (hr : Room k X.A) (hm : X.mg x = some (.ref fa)) (hk : PySem.W.keepIn X.K (.ref fa) = true) (hb : Binds X.K fd ps [])
    (hx : ∀ σ : St, PassesAt (L2.CX X.prog X.w) X σ E) (hE : ExOk cl H0 E X0)
    (h : QA b X (e :: es) ta da) (hg : Gl X x := by rfl) (hdb : (x == ("__debug__" : Str)) = false := by decide) (he : starEach (e :: es) X.env = (false, eval e X.env) :: starEach es X.env := by rfl) (hpl : (backTo pos (starEach es X.env)).any (·.1) = false := by rfl) {K : PySem.W.Frag} (hK : X.K = K := by rfl) :
    QEx b X H0 (.Call (.Name x p) (e :: es) [] pos) (tCallS (liftSpX K cl sp) (fun _ => E) ta) (dCallX sp X0 da) := by
  subst hK
  exact ⟨pe_callS G hr hg hm hk hb hx h.pa hdb he hpl, sex_call h.sa hE⟩
end
/-! ### a comprehension whose element may raise -/
section
variable {K : PySem.W.Frag} {H0 F0 F H : Hp} {ρ : Env} {σ : St} {D : Addr} {te : TE} {de : DE} {tt : TT} {dt : DT} {j : Nat}
theorem lcw_turnX (h0 : Ex H0 H) {G : Nat → List DL.D → Prop} {k : Nat} {H' : Hp} {x : DL.D} {v : V} (he : SEx true K H0 te de) (w : LcW K H0 F0 F H ρ σ D (G k) k H')
    (hx : ∀ F', Ex F F' → Rep K F' v x) (hk : k < 1000000) (hg : ∀ acc, G k acc → de (put ρ j (.fz x)) fun d => G (k + 1) (acc ++ [d])) :
    wipe ((wipe σ [j]).set j (some v)) [j] = wipe σ [j] ∧ tYes ((wipe σ [j]).set j (some v)) H' fun b H3 => if b = true then te ((wipe σ [j]).set j (some v)) H3 fun y H4 => ∃ acc, H4 D = some (.lst acc) ∧ acc.length < sizeLine ∧ LcW K H0 F0 F H ρ σ D (G (k + 1)) (k + 1) (upd H4 D (.lst (acc ++ [y])))
      else LcW K H0 F0 F H ρ σ D (G (k + 1)) (k + 1) H3 := by
  obtain ⟨F', os, vs, acc, s1, s2, s3, s4, f0, nw, st, hD, fD, hD', hv, hl, g⟩ := w
  rw [set_none_set]
  refine ⟨?_, ?_⟩
  · show (σ.set j (some v)).set j none = σ.set j none
    rw [List.set_set]
  have fh := st.fh
  have h0' : Ex H0 H' := h0.trans st.hH
  have r : Rel K H0 F0 F' H' ρ σ := ⟨⟨os, s1, s2, s3⟩, f0, fh, h0', nw⟩
  have rx := r.putFz j (hx F' st.fF)
  have keep : ∀ F2 H2, Stp F' H' F2 H2 → Slots K F2 H2 ρ σ os ∧ (∀ a ∈ os, F2 a = none ∧ H0 a = none) ∧ Ex F0 F2 ∧ (∀ a, F0 a = none → F2 a ≠ none → H0 a = none) ∧ F2 D = none ∧ H2 D = some (.lst vs) := fun F2 H2 s => by
    refine ⟨s1.keep s.fF (fun a _ x e => s.hH a x e), fun a ha => ⟨?_, (s3 a ha).2⟩, f0.trans s.fF, fun a e n => ?_, ?_, s.hH _ _ hD'⟩
    · cases q : F2 a with
      | none => rfl
      | some o => exact (s1.dom a ha (s.nw a (s3 a ha).1 (by rw [q]; simp))).elim
    · by_cases q : F' a = none
      · exact h0'.back (s.nw a q n)
      · exact nw a e q
    · cases q : F2 D with
      | none => rfl
      | some o =>
        have := s.nw D fD (by rw [q]; simp)
        rw [this] at hD'
        cases hD'
  unfold tYes
  dsimp only
  rw [if_pos rfl]
  refine he F0 F' H' _ _ _ _ rx (hg acc g) fun y d F3 H3 ss hy hq => ?_
  obtain ⟨k1, k2, k3, k4, k5, k6⟩ := keep F3 H3 ss
  refine ⟨vs, k6, by rw [hv.len]; exact sz_lt (Nat.lt_of_le_of_lt hl hk), F3, os, vs ++ [y], acc ++ [d], k1.keep (Ex.refl _) (fun a ha x e => ?_), s2, k2, s4, k3, k4, ?_, hD, k5, upd_same, (hv.up ss.fF).append (.one hy), by simp; exact hl, hq⟩
  · rw [upd_ne (ne_mem ha s4)]
    exact e
  · have t := st.trans ss
    exact ⟨t.fF, Ex.mut t.hH hD, Ex.mut t.fh k5, t.nw⟩
theorem sex_lcX {tl : TE} {dl : DA} (hl : SF K tl dl) (he : SEx true K H0 te de) : SEx true K H0 (tLc (iList K tl) (gName j) tYes te [j]) (dL (dLc dl j dYes de)) := fun F0 F1 H1 ρ σ Q R r1 q k =>
  hl H0 F0 F1 H1 ρ σ _ _ r1 q fun a vs ds F H s hs hv q => ⟨a, rfl, ⟨vs, s.fh.seq hs⟩, fun D hD => by
    have r := r1.step s
    refine lc_list (K := K) (a := a) (xs := vs) (fun k H' => LcW K H0 F0 F H ρ σ D (fun acc => dLcG j dYes de ρ (fun ds => Q (.lst ds)) (ds.drop k) acc) k H') (lcw_start r hD q.2) (fun k H' _ w => ?_) (fun k x H' hx w => ?_) (fun H' w => ?_)
    · obtain ⟨F', os, vs, acc, s1, s2, s3, s4, f0, nw, st, _⟩ := w
      exact st.fh.seq (st.fF.seq hs)
    · have hk : k < ds.length := by
        have := (List.getElem?_eq_some_iff.mp hx).1
        rw [hv.len] at this
        exact this
      obtain ⟨v, e1, e2⟩ := hv.get (List.getElem?_eq_getElem hk)
      obtain rfl : v = x := Option.some.inj (e1.symm.trans hx)
      refine lcw_turnX (G := fun k acc => dLcG j dYes de ρ (fun ds => Q (.lst ds)) (ds.drop k) acc) (x := ds[k]) r.h0 he w (fun F' e => e2.up e) (Nat.lt_of_lt_of_le hk q.1) fun acc g => ?_
      rw [List.drop_eq_getElem_cons hk] at g
      exact g.1 rfl
    · obtain ⟨F', os, ws, acc, s1, s2, s3, s4, f0, nw, st, hD0, fD, hD', hv', hl, g⟩ := w
      rw [hv.len, List.drop_length] at g
      have st2 := s.trans st
      have so := Stp.own st2 (s.hH.back hD0) fD hD'
      refine k _ _ _ _ so ?_ g
      exact (Rep.lst upd_same (RepL.up hv' (Ex.new fD))).any so.fh⟩
theorem qex_lcX {X : Cx} {H0 : Hp} {E : XK} {iter elt : Expr} {x : Str} {px pos : Pos} {scope : Scope} {j : Nat} {te tl : TE} {dl : DA} {de : DE} (hs : X.stack = X.env :: X.outer) (hf : X.env.frame = some X.env.locals) (tk : Takes X (fun cls d _ H => E cls d H))
    (hc : X.calm = true) (hN : X.N.Nodup) (h : QF X iter tl dl) (ok : BlkOk X.N X.env.scope scope [(x, j)])
    (hg : ∀ (s : Shared) (H : Hp) (C : Addr) (cl : List (Str × Addr)) (fp : List Addr), PG (X.blk s H scope (compEnvC scope cl C X.env) fp) (.Name x px) (gName j))
    (he : ∀ (s : Shared) (H : Hp) (C : Addr) (cl : List (Str × Addr)) (fp : List Addr), (∀ σ : St, PassesAt (L2.CX X.prog X.w) (blkX X s H scope (compEnvC scope cl C X.env) fp) σ E) → PE (blkX X s H scope (compEnvC scope cl C X.env) fp) elt te)
    (hse : SEx true X.K H0 te de) (fs : ∀ x, foldedSetIterable iter X.env x = pure x := by intro _; rfl) :
    QEx true X H0 (.ListComp elt [⟨.Name x px, iter, [], 0⟩] scope pos) (tLc (iList X.K tl) (gName j) tYes te [j]) (dL (dLc dl j dYes de)) :=
  ⟨pe_lcX (own := [(x, j)]) hs hf tk hc hN (pi_list h.pe) ok hg (fun s H C cl fp hx => he s H C cl fp fun σ pins H' s' u s'' I c => hx pins σ H' s' u s'' I c) fs, sex_lcX h.sf hse⟩
end
/-- THE RULE for a def that raises -/
theorem fn_okX {P : Program} {w : World} {K : PySem.W.Frag} {mg : Str → Option Value} {base : Heap} {x qual : Str} {st : Stmt} {f : Addr} {fd : FuncData} {N ps : List Str} {k : Nat} {cl : Nat → Addr} {sp : DSpX} {d : (Nat → Prop) → DS} (F : Fun K x qual st f fd) (S : FnScope N ps (defScope st))
    (hl : ∀ ds Q X0, sp ds Q X0 → ds.length = ps.length)
    (hd : ∀ ds Q X0, sp ds Q X0 → d X0 (dEnds Q) (dstart N.length ds))
    (hbody : ∀ (cdv : Value) (A : Around) (outer : List PySem.Env) (s : Shared) (H : Hp) (E : XK) (X0 : Nat → Prop), Room k (A.deeper (PyProof.Rows.envOfC qual (defScope st) s.heap.objs.size f cdv)) → ExOk cl H E X0 →
      ∃ t, QSx (cxOf (L2.CX P w) P w K mg base N qual (defScope st) f cdv A outer s H E) H (defBody st) t (d X0)) : FnOk P w K mg base (L2.CX P w) (k + 1) f fd ps (liftSpX K cl sp) := by
  refine F.okX S (fun vs H Q E h => ?_) (fun cdv A outer s H vs Q E hr h => ?_)
  · obtain ⟨F', ds, Q0, X0, e, hv, hs, _⟩ := h
    rw [hv.len]
    exact hl ds Q0 X0 hs
  · obtain ⟨F', ds, Q0, X0, e, hv, hs, k, kx⟩ := h
    obtain ⟨t, ht⟩ := hbody cdv A outer s H E X0 hr kx
    refine ⟨t, ht.ps, ?_⟩
    refine ht.sx F' F' H (dstart N.length ds) (L2.start N vs) (dEnds Q0) _ ⟨⟨[], ?_, List.nodup_nil, fun a ha => by cases ha⟩, Ex.refl _, e, Ex.refl _, fun a e n => (n e).elim⟩ (hd ds Q0 X0 hs) ⟨?_, ?_, ?_, ?_⟩
    · unfold dstart L2.start
      rw [hv.len]
      exact slots_start hv
    · intro F2 H2 ρ2 σ2 r q
      exact k .non .non F2 H2 q ⟨r.f0, r.h0, r.fh, r.nw⟩ .non
    · intro F2 H2 v d e1 e2 e3 e4 hr q
      exact k d v F2 H2 q ⟨e1, e3, e2, e4⟩ hr
    · intro _ _ _ _ _ q; exact q.elim
    · intro _ _ _ _ _ q; exact q.elim
end DL

/-! DL Z: errors caught: their classes, isinstance of them, try -/
namespace DL
open PySem L2
def errN : Nat → Str
  | 0 => "NoTrack" | 1 => "NoneWaiting" | 2 => "TrackEmpty" | _ => "NoPlan"
structure ErrTab (K : PySem.W.Frag) (mg : Str → Option Value) (cl : Nat → Addr) (cY : Addr) : Prop where
  t : ∀ i, i < 4 → ExcT K mg (errN i) (cl i)
  ec : ∀ i, i < 4 → ExcC K (cl i)
  ic : ∀ i, i < 4 → PySem.W.isClsIn K (cl i) = true
  sub : ∀ i j, i < 4 → j < 4 → PySem.W.subIn K (.ref (cl i)) (.ref (cl j)) = some (decide (i = j))
  gY : mg "YardError" = some (.ref cY)
  hY : PySem.W.hasDictIn K cY = true
  bY : PySem.W.subIn K (.ref cY) (.type "BaseException") = some true
  tY : PySem.W.typeIn K (.ref cY) = some (.type "type")
  sY : ∀ i, i < 4 → PySem.W.subIn K (.ref (cl i)) (.ref cY) = some true
  vN : mg "ValueError" = none
  sV : ∀ i, i < 4 → PySem.W.subIn K (.ref (cl i)) (.type "ValueError") = some true
section
variable {K : PySem.W.Frag} {mg : Str → Option Value} {cl : Nat → Addr} {cY : Addr}
theorem ErrTab.exm (T : ErrTab K mg cl cY) {i : Nat} (hi : i < 4) : PySem.W.exmOne K (.ref (cl i)) (.ref cY) = some true := PySem.W.exm_ref T.bY T.hY T.tY (T.sY i hi)
theorem ErrTab.exmC (T : ErrTab K mg cl cY) {i j : Nat} (hi : i < 4) (hj : j < 4) : PySem.W.exmOne K (.ref (cl i)) (.ref (cl j)) = some (decide (i = j)) := PySem.W.exm_ref (T.t j hj).bC (T.ec j hj).hd (T.t j hj).tC (T.sub i j hi hj)
theorem ErrTab.kit (T : ErrTab K mg cl cY) {i j : Nat} (hi : i < 4) (hj : j < 4) : PySem.W.kitOne K (.ref (cl i)) (.ref (cl j)) = some (decide (i = j)) := by
  unfold PySem.W.kitOne
  by_cases e : (Value.ref (cl i) == Value.ref (cl j)) = true
  · rw [if_pos e]
    have e2 : cl i = cl j := Value.ref.inj (beq_iff_eq.mp e)
    have h1 := T.sub i j hi hj
    have h2 := T.sub j j hj hj
    rw [e2, h2] at h1
    by_cases z : i = j
    · rw [decide_eq_true z]
    · rw [decide_eq_false z, decide_eq_true rfl] at h1
      cases h1
  · rw [if_neg e]
    have e2 : ((PySem.W.clsIn K (cl j)).isSome && PySem.W.typeIn K (.ref (cl j)) == some (.type "type")) = true := by
      have h2' : (PySem.W.clsIn K (cl j)).isSome = true := T.ic j hj
      rw [h2', (T.t j hj).tC] <;> rfl
    show (if ((PySem.W.clsIn K (cl j)).isSome && PySem.W.typeIn K (.ref (cl j)) == some (.type "type")) = true then PySem.W.subIn K (.ref (cl i)) (.ref (cl j)) else none) = _
    rw [if_pos e2]
    exact T.sub i j hi hj
theorem ErrTab.kitV (T : ErrTab K mg cl cY) {i : Nat} (hi : i < 4) : PySem.W.kitOne K (.ref (cl i)) (.type "ValueError") = some true := by
  unfold PySem.W.kitOne
  have e : ¬ ((Value.ref (cl i) == Value.type "ValueError") = true) := by simp
  rw [if_neg e]
  show (if PySem.W.kitMeta "ValueError" = true then PySem.W.subIn K (.ref (cl i)) (.type "ValueError") else none) = _
  rw [if_pos (by decide +kernel)]
  exact T.sV i hi
end
/-! ### isinstance of the error that a suite holds -/
def rIsX (K : PySem.W.Frag) (cl : Nat → Addr) (cls : Value) (d : Option Addr) (a : Addr) : List V → Hp → VK → Prop := fun xs H Q => ∃ i, i < 4 ∧ cls = .ref (cl i) ∧ d = none ∧ rIsE K (cl i) a xs H Q
section
variable {X : Cx} {cl : Nat → Addr} {cY a : Addr} {oe : Obj} {cls : Value} {d : Option Addr} {pn : List (Addr × Obj)}
theorem call_isX (T : ErrTab X.K X.mg cl cY) (hz : Zc cls d oe) (hf : ∃ vs, oe.data = .fields vs) : CallR (X.suite a ((a, oe) :: pn)) (.builtin "isinstance") (rIsX X.K cl cls d a) := by
  intro pins s σ H xs us Q I r h
  obtain ⟨i, hi, rfl, rfl, h⟩ := h
  exact call_isE (T.ec i hi) hz hf pins s σ H xs us Q I r h
abbrev tI (K : PySem.W.Frag) (cl : Nat → Addr) (cls : Value) (d : Option Addr) (a : Addr) (n : Nat) (c : V) : TE := tCB (rIsX K cl cls d a) (tCons (tVar n) (tCons (tC c) tNil))
theorem pe_isC {n j : Nat} {p p1 p2 pos : Pos} {en x : Str} (T : ErrTab X.K X.mg cl cY) (hz : Zc cls d oe) (hf : ∃ vs, oe.data = .fields vs) (hj : j < 4) (hm : X.mg "isinstance" = none) (hx : errN j = x := by rfl) (hN : X.N[n]? = some en := by rfl) (hv : Vis X.env.scope en := by first | exact Or.inl rfl | exact Or.inr (Or.inl rfl) | exact Or.inr (Or.inr rfl))
    (hd : (en == ("__debug__" : Str)) = false := by decide) (hcd : (en == ("__classdict__" : Str)) = false := by decide) (hg : Gl X "isinstance" := by rfl) (hg2 : Gl X x := by rfl) (hd2 : (x == ("__debug__" : Str)) = false := by decide)
    (he : starEach [.Name en p1, .Name x p2] X.env = (false, eval (.Name en p1) X.env) :: starEach [.Name x p2] X.env := by rfl) (he2 : starEach [.Name x p2] X.env = (false, eval (.Name x p2) X.env) :: starEach [] X.env := by rfl) (hpl : (backTo pos (starEach [.Name x p2] X.env)).any (·.1) = false := by rfl) :
    PE (X.suite a ((a, oe) :: pn)) (.Call (.Name "isinstance" p) [.Name en p1, .Name x p2] [] pos) (tI X.K cl cls d a n (.ref (cl j))) := by
  subst hx
  exact pe_callB (X := X.suite a ((a, oe) :: pn)) (call_isX T hz hf) hg hm (by decide +kernel) (pa_cons (X := X.suite a ((a, oe) :: pn)) (pe_var hN hv hd hcd) (pa_cons (X := X.suite a ((a, oe) :: pn)) (pe_glob (v := .ref (cl j)) hg2 (T.t j hj).gC rfl hd2) pa_nil he2) he) (by decide) (by decide) he hpl
theorem pe_isV {n : Nat} {p p1 p2 pos : Pos} {en : Str} (T : ErrTab X.K X.mg cl cY) (hz : Zc cls d oe) (hf : ∃ vs, oe.data = .fields vs) (hm : X.mg "isinstance" = none) (hN : X.N[n]? = some en := by rfl) (hv : Vis X.env.scope en := by first | exact Or.inl rfl | exact Or.inr (Or.inl rfl) | exact Or.inr (Or.inr rfl))
    (hd : (en == ("__debug__" : Str)) = false := by decide) (hcd : (en == ("__classdict__" : Str)) = false := by decide) (hg : Gl X "isinstance" := by rfl) (hg2 : Gl X "ValueError" := by rfl)
    (he : starEach [.Name en p1, .Name "ValueError" p2] X.env = (false, eval (.Name en p1) X.env) :: starEach [.Name "ValueError" p2] X.env := by rfl) (he2 : starEach [.Name "ValueError" p2] X.env = (false, eval (.Name "ValueError" p2) X.env) :: starEach [] X.env := by rfl) (hpl : (backTo pos (starEach [.Name "ValueError" p2] X.env)).any (·.1) = false := by rfl) :
    PE (X.suite a ((a, oe) :: pn)) (.Call (.Name "isinstance" p) [.Name en p1, .Name "ValueError" p2] [] pos) (tI X.K cl cls d a n (.ty "ValueError")) :=
  pe_callB (X := X.suite a ((a, oe) :: pn)) (call_isX T hz hf) hg hm (by decide +kernel) (pa_cons (X := X.suite a ((a, oe) :: pn)) (pe_var hN hv hd hcd) (pa_cons (X := X.suite a ((a, oe) :: pn)) (pe_bltn (v := .ty "ValueError") hg2 T.vN (by decide +kernel) rfl) pa_nil he2) he) (by decide) (by decide) he hpl
end
/-- what a test of the error tells -/
def Ev (n : Nat) (a : Addr) (I : TE) (b : Bool) : Prop := ∀ (σ : St) (H : Hp) (Q : VK), σ[n]? = some (some (.ref a)) → Q (.bl b) H → I σ H Q
section
variable {K : PySem.W.Frag} {mg : Str → Option Value} {cl : Nat → Addr} {cY a : Addr} {n i j : Nat}
theorem ev_C (T : ErrTab K mg cl cY) (hi : i < 4) (hj : j < 4) : Ev n a (tI K cl (.ref (cl i)) none a n (.ref (cl j))) (decide (i = j)) := fun σ H Q hs q =>
  ⟨_, hs, i, hi, rfl, rfl, .ref (cl j), .ref (cl j), _, rfl, fun u r => r, T.kit hi hj, q⟩
theorem ev_V (T : ErrTab K mg cl cY) (hi : i < 4) : Ev n a (tI K cl (.ref (cl i)) none a n (.ty "ValueError")) true := fun σ H Q hs q =>
  ⟨_, hs, i, hi, rfl, rfl, .ty "ValueError", .type "ValueError", _, rfl, fun u r => r, T.kitV hi, q⟩
theorem ev_not {I : TE} {b : Bool} (h : Ev n a I b) : Ev n a (tNotV I) (!b) := fun σ H Q hs q => h σ H _ hs ⟨b, rfl, q⟩
end
/-- marks = [I1, I2, I3]; marks = marks + [I4, I5] -/
abbrev tMarks (m : Nat) (I1 I2 I3 I4 I5 : TE) : TS := tSeq (tAsg (tLst (tCons I1 (tCons I2 (tCons I3 tNil)))) (gName m)) (tAsg (tOp rCat (tVar m) (tLst (tCons I4 (tCons I5 tNil)))) (gName m))
theorem marks_run {K : PySem.W.Frag} {H0 F0 F H : Hp} {ρ : Env} {σ : St} {n m : Nat} {a : Addr} {I1 I2 I3 I4 I5 : TE} {b1 b2 b3 b4 b5 : Bool} {D : Ends} (e1 : Ev n a I1 b1) (e2 : Ev n a I2 b2) (e3 : Ev n a I3 b3) (e4 : Ev n a I4 b4) (e5 : Ev n a I5 b5)
    (nm : n ≠ m) (hm : m < σ.length) (hn : σ[n]? = some (some (.ref a))) (r : Rel K H0 F0 F H ρ σ)
    (k : ∀ F2 H2 σ2, Rel K H0 F0 F2 H2 (put (put ρ m (.fz (.lst [.bl b1, .bl b2, .bl b3]))) m (.fz (.lst [.bl b1, .bl b2, .bl b3, .bl b4, .bl b5]))) σ2 → D.nx σ2 H2) : tMarks m I1 I2 I3 I4 I5 D σ H := by
  refine e1 σ H _ hn (e2 σ H _ hn (e3 σ H _ hn ?_))
  refine ⟨(by show 3 ≤ sizeLine; decide), fun p1 h1 => ?_⟩
  have s1 := Stp.cell (o := .lst [.bl b1, .bl b2, .bl b3]) r.fh h1
  have rep1 : Rep K (upd F p1 (.lst [.bl b1, .bl b2, .bl b3])) (.ref p1) (.lst [.bl b1, .bl b2, .bl b3]) := .lst upd_same (.cons (.bl _) (.cons (.bl _) (.cons (.bl _) .nil)))
  have r1 := (r.step s1).putFz m rep1
  have hn1 : (σ.set m (some (.ref p1)))[n]? = some (some (.ref a)) := by
    rw [List.getElem?_set_ne (fun z => nm z.symm)]
    exact hn
  have hm1 : (σ.set m (some (.ref p1)))[m]? = some (some (.ref p1)) := List.getElem?_set_self hm
  refine ⟨_, hm1, ?_⟩
  refine e4 _ _ _ hn1 (e5 _ _ _ hn1 ?_)
  refine ⟨(by show 2 ≤ sizeLine; decide), fun p2 h2 => ?_⟩
  have p12 : p1 ≠ p2 := fun z => by
    rw [← z, upd_same] at h2
    cases h2
  refine ⟨p1, p2, _, _, rfl, rfl, by rw [upd_ne p12]; exact upd_same, upd_same, (by show 3 + 2 ≤ sizeLine; decide), fun p3 h3 => ?_⟩
  have r2 := r1.step (Stp.grow r1.fh (Ex.new (o := .lst [.bl b4, .bl b5]) h2))
  have s3 := Stp.cell (o := .lst [.bl b1, .bl b2, .bl b3, .bl b4, .bl b5]) r2.fh h3
  have r3 := (r2.step s3).putFz m (v := .ref p3) (d := .lst [.bl b1, .bl b2, .bl b3, .bl b4, .bl b5]) (.lst upd_same (.cons (.bl _) (.cons (.bl _) (.cons (.bl _) (.cons (.bl _) (.cons (.bl _) .nil))))))
  exact k _ _ _ r3
/-- try: y = f(..) / except YardError as n: marks of it -/
def dTry (y n m : Nat) (sp : DSpX) (da : DA) (mk : Nat → Bool × Bool × Bool × Bool × Bool) : DS := fun P ρ => da ρ fun ds => sp ds (fun d => P.nx (put ρ y (.fz d))) (fun c => c < 4 ∧ n ≠ m ∧ n < ρ.length ∧ m < ρ.length ∧
  P.nx (put (put (put (put ρ n .un) m (.fz (.lst [.bl (mk c).1, .bl (mk c).2.1, .bl (mk c).2.2.1]))) m (.fz (.lst [.bl (mk c).1, .bl (mk c).2.1, .bl (mk c).2.2.1, .bl (mk c).2.2.2.1, .bl (mk c).2.2.2.2]))) n .un))
theorem Slots.lenEq {K : PySem.W.Frag} {F H : Hp} : ∀ {ρ : Env} {σ : St} {os : List Addr}, Slots K F H ρ σ os → σ.length = ρ.length
  | _, _, _, .nil => rfl
  | _, _, _, .cons _ h => by simp only [List.length_cons, h.lenEq]
/-- what stands for isinstance's tests, by the error's class -/
structure MarksOk (K : PySem.W.Frag) (cl : Nat → Addr) (n : Nat) (I : Addr → Value → Option Addr → TE × TE × TE × TE × TE) (mk : Nat → Bool × Bool × Bool × Bool × Bool) : Prop where
  ev : ∀ i, i < 4 → ∀ a, Ev n a (I a (.ref (cl i)) none).1 (mk i).1 ∧ Ev n a (I a (.ref (cl i)) none).2.1 (mk i).2.1 ∧ Ev n a (I a (.ref (cl i)) none).2.2.1 (mk i).2.2.1 ∧ Ev n a (I a (.ref (cl i)) none).2.2.2.1 (mk i).2.2.2.1 ∧ Ev n a (I a (.ref (cl i)) none).2.2.2.2 (mk i).2.2.2.2
abbrev tSuite (m : Nat) (I : Addr → Value → Option Addr → TE × TE × TE × TE × TE) : Addr → Value → Option Addr → TS := fun a cls d => tMarks m (I a cls d).1 (I a cls d).2.1 (I a cls d).2.2.1 (I a cls d).2.2.2.1 (I a cls d).2.2.2.2
theorem ss_try {K : PySem.W.Frag} {mg : Str → Option Value} {cl : Nat → Addr} {cY : Addr} {sp : DSpX} {ta : TA} {da : DA} {y n m : Nat} {I : Addr → Value → Option Addr → TE × TE × TE × TE × TE} {mk : Nat → Bool × Bool × Bool × Bool × Bool} (T : ErrTab K mg cl cY) (ha : SA true K ta da) (hI : MarksOk K cl n I mk) :
    SSt K (fun D σ H => tAsg (tCallS (liftSpX K cl sp) (WE (wAs K (.ref cY) n (tSuite m I) (fun _ _ _ _ => False) D)) ta) (gName y) D σ H) (dTry y n m sp da mk) := fun H0 F0 F H ρ σ P En r q g =>
  ha H0 F0 F H ρ σ _ _ r q fun vs ds F2 H2 s hv hq => by
    refine ⟨F2, ds, _, _, s.fh, hv, hq, fun d v F3 H3 hq s3 hr => g.nx _ _ _ _ ((r.step (s.trans s3)).putFz y hr) hq, fun c H3 hc e => ?_⟩
    obtain ⟨c4, nm, hn, hm, hq⟩ := hc
    refine ⟨true, T.exm c4, fun _ a hA => ?_, fun z => Bool.noConfusion z⟩
    obtain ⟨i1, i2, i3, i4, i5⟩ := hI.ev c c4 a
    have st : Stp F H F2 H3 := s.trans (Stp.grow s.fh e)
    have r3 := r.step st
    have r4 := r3.putUn n (some (.ref a))
    have len : σ.length = ρ.length := by
      obtain ⟨os, h1, _⟩ := r.sl
      exact h1.lenEq
    refine marks_run i1 i2 i3 i4 i5 nm (by rw [List.length_set, len]; exact hm) (List.getElem?_set_self (by rw [len]; exact hn)) r4 fun F5 H5 σ5 r5 => ?_
    exact g.nx _ _ _ _ (r5.putUn n none) hq
end DL
namespace DL
open PySem L2
theorem sa_v1 {b : Bool} {K : PySem.W.Frag} (i : Nat) : SA b K (tCons (tVar i) tNil) (dCons (dVar b i) dNil) := fun H0 F0 F H ρ σ Q R r q k =>
  se_var i H0 F0 F H ρ σ _ _ r q fun v d F2 H2 s hv hq => k _ _ F2 H2 s (.cons hv .nil) hq
theorem sa_cons {b : Bool} {K : PySem.W.Frag} {te : TE} {de : DE} {ta : TA} {da : DA} (h : SE b K te de) (hr : SA b K ta da) : SA b K (tCons te ta) (dCons de da) := fun H0 F0 F H ρ σ Q R r q k =>
  h H0 F0 F H ρ σ _ _ r q fun v d F2 H2 s hv hq => hr H0 F0 F2 H2 ρ σ _ _ (r.step s) hq fun vs ds F3 H3 s3 hvs q3 => k _ _ F3 H3 (s.trans s3) (.cons (hv.stp s3) hvs) q3
theorem qs_tryX {X : Cx} {cl : Nat → Addr} {cY : Addr} {sp : DSpX} {ta : TA} {da : DA} {y n m : Nat} {en : Str} {body suite : List Stmt} {b₀ : Stmt} {np pos pos' : Pos} {I : Addr → Value → Option Addr → TE × TE × TE × TE × TE} {mk : Nat → Bool × Bool × Bool × Bool × Bool}
    (hs : X.stack = X.env :: X.outer) (hf : X.env.frame = some X.env.locals) (hN : X.N.Nodup) (hi : X.N[n]? = some en) (hln : X.env.kindOf en = some .local) (T : ErrTab X.K X.mg cl cY) (hgl : Gl X "YardError")
    (hb : ∀ (W : WX) (pn : List (Addr × Obj)) (xe : Value → Shared → Prop), Takes (X.tr pn xe) W → PassesOwn (model X.prog X.w) X.A X.env xe → PSs (X.tr pn xe) body (tAsg (tCallS (liftSpX X.K cl sp) (WE W) ta) (gName y)))
    (hsu : ∀ (a : Addr) (oe : Obj) (cls : Value) (d : Option Addr) (pn : List (Addr × Obj)), Zc cls d oe → (∃ vs, oe.data = .fields vs) → PSs (X.suite a ((a, oe) :: pn)) (b₀ :: suite) (tSuite m I a cls d))
    (ha : SA true X.K ta da) (hI : MarksOk X.K cl n I mk) :
    QSt X (.Try body [.ExceptHandler (some (.Name "YardError" np)) (some en) (b₀ :: suite) pos'] [] [] pos) (fun D σ H => tAsg (tCallS (liftSpX X.K cl sp) (WE (wAs X.K (.ref cY) n (tSuite m I) (fun _ _ _ _ => False) D)) ta) (gName y) D σ H) (dTry y n m sp da mk) :=
  ⟨ps_try_as (tb := fun W => tAsg (tCallS (liftSpX X.K cl sp) (WE W) ta) (gName y)) (ts := tSuite m I) (Wout := fun _ _ _ _ => False) hs hf hN hi hln ⟨hgl, by decide, .inl T.gY⟩ takes0 hb hsu, ss_try T ha hI⟩
section
variable {K : PySem.W.Frag} {mg : Str → Option Value} {cl : Nat → Addr} {cY : Addr}
def mk16 (c : Nat) : Bool × Bool × Bool × Bool × Bool := (decide (c = 3), true, decide (c = 0), decide (c = 1), decide (c = 2))
def mk34 (c : Nat) : Bool × Bool × Bool × Bool × Bool := (decide (c = 0), decide (c = 1), decide (c = 2), decide (c = 3), !true)
abbrev i16 (K : PySem.W.Frag) (cl : Nat → Addr) (n : Nat) (a : Addr) (cls : Value) (d : Option Addr) : TE × TE × TE × TE × TE := (tI K cl cls d a n (.ref (cl 3)), tI K cl cls d a n (.ty "ValueError"), tI K cl cls d a n (.ref (cl 0)), tI K cl cls d a n (.ref (cl 1)), tI K cl cls d a n (.ref (cl 2)))
abbrev i34 (K : PySem.W.Frag) (cl : Nat → Addr) (n : Nat) (a : Addr) (cls : Value) (d : Option Addr) : TE × TE × TE × TE × TE := (tI K cl cls d a n (.ref (cl 0)), tI K cl cls d a n (.ref (cl 1)), tI K cl cls d a n (.ref (cl 2)), tI K cl cls d a n (.ref (cl 3)), tNotV (tI K cl cls d a n (.ty "ValueError")))
theorem marks16 (T : ErrTab K mg cl cY) (n : Nat) : MarksOk K cl n (i16 K cl n) mk16 := ⟨fun i hi a => ⟨ev_C T hi (by decide), ev_V T hi, ev_C T hi (by decide), ev_C T hi (by decide), ev_C T hi (by decide)⟩⟩
theorem marks34 (T : ErrTab K mg cl cY) (n : Nat) : MarksOk K cl n (i34 K cl n) mk34 := ⟨fun i hi a => ⟨ev_C T hi (by decide), ev_C T hi (by decide), ev_C T hi (by decide), ev_C T hi (by decide), ev_not (ev_V T hi)⟩⟩
end
/-- a def of the text that may raise, with its promise -/
def HasX (P : Program) (w : World) (K : PySem.W.Frag) (mg : Str → Option Value) (base : Heap) (k : Nat) (x : Str) (ps : List Str) (cl : Nat → Addr) (sp : DSpX) : Prop :=
  ∃ (fa : Addr) (fd : FuncData), FnOk P w K mg base (L2.CX P w) k fa fd ps (liftSpX K cl sp) ∧ mg x = some (.ref fa) ∧ PySem.W.keepIn K (.ref fa) = true ∧ Binds K fd ps []
theorem hasX_mk {P : Program} {w : World} {K : PySem.W.Frag} {mg : Str → Option Value} {base : Heap} {k : Nat} {x qual : Str} {st : Stmt} {fa : Addr} {fd : FuncData} {ps : List Str} {cl : Nat → Addr} {sp : DSpX} (F : Fun K x qual st fa fd) (G : FnOk P w K mg base (L2.CX P w) k fa fd ps (liftSpX K cl sp)) (hm : mg x = some (.ref fa))
    (hb : Binds K fd ps []) : HasX P w K mg base k x ps cl sp := ⟨fa, fd, G, hm, F.kp, hb⟩
end DL
namespace DL
open PySem L2
theorem passE {X : Cx} {E : XK} (tk : Takes X (fun cls d _ H => E cls d H)) : ∀ σ : St, PassesAt (L2.CX X.prog X.w) X σ E := fun σ => passAt tk σ
end DL

/-! DL W: a list's count -/
namespace DL
open PySem L2
def dCount (dl : DA) (de : DE) : DE := fun ρ Q => dl ρ fun ds => de ρ fun x => match x with
  | .int k => ∃ ns : List Int, ds = ns.map D.int ∧ Q (.int ((ns.count k : Nat) : Int))
  | _ => False
section
variable {X : Cx} {pos : Pos} {e f : Expr} {te tf : TE} {de df : DE} {dl : DA} {b : Bool}
theorem qe_count {p2 p3 : Pos} (ho : QX false X e te dl) (h : QE false X f tf df)
    (hb : attributeBase e "count" X.env (eval e X.env) = eval e X.env := by rfl)
    (hfew : ((backTo p3 (starEach [f] X.env)).all (fun x => !x.1) && (backToKw p3 (keywordEach [] X.env)).all (fun x => x.1.isSome)
      && decide (([f] : List Expr).length + ([] : List Keyword).length + (if ([] : List Keyword).isEmpty then 0 else 1) < 30)) = true := by rfl)
    (hline : (p2.endLine == p3.line) = true := by rfl) (hs : starEach [f] X.env = (false, eval f X.env) :: starEach [] X.env := by rfl) (hpl : (backTo p3 (starEach [] X.env)).any (·.1) = false := by rfl) {K : PySem.W.Frag} (hK : X.K = K := by rfl) :
    QE b X (.Call (.Attribute e "count" p2) [f] [] p3) (tBM K "list" (rCntI K) te (tCons tf tNil)) (dCount dl df) := by
  subst hK
  refine ⟨pe_bm PySem.F.plainAttrs_list PySem.F.slot_list_count PySem.F.type_list_count mt_lcount ho.pe (pa_cons h.pe pa_nil hs) hb hfew hline hs hpl, fun H0 F0 F H ρ σ Q R r q k => ?_⟩
  refine ho.sx H0 F0 F H ρ σ _ _ r q fun a vs ds F2 H2 s hs hr hq => ⟨st_slot hs, h.se H0 F0 F2 H2 ρ σ _ _ (r.step s) hq fun v d F3 H3 s3 hv hq => ?_⟩
  split at hq
  · cases hv
    obtain ⟨ns, rfl, hq5⟩ := hq
    have ev := repL_ints hr
    subst ev
    exact ⟨a, ns, _, rfl, rfl, .inl (.inl (s3.hH _ _ hs)), k _ _ F3 H3 (s.trans s3) (.int _) hq5⟩
  · exact hq.elim
end
end DL

/-! F1: readers of the script, the row -/
namespace DL
open PySem L2
local macro_rules | `(tactic| walk_at "w") => `(tactic| conv => whnf)
local macro_rules | `(tactic| walk_at "side") => `(tactic| first | omega | decide | exact Nat.le_of_ble_eq_true rfl | exact ⟨by decide, by decide⟩ | exact Or.inl ⟨by omega, by omega⟩ | exact Or.inr ⟨by omega, by omega⟩ | (show (_ : Int) ≠ 0; omega) | exact ⟨by omega, by omega⟩ | (rw [List.length_map]; omega) | (simp only [List.length_map, List.length_append, List.length_cons, List.length_nil]; omega))
local macro_rules | `(tactic| walk_at "go") => `(tactic| ((repeat ((conv => whnf); first | (refine And.intro ?_ ?_; · walk_at "side") | refine And.intro (fun h => Bool.noConfusion (show false = true from h)) (fun _ => ?_) | refine And.intro (fun _ => ?_) (fun h => Bool.noConfusion (show true = false from h)))); (conv => whnf)))
local macro_rules | `(tactic| walk_at "if") => `(tactic| refine ⟨fun hc => ?_, fun hc => ?_⟩)
theorem fmod_pos {a b : Int} (h : 0 < b) : a.fmod b = a % b := Int.fmod_eq_emod_of_nonneg _ (Int.le_of_lt h)
theorem fmod_rng (a : Int) {b : Int} (h : 0 < b) : 0 ≤ a.fmod b ∧ a.fmod b < b := by
  rw [fmod_pos h]
  exact ⟨Int.emod_nonneg _ (by omega), Int.emod_lt_of_pos _ h⟩
theorem fdiv_pos {a b : Int} (h : 0 < b) : a.fdiv b = a / b := Int.fdiv_eq_ediv_of_nonneg _ (Int.le_of_lt h)
def cellAt (ns : List Int) (k : Int) : Int := ns.getD k.toNat 0
def sp_law_cell_at : DSp := fun ds Q => ∃ (ns : List Int) (k : Int), ds = [.scr ns, .int k] ∧ 0 ≤ k ∧ Q (.int (cellAt ns k))
def d_law_cell_at : DS := (dSeq (dIfS (dT (dOp oLt (dVar false 1) (dLen (dIv false 0)))) (dRet (dIx (dIv true 0) (dVar false 1))) dNext)
  (dRet (dC (.int 0))))
theorem th_law_cell_at : ∀ ds Q, sp_law_cell_at ds Q → d_law_cell_at (dEnds Q) (dstart 2 ds) := by
  rintro ds Q ⟨ns, k, rfl, h0, hq⟩
  walk_at "w"
  refine ⟨fun h => ?_, fun h => ?_⟩
  · walk_at "w"
    rw [decide_eq_true_iff, List.length_map] at h
    exact ⟨_, atI_getD h0 h, hq⟩
  · walk_at "w"
    rw [decide_eq_false_iff_not, List.length_map] at h
    have : cellAt ns k = 0 := by
      unfold cellAt
      rw [List.getD_eq_getElem?_getD, List.getElem?_eq_none (by omega)]
      rfl
    rw [this] at hq
    exact hq
theorem ln_law_cell_at : ∀ ds Q, sp_law_cell_at ds Q → ds.length = 2 := by
  rintro ds Q ⟨ns, k, rfl, _⟩
  rfl
/-- a drawn cell: any number -/
def sp_law_drawn : DSp := fun ds Q => ∃ (ns : List Int) (seed k : Int), ds = [.scr ns, .int seed, .int k] ∧ 0 ≤ k ∧ k ≤ 1000 ∧ ∀ c : Int, Q (.int c)
def d_law_drawn : DS := (dSeq (dIfS (dT (dOp oGt (dVar false 1) (dC (.int 0)))) (dRet (dOp oDiv (dOp oMod (dOp oMul (dVar false 1) (dOp oAdd (dC (.int 48271)) (dOp oMul (dC (.int 2)) (dVar false 2)))) (dC (.int 2147483647))) (dC (.int 3)))) dNext)
  (dRet (dCall sp_law_cell_at (dCons (dVar true 0) (dCons (dOp oAdd (dC (.int 2)) (dVar false 2)) dNil)))))
theorem th_law_drawn : ∀ ds Q, sp_law_drawn ds Q → d_law_drawn (dEnds Q) (dstart 3 ds) := by
  rintro ds Q ⟨ns, seed, k, rfl, h0, h1, hq⟩
  walk_at "w"
  refine ⟨fun h => ?_, fun h => ?_⟩
  · walk_at "go"
    exact hq _
  · walk_at "w"
    exact ⟨ns, 2 + k, rfl, by omega, hq _⟩
theorem ln_law_drawn : ∀ ds Q, sp_law_drawn ds Q → ds.length = 3 := by
  rintro ds Q ⟨ns, seed, k, rfl, _⟩
  rfl

/-! ### the row -/
structure RowInv (k last : Int) (order numbers : List Int) : Prop where
  k0 : 0 ≤ k
  on : order.Nodup
  ob : ∀ x ∈ order, 0 ≤ x ∧ x < k
  ol : (order.length : Int) = k
  nl : (numbers.length : Int) = k
  up : numbers.Pairwise (· < ·)
  nb : ∀ x ∈ numbers, 0 ≤ x ∧ x ≤ last
  lo : -1 ≤ last
  hi : last < 900000000000 + k * 1000000000
theorem RowInv.more {k last p m : Int} {order numbers : List Int} (h : RowInv k last order numbers) (hp : 0 ≤ p ∧ p ≤ k) (hm : 0 ≤ m ∧ m < 1000000000) :
    RowInv (k + 1) (last + 1 + m) (order.take p.toNat ++ [k] ++ order.drop p.toNat) (numbers ++ [last + 1 + m]) := by
  have pe : (order.take p.toNat ++ [k] ++ order.drop p.toNat).Perm (k :: order) := by
    simp only [List.append_assoc, List.singleton_append]
    refine List.perm_middle.trans ?_
    rw [List.take_append_drop]
  have hk : k ∉ order := fun z => by have := (h.ob k z).2; omega
  have e := h.k0
  have hl := h.lo
  have hh := h.hi
  refine ⟨by omega, ?_, fun x hx => ?_, ?_, ?_, ?_, fun x hx => ?_, by omega, by omega⟩
  · exact (pe.nodup_iff).mpr (List.nodup_cons.mpr ⟨hk, h.on⟩)
  · rcases List.mem_cons.mp (pe.mem_iff.mp hx) with rfl | hx
    · omega
    · have := h.ob x hx; omega
  · rw [pe.length_eq, List.length_cons]
    have := h.ol; omega
  · rw [List.length_append, List.length_singleton]
    have := h.nl; omega
  · rw [List.pairwise_append]
    refine ⟨h.up, List.pairwise_singleton _ _, fun x hx y hy => ?_⟩
    simp only [List.mem_singleton] at hy
    have := (h.nb x hx).2
    omega
  · rcases List.mem_append.mp hx with hx | hx
    · have := h.nb x hx; omega
    · simp only [List.mem_singleton] at hx
      omega
/-- what is known of a row -/
structure RowOk (bound : Int) (row : List Int) : Prop where
  nd : row.Nodup
  len : (row.length : Int) ≤ bound
  bd : ∀ x ∈ row, 0 ≤ x ∧ x < 1000000000000
theorem RowInv.row {k last : Int} {order numbers : List Int} (h : RowInv k last order numbers) {bound : Int} (hk : k ≤ bound) (h60 : k ≤ 60) : RowOk bound (order.map fun i => numbers.getD i.toNat 0) := by
  have hn := h.nl
  have at_ : ∀ i ∈ order, ∃ hi : i.toNat < numbers.length, numbers.getD i.toNat 0 = numbers[i.toNat] := fun i hi => by
    have := h.ob i hi
    have hl : i.toNat < numbers.length := by omega
    refine ⟨hl, ?_⟩
    rw [List.getD_eq_getElem?_getD, List.getElem?_eq_getElem hl]
    rfl
  refine ⟨?_, ?_, fun x hx => ?_⟩
  · rw [List.Nodup, List.pairwise_map]
    refine h.on.imp_of_mem fun {a b} ha hb hne e => ?_
    obtain ⟨la, ea⟩ := at_ a ha
    obtain ⟨lb, eb⟩ := at_ b hb
    have ba := h.ob a ha
    have bb := h.ob b hb
    rw [ea, eb] at e
    have inc := List.pairwise_iff_getElem.mp h.up
    rcases Nat.lt_trichotomy a.toNat b.toNat with q | q | q
    · have := inc _ _ la lb q; omega
    · exact hne (by omega)
    · have := inc _ _ lb la q; omega
  · rw [List.length_map]
    have := h.ol; omega
  · obtain ⟨i, hi, rfl⟩ := List.mem_map.mp hx
    obtain ⟨l, e⟩ := at_ i hi
    rw [e]
    have := h.nb _ (List.getElem_mem l)
    have := h.hi
    omega
def sp_law_row_of : DSp := fun ds Q => ∃ (ns : List Int) (bound : Int), ds = [.scr ns, .int bound] ∧ 8 ≤ bound ∧ bound ≤ 60 ∧ ∀ row : List Int, RowOk bound row → Q (dints row)
def d_law_row_of_1 : DS := (dSeq (dSet 10 (dCall sp_law_drawn (dCons (dVar true 0) (dCons (dVar true 5) (dCons (dVar true 9) dNil)))))
  (dSeq (dIns 7 (dOp oMod (dVar false 10) (dOp oAdd (dVar false 9) (dC (.int 1)))) (dVar true 9))
  (dSeq (dSet 6 (dOp oAdd (dOp oAdd (dVar false 6) (dC (.int 1))) (dOp oMod (dOp oDiv (dVar false 10) (dC (.int 64))) (dIx (dLst (dCons (dC (.int 1)) (dCons (dC (.int 7)) (dCons (dC (.int 1000000000)) dNil)))) (dOp oMod (dVar false 3) (dC (.int 3)))))))
  (dApp 8 (dVar true 6)))))
def d_law_row_of_2 : DE := (dIx (dIv true 8) (dVar false 9))
def d_law_row_of_t1 : DS := (dRet (dL (dLc (dS (dVar true 7)) 9 dYes d_law_row_of_2)))
def d_law_row_of : DS := (dSeq (dSet 2 (dCall sp_law_cell_at (dCons (dVar true 0) (dCons (dC (.int 0)) dNil))))
  (dSeq (dSet 3 (dCall sp_law_cell_at (dCons (dVar true 0) (dCons (dC (.int 1)) dNil))))
  (dSeq (dSet 4 (dOp oMod (dVar false 2) (dC (.int 9))))
  (dSeq (dSet 5 (dC (.int 0)))
  (dJoin (dIfS (dT (dOp (oEq false) (dOp oMod (dOp oDiv (dVar false 2) (dC (.int 9))) (dC (.int 4))) (dC (.int 1)))) (dSeq (dSet 4 (dOp oMod (dOp oDiv (dVar false 2) (dC (.int 36))) (dOp oAdd (dVar false 1) (dC (.int 1)))))
  (dSet 5 (dOp oAdd (dC (.int 1)) (dOp oMod (dOp oDiv (dVar false 2) (dC (.int 36))) (dC (.int 1000000007)))))) dNext)
  (dJoin (dIfS (dT (dOp (oEq false) (dOp oMod (dOp oDiv (dVar false 2) (dC (.int 9))) (dC (.int 4))) (dC (.int 2)))) (dSet 4 (dI2 gMin (dCons (dI2 gMax (dCons (dC (.int 0)) (dCons (dOp oSub (dLen (dIv false 0)) (dC (.int 2))) dNil))) (dCons (dVar false 1) dNil)))) dNext)
  (dSeq (dSet 6 (dOp oSub (dIx (dLst (dCons (dC (.int 0)) (dCons (dOp oMod (dOp oDiv (dVar false 3) (dC (.int 6))) (dC (.int 900000000000))) dNil))) (dOp oMod (dOp oDiv (dVar false 3) (dC (.int 3))) (dC (.int 2)))) (dC (.int 1))))
  (dSeq (dSetL 7 (dLst dNil))
  (dSeq (dSetL 8 (dLst dNil))
  (dSeq (dFor (dRng1 (dCons (dVar false 4) dNil)) 9 d_law_row_of_1)
  d_law_row_of_t1))))))))))
theorem at_step (i : Int) (h : 0 ≤ i ∧ i < 3) : ∃ m : Int, atI ([.int 1, .int 7, .int 1000000000] : List D) i = some (.int m) ∧ 0 < m ∧ m ≤ 1000000000 := by
  have : i = 0 ∨ i = 1 ∨ i = 2 := by omega
  rcases this with rfl | rfl | rfl
  · exact ⟨1, rfl, by decide, by decide⟩
  · exact ⟨7, rfl, by decide, by decide⟩
  · exact ⟨1000000000, rfl, by decide, by decide⟩
theorem at_first (i x : Int) (h : 0 ≤ i ∧ i < 2) (hx : 0 ≤ x ∧ x < 900000000000) : ∃ m : Int, atI ([.int 0, .int x] : List D) i = some (.int m) ∧ 0 ≤ m ∧ m < 900000000000 := by
  have : i = 0 ∨ i = 1 := by omega
  rcases this with rfl | rfl
  · exact ⟨0, rfl, by decide, by decide⟩
  · exact ⟨x, rfl, hx⟩
theorem row_of_loop {P : DEnds} {ns : List Int} {bound head scale count seed : Int} (hc : count ≤ 60)
    (hP : ∀ last order numbers s9 s10, RowInv count last order numbers → P.nx [.fz (.scr ns), .fz (.int bound), .fz (.int head), .fz (.int scale), .fz (.int count), .fz (.int seed), .fz (.int last), .l1 (order.map D.int), .l1 (numbers.map D.int), s9, s10]) :
    ∀ (n : Nat) (k last : Int) (order numbers : List Int) (s9 s10 : Sl), count - k = n → RowInv k last order numbers →
      dForG d_law_row_of_1 9 P (rangeD k count) [.fz (.scr ns), .fz (.int bound), .fz (.int head), .fz (.int scale), .fz (.int count), .fz (.int seed), .fz (.int last), .l1 (order.map D.int), .l1 (numbers.map D.int), s9, s10]
  | 0, k, last, order, numbers, s9, s10, hn, h => by
    rw [rangeD_nil (by omega)]
    have : k = count := by omega
    subst this
    exact hP last order numbers s9 s10 h
  | n + 1, k, last, order, numbers, s9, s10, hn, h => by
    rw [rangeD_cons (by omega)]
    have hk := h.k0
    walk_at "go"
    refine ⟨ns, seed, k, rfl, hk, by omega, fun c => ?_⟩
    have e3 := fmod_rng c (show 0 < k + 1 by omega)
    have ol := h.ol
    have nl := h.nl
    walk_at "go"
    obtain ⟨m, hm, m0, m1⟩ := at_step (scale.fmod 3) (fmod_rng _ (by decide))
    refine ⟨_, hm, ?_⟩
    walk_at "go"
    have e4 := fmod_rng (c.fdiv 64) m0
    have g := h.more (p := c.fmod (k + 1)) (m := (c.fdiv 64).fmod m) ⟨e3.1, by omega⟩ ⟨e4.1, by omega⟩
    have := row_of_loop hc hP n (k + 1) _ _ _ (.fz (.int k)) (.fz (.int c)) (by omega) g
    simp only [List.map_append, List.map_take, List.map_drop, List.map_cons, List.map_nil] at this
    exact this
theorem th_law_row_of : ∀ ds Q, sp_law_row_of ds Q → d_law_row_of (dEnds Q) (dstart 11 ds) := by
  rintro ds Q ⟨ns, bound, rfl, b0, b1, hq⟩
  walk_at "w"
  refine ⟨ns, 0, rfl, by decide, ?_⟩
  walk_at "w"
  refine ⟨ns, 1, rfl, by decide, ?_⟩
  generalize cellAt ns 0 = head
  generalize cellAt ns 1 = scale
  walk_at "go"
  refine ⟨fun ρ => ∃ count seed : Int, 0 ≤ count ∧ count ≤ bound ∧ ρ = [.fz (.scr ns), .fz (.int bound), .fz (.int head), .fz (.int scale), .fz (.int count), .fz (.int seed), .un, .un, .un, .un, .un], ?_, ?_⟩
  · walk_at "go"
    refine ⟨fun h => ?_, fun h => ?_⟩
    · walk_at "go"
      have e := fmod_rng (head.fdiv 36) (show 0 < bound + 1 by omega)
      exact ⟨_, _, e.1, by omega, rfl⟩
    · have e := fmod_rng head (show (0 : Int) < 9 by decide)
      exact ⟨_, _, e.1, by omega, rfl⟩
  rintro ρ ⟨count, seed, c0, c1, rfl⟩
  refine ⟨fun ρ => ∃ count seed : Int, 0 ≤ count ∧ count ≤ bound ∧ ρ = [.fz (.scr ns), .fz (.int bound), .fz (.int head), .fz (.int scale), .fz (.int count), .fz (.int seed), .un, .un, .un, .un, .un], ?_, ?_⟩
  · walk_at "go"
    refine ⟨fun h => ?_, fun h => ?_⟩
    · walk_at "go"
      refine ⟨_, _, ?_, ?_, rfl⟩
      · unfold gMin gMax; split <;> split <;> omega
      · unfold gMin gMax; split <;> split <;> omega
    · exact ⟨_, _, c0, c1, rfl⟩
  rintro ρ ⟨count, seed, c0, c1, rfl⟩
  walk_at "go"
  obtain ⟨m, hm, m0, m1⟩ := at_first ((scale.fdiv 3).fmod 2) ((scale.fdiv 6).fmod 900000000000) (fmod_rng _ (by decide)) (fmod_rng _ (by decide))
  refine ⟨_, hm, ?_⟩
  walk_at "go"
  refine row_of_loop (ns := ns) (by omega) (fun last order numbers s9 s10 h => ?_) count.toNat 0 (m - 1) [] [] .un .un (by omega) ⟨by decide, List.nodup_nil, (fun _ h => nomatch h), rfl, rfl, .nil, (fun _ h => nomatch h), by omega, by omega⟩
  have ol := h.ol
  have nl := h.nl
  walk_at "go"
  refine dLcG_map (fun d => match d with | .int i => .int (numbers.getD i.toNat 0) | _ => .non) (fun x hx R hR => ?_) ?_
  · obtain ⟨i, hi, rfl⟩ := List.mem_map.mp hx
    have := h.ob i hi
    walk_at "w"
    exact ⟨_, atI_getD this.1 (by omega), hR⟩
  · have g := hq _ (h.row c1 (by omega))
    rw [List.map_map]
    show Q (.lst ([] ++ _))
    rw [List.nil_append]
    unfold dints at g
    rw [List.map_map] at g
    exact g
theorem ln_law_row_of : ∀ ds Q, sp_law_row_of ds Q → ds.length = 2 := by
  rintro ds Q ⟨ns, k, rfl, _⟩
  rfl
end DL

/-! F2: rising, falling -/
namespace DL
open PySem L2
local macro_rules | `(tactic| walk_at "w") => `(tactic| conv => whnf)
local macro_rules | `(tactic| walk_at "side") => `(tactic| first | omega | decide | exact Nat.le_of_ble_eq_true rfl | exact ⟨by decide, by decide⟩ | exact Or.inl ⟨by omega, by omega⟩ | exact Or.inr ⟨by omega, by omega⟩ | (show (_ : Int) ≠ 0; omega) | exact ⟨by omega, by omega⟩ | (rw [List.length_map]; omega) | (simp only [List.length_map, List.length_append, List.length_cons, List.length_nil]; omega))
local macro_rules | `(tactic| walk_at "go") => `(tactic| ((repeat ((conv => whnf); first | (refine And.intro ?_ ?_; · walk_at "side") | refine And.intro (fun h => Bool.noConfusion (show false = true from h)) (fun _ => ?_) | refine And.intro (fun _ => ?_) (fun h => Bool.noConfusion (show true = false from h)))); (conv => whnf)))
local macro_rules | `(tactic| walk_at "if") => `(tactic| refine ⟨fun hc => ?_, fun hc => ?_⟩)
/-- each two neighbours -/
def nbrs (r : Int → Int → Bool) : List Int → Bool
  | x :: y :: l => r x y && nbrs r (y :: l)
  | _ => true
abbrev rising : List Int → Bool := nbrs fun x y => decide (x < y)
abbrev falling : List Int → Bool := nbrs fun x y => decide (y < x)
theorem nbrs_at {r : Int → Int → Bool} : ∀ {l : List Int}, nbrs r l = true ↔ ∀ k, k + 1 < l.length → r (l.getD k 0) (l.getD (k + 1) 0) = true
  | [] => by simp [nbrs]
  | [x] => by simp [nbrs]
  | x :: y :: l => by
    have ih := nbrs_at (r := r) (l := y :: l)
    simp only [nbrs, Bool.and_eq_true]
    rw [ih]
    constructor
    · rintro ⟨h1, h2⟩ k hk
      cases k with
      | zero => exact h1
      | succ k => exact h2 k (by simp only [List.length_cons] at hk ⊢; omega)
    · intro h
      exact ⟨h 0 (by simp), fun k hk => h (k + 1) (by simp only [List.length_cons] at hk ⊢; omega)⟩
theorem nbrs_of {r : Int → Int → Bool} {l : List Int} (h : ∀ k : Int, 1 ≤ k → k < l.length → r (l.getD (k - 1).toNat 0) (l.getD k.toNat 0) = true) : nbrs r l = true := by
  rw [nbrs_at]
  intro k hk
  have := h (k + 1 : Nat) (by omega) (by omega)
  simpa using this
theorem nbrs_no {r : Int → Int → Bool} {l : List Int} (k : Int) (h1 : 1 ≤ k) (h2 : k < l.length) (h : r (l.getD (k - 1).toNat 0) (l.getD k.toNat 0) = false) : nbrs r l = false := by
  cases e : nbrs r l with
  | false => rfl
  | true =>
    rw [nbrs_at] at e
    have := e (k - 1).toNat (by omega)
    rw [show (k - 1).toNat + 1 = k.toNat by omega, h] at this
    cases this
def sp_row (f : List Int → Bool) : DSp := fun ds Q => ∃ row : List Int, ds = [dints row] ∧ row.length ≤ 1000 ∧ Q (.bl (f row))
def sp_law_rising : DSp := sp_row rising
def sp_law_falling : DSp := sp_row falling
def sp_is_rising : DSp := sp_row rising
def sp_is_falling : DSp := sp_row falling
def d_law_rising_1 : DT := (dT (dOp oGe (dIx (dIv false 0) (dOp oSub (dVar false 1) (dC (.int 1)))) (dIx (dIv false 0) (dVar false 1))))
def d_law_rising_2 : DE := (dVar true 1)
def d_law_rising : DS := (dRet (dOp (oEq false) (dLen (dLc (dRng2 (dCons (dC (.int 1)) (dCons (dLen (dIv false 0)) dNil))) 1 d_law_rising_1 d_law_rising_2)) (dC (.int 0))))
def d_law_falling_1 : DT := (dT (dOp oLe (dIx (dIv false 0) (dOp oSub (dVar false 1) (dC (.int 1)))) (dIx (dIv false 0) (dVar false 1))))
def d_law_falling_2 : DE := (dVar true 1)
def d_law_falling : DS := (dRet (dOp (oEq false) (dLen (dLc (dRng2 (dCons (dC (.int 1)) (dCons (dLen (dIv false 0)) dNil))) 1 d_law_falling_1 d_law_falling_2)) (dC (.int 0))))
def d_is_rising_1 : DS := (dIfS (dT (dOp oGe (dIx (dIv false 0) (dOp oSub (dVar false 1) (dC (.int 1)))) (dIx (dIv false 0) (dVar false 1)))) (dRet (dC (.bl false))) dNext)
def d_is_rising_t1 : DS := (dRet (dC (.bl true)))
def d_is_rising : DS := (dSeq (dFor (dRng2 (dCons (dC (.int 1)) (dCons (dLen (dIv false 0)) dNil))) 1 d_is_rising_1)
  d_is_rising_t1)
def d_is_falling_1 : DS := (dIfS (dT (dOp oLe (dIx (dIv false 0) (dOp oSub (dVar false 1) (dC (.int 1)))) (dIx (dIv false 0) (dVar false 1)))) (dRet (dC (.bl false))) dNext)
def d_is_falling_t1 : DS := (dRet (dC (.bl true)))
def d_is_falling : DS := (dSeq (dFor (dRng2 (dCons (dC (.int 1)) (dCons (dLen (dIv false 0)) dNil))) 1 d_is_falling_1)
  d_is_falling_t1)
theorem rangeI_mem {lo hi x : Int} : x ∈ rangeI lo hi ↔ lo ≤ x ∧ x < hi := by
  unfold rangeI
  rw [List.mem_map]
  constructor
  · rintro ⟨i, hi, rfl⟩
    rw [List.mem_range] at hi
    omega
  · intro h
    exact ⟨(x - lo).toNat, by rw [List.mem_range]; omega, by omega⟩
theorem law_dir {f : List Int → Bool} {r : Int → Int → Bool} (hf : ∀ row, f row = nbrs r row) {row : List Int} {l : List Int} (p : Int → Bool) (hp : ∀ k : Int, 1 ≤ k → k < row.length → p k = !r (row.getD (k - 1).toNat 0) (row.getD k.toNat 0)) (hl : l = (rangeI 1 row.length).filter p) :
    (false ^^ decide ((l.length : Int) = 0)) = f row := by
  rw [hf, Bool.false_xor, Bool.eq_iff_iff, decide_eq_true_iff]
  subst hl
  constructor
  · intro h
    refine nbrs_of fun k h1 h2 => ?_
    have e : (rangeI 1 row.length).filter p = [] := List.length_eq_zero_iff.mp (by omega)
    rw [List.filter_eq_nil_iff] at e
    have := e k (rangeI_mem.mpr ⟨h1, h2⟩)
    rw [hp k h1 h2] at this
    simpa using this
  · intro h
    rw [List.filter_eq_nil_iff.mpr]
    · rfl
    · intro k hk
      have q := rangeI_mem.mp hk
      rw [hp k q.1 q.2]
      cases e : r (row.getD (k - 1).toNat 0) (row.getD k.toNat 0) with
      | true => simp
      | false => rw [nbrs_no k q.1 q.2 e] at h; cases h
theorem filter_map_int (p : Int → Bool) (f : D → Bool) (hf : ∀ k, f (.int k) = p k) (l : List Int) : (((l.map D.int).filter f).map id).length = (l.filter p).length := by
  rw [List.map_id, List.filter_map, List.length_map]
  congr 1
  apply List.filter_congr
  intro x _
  exact hf x
theorem th_law_rising : ∀ ds Q, sp_law_rising ds Q → d_law_rising (dEnds Q) (dstart 2 ds) := by
  rintro ds Q ⟨row, rfl, hl, hq⟩
  walk_at "w"
  refine ⟨⟨by decide, by decide, by omega, by rw [List.length_map]; omega⟩, ?_⟩
  walk_at "w"
  refine ⟨by rw [rangeD_len, List.length_map]; omega, ?_⟩
  rw [List.length_map, rangeD_eq]
  refine dLcG_filter (fun d => match d with | .int k => decide (row.getD k.toNat 0 ≤ row.getD (k - 1).toNat 0) | _ => false) id (fun x hx R hR => ?_) (fun x hx R _ hR => ?_) ?_
  · obtain ⟨k, hk, rfl⟩ := List.mem_map.mp hx
    have := rangeI_mem.mp hk
    walk_at "w"
    refine ⟨_, atI_getD (by omega) (by omega), ?_⟩
    walk_at "w"
    exact ⟨_, atI_getD (by omega) (by omega), hR⟩
  · obtain ⟨k, hk, rfl⟩ := List.mem_map.mp hx
    exact hR
  · walk_at "w"
    rw [← law_dir (f := rising) (fun _ => rfl) (row := row) (fun k => decide (row.getD k.toNat 0 ≤ row.getD (k - 1).toNat 0)) (fun k _ _ => by rw [Bool.eq_iff_iff]; simp) rfl] at hq
    rw [List.nil_append, filter_map_int _ _ (fun k => rfl)]
    exact hq
theorem th_law_falling : ∀ ds Q, sp_law_falling ds Q → d_law_falling (dEnds Q) (dstart 2 ds) := by
  rintro ds Q ⟨row, rfl, hl, hq⟩
  walk_at "w"
  refine ⟨⟨by decide, by decide, by omega, by rw [List.length_map]; omega⟩, ?_⟩
  walk_at "w"
  refine ⟨by rw [rangeD_len, List.length_map]; omega, ?_⟩
  rw [List.length_map, rangeD_eq]
  refine dLcG_filter (fun d => match d with | .int k => decide (row.getD (k - 1).toNat 0 ≤ row.getD k.toNat 0) | _ => false) id (fun x hx R hR => ?_) (fun x hx R _ hR => ?_) ?_
  · obtain ⟨k, hk, rfl⟩ := List.mem_map.mp hx
    have := rangeI_mem.mp hk
    walk_at "w"
    refine ⟨_, atI_getD (by omega) (by omega), ?_⟩
    walk_at "w"
    exact ⟨_, atI_getD (by omega) (by omega), hR⟩
  · obtain ⟨k, hk, rfl⟩ := List.mem_map.mp hx
    exact hR
  · walk_at "w"
    rw [← law_dir (f := falling) (fun _ => rfl) (row := row) (fun k => decide (row.getD (k - 1).toNat 0 ≤ row.getD k.toNat 0)) (fun k _ _ => by rw [Bool.eq_iff_iff]; simp) rfl] at hq
    rw [List.nil_append, filter_map_int _ _ (fun k => rfl)]
    exact hq
theorem is_rising_loop {P : DEnds} {row : List Int} : ∀ (n : Nat) (k : Int) (s1 : Sl), (row.length : Int) - k = n → 1 ≤ k → (∀ j : Int, 1 ≤ j → j < k → row.getD (j - 1).toNat 0 < row.getD j.toNat 0) →
    (rising row = true → ∀ s, P.nx [.fz (dints row), s]) → (rising row = false → P.rt (.bl false)) → dForG d_is_rising_1 1 P (rangeD k row.length) [.fz (dints row), s1]
  | 0, k, s1, hn, h1, hj, g1, g2 => by
    rw [rangeD_nil (by omega)]
    exact g1 (nbrs_of fun j j1 j2 => decide_eq_true (hj j j1 (by omega))) s1
  | n + 1, k, s1, hn, h1, hj, g1, g2 => by
    rw [rangeD_cons (by omega)]
    walk_at "w"
    refine ⟨_, atI_getD (by omega) (by omega), ?_⟩
    walk_at "w"
    refine ⟨_, atI_getD (by omega) (by omega), ?_⟩
    walk_at "w"
    refine ⟨fun h => ?_, fun h => ?_⟩
    · rw [decide_eq_true_iff] at h
      exact g2 (nbrs_no k h1 (by omega) (by rw [decide_eq_false_iff_not]; omega))
    · rw [decide_eq_false_iff_not] at h
      refine is_rising_loop n (k + 1) (.fz (.int k)) (by omega) (by omega) (fun j j1 j2 => ?_) g1 g2
      by_cases e : j = k
      · subst e; omega
      · exact hj j j1 (by omega)
theorem th_is_rising : ∀ ds Q, sp_is_rising ds Q → d_is_rising (dEnds Q) (dstart 2 ds) := by
  rintro ds Q ⟨row, rfl, hl, hq⟩
  walk_at "w"
  refine ⟨⟨by decide, by decide, by omega, by rw [List.length_map]; omega⟩, ?_⟩
  rw [List.length_map]
  by_cases h : (row.length : Int) < 1
  · rw [rangeD_nil (by omega)]
    have : rising row = true := nbrs_of fun j j1 j2 => by omega
    rw [this] at hq
    exact hq
  · refine is_rising_loop (row.length - 1) 1 .un (by omega) (by omega) (fun j j1 j2 => by omega) (fun h s => ?_) (fun h => ?_)
    · rw [h] at hq; exact hq
    · rw [h] at hq; exact hq
theorem is_falling_loop {P : DEnds} {row : List Int} : ∀ (n : Nat) (k : Int) (s1 : Sl), (row.length : Int) - k = n → 1 ≤ k → (∀ j : Int, 1 ≤ j → j < k → row.getD j.toNat 0 < row.getD (j - 1).toNat 0) →
    (falling row = true → ∀ s, P.nx [.fz (dints row), s]) → (falling row = false → P.rt (.bl false)) → dForG d_is_falling_1 1 P (rangeD k row.length) [.fz (dints row), s1]
  | 0, k, s1, hn, h1, hj, g1, g2 => by
    rw [rangeD_nil (by omega)]
    exact g1 (nbrs_of fun j j1 j2 => decide_eq_true (hj j j1 (by omega))) s1
  | n + 1, k, s1, hn, h1, hj, g1, g2 => by
    rw [rangeD_cons (by omega)]
    walk_at "w"
    refine ⟨_, atI_getD (by omega) (by omega), ?_⟩
    walk_at "w"
    refine ⟨_, atI_getD (by omega) (by omega), ?_⟩
    walk_at "w"
    refine ⟨fun h => ?_, fun h => ?_⟩
    · rw [decide_eq_true_iff] at h
      exact g2 (nbrs_no k h1 (by omega) (by rw [decide_eq_false_iff_not]; omega))
    · rw [decide_eq_false_iff_not] at h
      refine is_falling_loop n (k + 1) (.fz (.int k)) (by omega) (by omega) (fun j j1 j2 => ?_) g1 g2
      by_cases e : j = k
      · subst e; omega
      · exact hj j j1 (by omega)
theorem th_is_falling : ∀ ds Q, sp_is_falling ds Q → d_is_falling (dEnds Q) (dstart 2 ds) := by
  rintro ds Q ⟨row, rfl, hl, hq⟩
  walk_at "w"
  refine ⟨⟨by decide, by decide, by omega, by rw [List.length_map]; omega⟩, ?_⟩
  rw [List.length_map]
  by_cases h : (row.length : Int) < 1
  · rw [rangeD_nil (by omega)]
    have : falling row = true := nbrs_of fun j j1 j2 => by omega
    rw [this] at hq
    exact hq
  · refine is_falling_loop (row.length - 1) 1 .un (by omega) (by omega) (fun j j1 j2 => by omega) (fun h s => ?_) (fun h => ?_)
    · rw [h] at hq; exact hq
    · rw [h] at hq; exact hq
theorem ln_row {f : List Int → Bool} : ∀ ds Q, sp_row f ds Q → ds.length = 1 := by
  rintro ds Q ⟨row, rfl, _⟩
  rfl
abbrev ln_law_rising := @ln_row rising
abbrev ln_law_falling := @ln_row falling
abbrev ln_is_rising := @ln_row rising
abbrev ln_is_falling := @ln_row falling
end DL

/-! F3: parts of a row -/
namespace DL
open PySem L2
local macro_rules | `(tactic| walk_at "w") => `(tactic| conv => whnf)
local macro_rules | `(tactic| walk_at "side") => `(tactic| first | omega | decide | exact Nat.le_of_ble_eq_true rfl | exact ⟨by decide, by decide⟩ | exact Or.inl ⟨by omega, by omega⟩ | exact Or.inr ⟨by omega, by omega⟩ | (show (_ : Int) ≠ 0; omega) | exact ⟨by omega, by omega⟩ | (rw [List.length_map]; omega) | (simp only [List.length_map, List.length_append, List.length_cons, List.length_nil]; omega))
local macro_rules | `(tactic| walk_at "go") => `(tactic| ((repeat ((conv => whnf); first | (refine And.intro ?_ ?_; · walk_at "side") | refine And.intro (fun h => Bool.noConfusion (show false = true from h)) (fun _ => ?_) | refine And.intro (fun _ => ?_) (fun h => Bool.noConfusion (show true = false from h)))); (conv => whnf)))
local macro_rules | `(tactic| walk_at "if") => `(tactic| refine ⟨fun hc => ?_, fun hc => ?_⟩)
def cutI (ns : List Int) (lo hi : Option Int) : List Int := (ns.drop (HT.sIx ns.length 0 lo)).take (HT.sIx ns.length ns.length hi - HT.sIx ns.length 0 lo)
theorem cutD_map (ns : List Int) (lo hi : Option Int) : cutD (ns.map D.int) lo hi = (cutI ns lo hi).map D.int := by
  unfold cutD cutI
  simp only [List.length_map, List.map_take, List.map_drop]
theorem cutI_len (ns : List Int) (lo hi : Option Int) : (cutI ns lo hi).length ≤ ns.length := by
  unfold cutI
  simp only [List.length_take, List.length_drop]
  omega
theorem eqv_self (ns : List Int) : PyData.eqv (dints ns).py (dints ns).py = true := by
  rw [eqv_dints]
  exact decide_eq_true rfl
/-- what is left of the second when some are left out, looked for from the left -/
def subB : List Int → List Int → Bool
  | [], _ => true
  | _ :: _, [] => false
  | x :: xs, y :: ys => if y = x then subB xs ys else subB (x :: xs) ys
theorem subB_nil (r : List Int) : subB [] r = true := by cases r <;> rfl
theorem subB_iff : ∀ {r p : List Int}, subB p r = true ↔ p.Sublist r
  | [], [] => by simp [subB]
  | [], x :: xs => by simp [subB]
  | y :: ys, [] => by simp [subB]
  | y :: ys, x :: xs => by
    simp only [subB]
    split
    · rename_i h
      subst h
      rw [subB_iff, List.cons_sublist_cons]
    · rename_i h
      rw [subB_iff]
      constructor
      · intro q; exact q.cons _
      · intro q
        cases q with
        | cons _ q => exact q
        | cons_cons => exact (h rfl).elim
def sp_law_part : DSp := fun ds Q => ∃ part row : List Int, ds = [dints part, dints row] ∧ part.length ≤ 1000 ∧ row.length ≤ 1000 ∧ Q (.bl (subB part row))
def d_law_part_1 : DT := (dAnd (dT (dOp oLt (dVar false 2) (dLen (dIv false 1)))) (dT (dOp (oEq true) (dIx (dIv false 1) (dVar false 2)) (dVar false 3))))
def d_law_part_2 : DS := (dSet 2 (dOp oAdd (dVar false 2) (dC (.int 1))))
def d_law_part_t1 : DS := (dSeq (dIfS (dT (dOp (oEq false) (dVar false 2) (dLen (dIv false 1)))) (dRet (dC (.bl false))) dNext)
  (dSet 2 (dOp oAdd (dVar false 2) (dC (.int 1)))))
def d_law_part_3 : DS := (dSeq (dWhile d_law_part_1 d_law_part_2)
  d_law_part_t1)
def d_law_part_t2 : DS := (dRet (dC (.bl true)))
def d_law_part : DS := (dSeq (dSet 2 (dC (.int 0)))
  (dSeq (dFor (dS (dVar true 0)) 3 d_law_part_3)
  d_law_part_t2))
theorem ln_law_part : ∀ ds Q, sp_law_part ds Q → ds.length = 2 := by
  rintro ds Q ⟨p, r, rfl, _⟩
  rfl
theorem drop_getD {row : List Int} {place : Int} (h0 : 0 ≤ place) (h : place < row.length) : row.drop place.toNat = row.getD place.toNat 0 :: row.drop (place + 1).toNat := by
  have hl : place.toNat < row.length := by omega
  rw [List.drop_eq_getElem_cons hl, List.getD_eq_getElem?_getD, List.getElem?_eq_getElem hl, show (place + 1).toNat = place.toNat + 1 by omega]
  rfl
theorem law_part_loop {P : DEnds} {part row : List Int} : ∀ (xs : List Int) (place : Int) (s3 : Sl), 0 ≤ place → place ≤ row.length →
    (subB xs (row.drop place.toNat) = true → ∀ s2 s3, P.nx [.fz (dints part), .fz (dints row), s2, s3]) → (subB xs (row.drop place.toNat) = false → P.rt (.bl false)) →
    dForG d_law_part_3 3 P (xs.map D.int) [.fz (dints part), .fz (dints row), .fz (.int place), s3]
  | [], place, s3, h0, h1, g1, g2 => g1 (subB_nil _) _ _
  | x :: xs, place, s3, h0, h1, g1, g2 => by
    walk_at "w"
    refine ⟨fun m ρ => ∃ p : Int, ρ = [.fz (dints part), .fz (dints row), .fz (.int p), .fz (.int x)] ∧ 0 ≤ p ∧ p ≤ row.length ∧ (m : Int) = row.length - p ∧ subB (x :: xs) (row.drop place.toNat) = subB (x :: xs) (row.drop p.toNat), ⟨(row.length - place).toNat, place, rfl, h0, h1, by omega, rfl⟩, ?_⟩
    rintro m ρ ⟨p, rfl, p0, p1, hm, he⟩
    walk_at "w"
    refine ⟨fun hc => ?_, fun hc => ?_⟩
    · rw [decide_eq_true_iff, List.length_map] at hc
      walk_at "w"
      refine ⟨_, atI_getD p0 hc, ?_⟩
      walk_at "w"
      refine ⟨fun hd => ?_, fun hd => ?_⟩
      · walk_at "w"
        rw [Bool.true_xor, Bool.not_eq_true', decide_eq_false_iff_not] at hd
        refine ⟨(row.length - (p + 1)).toNat, by omega, p + 1, rfl, by omega, by omega, by omega, ?_⟩
        rw [he, drop_getD p0 hc]
        simp only [subB]
        rw [if_neg hd]
      · rw [Bool.true_xor, Bool.not_eq_false', decide_eq_true_iff] at hd
        have e2 : subB (x :: xs) (row.drop place.toNat) = subB xs (row.drop (p + 1).toNat) := by
          rw [he, drop_getD p0 hc]
          simp only [subB]
          rw [if_pos hd]
        walk_at "w"
        refine ⟨fun hz => ?_, fun _ => ?_⟩
        · rw [Bool.false_xor, decide_eq_true_iff, List.length_map] at hz
          omega
        · rw [e2] at g1 g2
          exact law_part_loop xs (p + 1) (.fz (.int x)) (by omega) (by omega) g1 g2
    · rw [decide_eq_false_iff_not, List.length_map] at hc
      have e : p = row.length := by omega
      walk_at "go"
      refine ⟨fun _ => ?_, fun hz => ?_⟩
      · refine g2 ?_
        rw [he, e]
        simp [subB]
      · rw [Bool.false_xor, decide_eq_false_iff_not, List.length_map] at hz
        exact (hz e).elim
theorem th_law_part : ∀ ds Q, sp_law_part ds Q → d_law_part (dEnds Q) (dstart 4 ds) := by
  rintro ds Q ⟨p, r, rfl, _, _, hq⟩
  walk_at "w"
  refine law_part_loop p 0 .un (by decide) (by omega) (fun h s2 s3 => ?_) (fun h => ?_)
  · rw [show ((0 : Int).toNat) = 0 from rfl, List.drop_zero] at h
    rw [h] at hq
    exact hq
  · rw [show ((0 : Int).toNat) = 0 from rfl, List.drop_zero] at h
    rw [h] at hq
    exact hq
def sp_stands_in : DSp := sp_law_part
def d_stands_in_1 : DS := (dIfS (dAnd (dT (dOp oLt (dVar false 2) (dLen (dIv false 0)))) (dT (dOp (oEq false) (dIx (dIv false 0) (dVar false 2)) (dVar false 3)))) (dSet 2 (dOp oAdd (dVar false 2) (dC (.int 1)))) dNext)
def d_stands_in_t1 : DS := (dRet (dOp (oEq false) (dVar false 2) (dLen (dIv false 0))))
def d_stands_in : DS := (dSeq (dSet 2 (dC (.int 0)))
  (dSeq (dFor (dS (dVar true 1)) 3 d_stands_in_1)
  d_stands_in_t1))
theorem ln_stands_in : ∀ ds Q, sp_stands_in ds Q → ds.length = 2 := ln_law_part
theorem stands_in_loop {P : DEnds} {part row : List Int} : ∀ (ys : List Int) (found : Int) (s3 : Sl), 0 ≤ found → found ≤ part.length →
    (∀ (f : Int) s3, (decide (f = part.length) = subB (part.drop found.toNat) ys) → P.nx [.fz (dints part), .fz (dints row), .fz (.int f), s3]) →
    dForG d_stands_in_1 3 P (ys.map D.int) [.fz (dints part), .fz (dints row), .fz (.int found), s3]
  | [], found, s3, h0, h1, g => by
    refine g found s3 ?_
    by_cases h : found = part.length
    · rw [decide_eq_true h, h, Int.toNat_natCast, List.drop_length]
      rfl
    · rw [decide_eq_false h, drop_getD h0 (by omega)]
      rfl
  | y :: ys, found, s3, h0, h1, g => by
    by_cases h : found < part.length
    · by_cases e : part.getD found.toNat 0 = y
      · have ih := stands_in_loop (P := P) (part := part) (row := row) ys (found + 1) (.fz (.int y)) (by omega) (by omega) (fun f s hf => g f s (by
          rw [hf, drop_getD h0 h]
          simp only [subB]
          rw [if_pos e.symm]))
        walk_at "w"
        refine ⟨fun _ => ?_, fun hc => ?_⟩
        · walk_at "w"
          refine ⟨_, atI_getD h0 h, ?_⟩
          walk_at "w"
          refine ⟨fun _ => ih, fun hc => ?_⟩
          rw [Bool.false_xor, decide_eq_false_iff_not] at hc
          exact (hc e).elim
        · rw [decide_eq_false_iff_not, List.length_map] at hc
          exact (hc h).elim
      · have ih := stands_in_loop (P := P) (part := part) (row := row) ys found (.fz (.int y)) h0 h1 (fun f s hf => g f s (by
          rw [hf, drop_getD h0 h]
          simp only [subB]
          rw [if_neg (fun z => e z.symm)]))
        walk_at "w"
        refine ⟨fun _ => ?_, fun hc => ?_⟩
        · walk_at "w"
          refine ⟨_, atI_getD h0 h, ?_⟩
          walk_at "w"
          refine ⟨fun hc => ?_, fun _ => ih⟩
          rw [Bool.false_xor, decide_eq_true_iff] at hc
          exact (e hc).elim
        · rw [decide_eq_false_iff_not, List.length_map] at hc
          exact (hc h).elim
    · have e : found = part.length := by omega
      have ih := stands_in_loop (P := P) (part := part) (row := row) ys found (.fz (.int y)) h0 h1 (fun f s hf => g f s (by
        rw [hf, e, Int.toNat_natCast, List.drop_length, subB_nil, subB_nil]))
      walk_at "w"
      refine ⟨fun hc => ?_, fun _ => ?_⟩
      · rw [decide_eq_true_iff, List.length_map] at hc
        exact (h hc).elim
      · walk_at "go"
        exact ih
theorem th_stands_in : ∀ ds Q, sp_stands_in ds Q → d_stands_in (dEnds Q) (dstart 4 ds) := by
  rintro ds Q ⟨p, r, rfl, _, _, hq⟩
  walk_at "w"
  refine stands_in_loop r 0 .un (by decide) (by omega) (fun f s3 hf => ?_)
  walk_at "w"
  rw [Bool.false_xor, List.length_map, hf]
  exact hq
end DL

/-! M1: rows laid onto lanes: plain mathematics -/
namespace DL
open PySem L2
def lastI (l : List Int) : Int := l.getLastD 0
/-- the first lane whose last wagon is not greater -/
def laneAt : List (List Int) → Int → Nat
  | [], _ => 0
  | l :: ls, w => if w < lastI l then laneAt ls w + 1 else 0
theorem laneAt_le : ∀ (ls : List (List Int)) (w : Int), laneAt ls w ≤ ls.length
  | [], _ => Nat.le_refl _
  | l :: ls, w => by
    simp only [laneAt]
    split
    · have := laneAt_le ls w
      simp only [List.length_cons]; omega
    · exact Nat.zero_le _
theorem laneAt_lt : ∀ {ls : List (List Int)} {w : Int} {i : Nat}, i < laneAt ls w → w < lastI (ls.getD i [])
  | [], _, _, h => by simp [laneAt] at h
  | l :: ls, w, i, h => by
    simp only [laneAt] at h
    split at h
    · rename_i q
      cases i with
      | zero => simpa using q
      | succ i =>
        have := laneAt_lt (ls := ls) (w := w) (i := i) (by omega)
        simpa using this
    · omega
theorem laneAt_at : ∀ {ls : List (List Int)} {w : Int}, laneAt ls w < ls.length → lastI (ls.getD (laneAt ls w) []) ≤ w
  | [], _, h => by simp [laneAt] at h
  | l :: ls, w, h => by
    simp only [laneAt] at h ⊢
    split
    · rename_i q
      rw [if_pos q] at h
      have := laneAt_at (ls := ls) (w := w) (by simpa using h)
      simpa using this
    · rename_i q
      simpa using q
def laneStep (s : List (List Int) × List (Int × Int)) (w : Int) : List (List Int) × List (Int × Int) :=
  let at_ := laneAt s.1 w
  let ls := if at_ = s.1.length then s.1 ++ [[]] else s.1
  (ls.set at_ (ls.getD at_ [] ++ [w]), if 0 < at_ then putI s.2 w (lastI (ls.getD (at_ - 1) [])) else s.2)
def laidM (row : List Int) : List (List Int) × List (Int × Int) := row.foldl laneStep ([], [])
def lanesM (row : List Int) : List (List Int) := (laidM row).1
def aboveM (row : List Int) : List (Int × Int) := (laidM row).2

/-! ### dicts as lists of pairs -/
theorem lookI_nil {α : Type} (k : Int) : lookI ([] : List (Int × α)) k = none := rfl
theorem lookI_cons {α : Type} (p : Int × α) (m : List (Int × α)) (k : Int) : lookI (p :: m) k = if p.1 = k then some p.2 else lookI m k := by
  unfold lookI
  rw [List.find?_cons]
  by_cases h : p.1 = k
  · rw [if_pos h]; simp [h]
  · rw [if_neg h]; simp [h]
theorem lookI_append {α : Type} : ∀ (m n : List (Int × α)) (k : Int), lookI (m ++ n) k = (lookI m k).or (lookI n k)
  | [], n, k => by simp [lookI_nil]
  | p :: m, n, k => by
    rw [List.cons_append, lookI_cons, lookI_cons, lookI_append m n k]
    split <;> simp
theorem any_lookI {α : Type} : ∀ (m : List (Int × α)) (k : Int), (m.any fun p => decide (p.1 = k)) = (lookI m k).isSome
  | [], _ => rfl
  | p :: m, k => by
    rw [List.any_cons, lookI_cons, any_lookI m k]
    by_cases h : p.1 = k
    · simp [h]
    · simp [h]
theorem lookI_map {α β : Type} (f : α → β) : ∀ (m : List (Int × α)) (k : Int), lookI (m.map fun p => (p.1, f p.2)) k = (lookI m k).map f
  | [], _ => rfl
  | p :: m, k => by
    rw [List.map_cons, lookI_cons, lookI_cons, lookI_map f m k]
    split <;> rfl
theorem lookI_put {α : Type} (m : List (Int × α)) (k j : Int) (d : α) : lookI (putI m k d) j = if k = j then some d else lookI m j := by
  unfold putI
  rw [any_lookI]
  cases h : lookI m k with
  | none =>
    rw [Option.isSome_none, if_neg Bool.false_ne_true, lookI_append, lookI_cons, lookI_nil]
    by_cases e : k = j
    · subst e; simp [h]
    · simp [e]
  | some v =>
    rw [Option.isSome_some, if_pos rfl]
    have : ∀ m : List (Int × α), lookI (m.map fun p => if p.1 = k then (p.1, d) else p) j = if k = j then (lookI m j).map (fun _ => d) else lookI m j := by
      intro m
      induction m with
      | nil => simp [lookI_nil]
      | cons p m ih =>
        rw [List.map_cons, lookI_cons, lookI_cons, ih]
        by_cases h1 : p.1 = k
        · by_cases h2 : k = j
          · subst h2; simp [h1]
          · have : ¬ p.1 = j := fun z => h2 (h1.symm.trans z)
            simp [h1, h2]
        · by_cases h2 : k = j
          · subst h2; simp [h1]
          · simp [h1, h2]
    rw [this]
    by_cases e : k = j
    · subst e; simp [h]
    · simp [e]
theorem putI_map {α β : Type} (f : α → β) (m : List (Int × α)) (k : Int) (d : α) : putI (m.map fun p => (p.1, f p.2)) k (f d) = (putI m k d).map fun p => (p.1, f p.2) := by
  unfold putI
  rw [any_lookI, any_lookI, lookI_map]
  cases lookI m k with
  | none => simp
  | some v =>
    simp only [Option.map_some, Option.isSome_some, if_true, List.map_map]
    apply List.map_congr_left
    intro p _
    simp only [Function.comp]
    split <;> rfl
theorem putI_len {α : Type} (m : List (Int × α)) (k : Int) (d : α) : (putI m k d).length ≤ m.length + 1 := by
  unfold putI
  split
  · rw [List.length_map]; omega
  · rw [List.length_append, List.length_singleton]; omega
theorem putI_new {α : Type} {m : List (Int × α)} {k : Int} {d : α} (h : lookI m k = none) : putI m k d = m ++ [(k, d)] := by
  unfold putI
  rw [any_lookI, h]
  rfl

/-! ### places in a row -/
theorem idx_lt {row : List Int} {x : Int} (h : x ∈ row) : row.idxOf x < row.length := List.idxOf_lt_length_iff.mpr h
theorem idx_cons_ne {y x : Int} {l : List Int} (h : y ≠ x) : (y :: l).idxOf x = l.idxOf x + 1 := by
  rw [List.idxOf_cons, show (y == x) = false from beq_eq_false_iff_ne.mpr h]
  rfl
/-- members in the order of their places are a part -/
theorem sublist_of_idx : ∀ {row c : List Int}, (∀ x ∈ c, x ∈ row) → c.Pairwise (fun a b => row.idxOf a < row.idxOf b) → c.Sublist row
  | [], c, hm, _ => by
    cases c with
    | nil => exact .slnil
    | cons x c => exact absurd (hm x (List.mem_cons_self ..)) (List.not_mem_nil)
  | y :: ys, c, hm, hp => by
    have tail : ∀ c : List Int, (∀ x ∈ c, x ∈ y :: ys) → (∀ x ∈ c, x ≠ y) → c.Pairwise (fun a b => (y :: ys).idxOf a < (y :: ys).idxOf b) → c.Sublist ys := fun c hm hn hp => by
      refine sublist_of_idx (fun x hx => ?_) (hp.imp_of_mem fun {a b} ha hb h => ?_)
      · rcases List.mem_cons.mp (hm x hx) with e | e
        · exact (hn x hx e).elim
        · exact e
      · rw [idx_cons_ne (fun z => hn a ha z.symm), idx_cons_ne (fun z => hn b hb z.symm)] at h
        omega
    cases c with
    | nil => exact List.nil_sublist _
    | cons x c =>
      obtain ⟨p1, p2⟩ := List.pairwise_cons.mp hp
      have ny : ∀ z ∈ c, z ≠ y := fun z hz e => by
        have := p1 z hz
        rw [e, List.idxOf_cons_self] at this
        omega
      by_cases e : x = y
      · subst e
        exact (tail c (fun z hz => hm z (List.mem_cons_of_mem _ hz)) ny p2).cons_cons _
      · refine (tail (x :: c) hm (fun z hz => ?_) hp).cons _
        rcases List.mem_cons.mp hz with rfl | hz
        · exact e
        · exact ny z hz
theorem idx_append_left {a b : List Int} {x : Int} (h : x ∈ a) : (a ++ b).idxOf x = a.idxOf x := by
  rw [List.idxOf_append]
  simp [h]
theorem idx_append_self {a b : List Int} {x : Int} (h : x ∉ a) : (a ++ x :: b).idxOf x = a.length := by
  rw [List.idxOf_append]
  simp [h]

/-! ### what holds of lanes -/
structure LaneInv (done : List Int) (ls : List (List Int)) (ab : List (Int × Int)) : Prop where
  ne : ∀ l ∈ ls, l ≠ []
  up : ∀ l ∈ ls, l.Pairwise (· < ·)
  pt : ∀ l ∈ ls, l.Sublist done
  pm : ls.flatten.Perm done
  top : ∀ i l w, ls[i]? = some l → w ∈ l → (i = 0 → lookI ab w = none) ∧ (0 < i → ∃ u, lookI ab w = some u ∧ u ∈ ls.getD (i - 1) [] ∧ w < u ∧ done.idxOf u < done.idxOf w)
  len : ab.length ≤ done.length
  key : ∀ w, w ∉ done → lookI ab w = none
theorem lastI_append (l : List Int) (w : Int) : lastI (l ++ [w]) = w := by simp [lastI]
theorem lastI_mem {l : List Int} (h : l ≠ []) : lastI l ∈ l := by
  unfold lastI
  rw [List.getLastD_eq_getLast?, List.getLast?_eq_some_getLast h]
  exact List.getLast_mem h
theorem le_lastI : ∀ {l : List Int}, l.Pairwise (· < ·) → ∀ x ∈ l, x ≤ lastI l
  | [], _, _, h => by cases h
  | [y], _, x, h => by simp at h; subst h; simp [lastI]
  | y :: z :: l, p, x, h => by
    obtain ⟨p1, p2⟩ := List.pairwise_cons.mp p
    have e : lastI (y :: z :: l) = lastI (z :: l) := by simp [lastI]
    rw [e]
    rcases List.mem_cons.mp h with rfl | h
    · have := p1 z (List.mem_cons_self ..)
      have := le_lastI p2 z (List.mem_cons_self ..)
      omega
    · exact le_lastI p2 x h
theorem flatten_set_perm : ∀ {ls : List (List Int)} {i : Nat} {l : List Int} (w : Int), ls[i]? = some l → ((ls.set i (l ++ [w])).flatten).Perm (w :: ls.flatten)
  | [], _, _, _, h => by simp at h
  | x :: ls, 0, l, w, h => by
    simp only [List.getElem?_cons_zero, Option.some.injEq] at h
    subst h
    simp only [List.set_cons_zero, List.flatten_cons, List.append_assoc, List.singleton_append]
    exact List.perm_middle
  | x :: ls, i + 1, l, w, h => by
    simp only [List.getElem?_cons_succ] at h
    simp only [List.set_cons_succ, List.flatten_cons]
    exact ((flatten_set_perm w h).append_left x).trans List.perm_middle
theorem laneStep_inv {done : List Int} {ls : List (List Int)} {ab : List (Int × Int)} {w : Int} (h : LaneInv done ls ab) (hw : w ∉ done) : LaneInv (done ++ [w]) (laneStep (ls, ab) w).1 (laneStep (ls, ab) w).2 := by
  have key : ∀ (ls1 : List (List Int)) (at_ : Nat) (l : List Int), ls1[at_]? = some l → (∀ m ∈ ls1, m.Pairwise (· < ·)) → (∀ m ∈ ls1, m.Sublist done) → ls1.flatten.Perm done → (∀ x ∈ l, x < w) →
      (∀ i m x, ls1[i]? = some m → x ∈ m → (i = 0 → lookI ab x = none) ∧ (0 < i → ∃ u, lookI ab x = some u ∧ u ∈ ls1.getD (i - 1) [] ∧ x < u ∧ done.idxOf u < done.idxOf x)) →
      (∀ i m, ls1[i]? = some m → i ≠ at_ → m ≠ []) → (0 < at_ → w < lastI (ls1.getD (at_ - 1) [])) →
      LaneInv (done ++ [w]) (ls1.set at_ (l ++ [w])) (if 0 < at_ then putI ab w (lastI (ls1.getD (at_ - 1) [])) else ab) := by
    intro ls1 at_ l hl hup hpt hpm hlw htop hne hab
    have hlen : at_ < ls1.length := (List.getElem?_eq_some_iff.mp hl).1
    have mem_of : ∀ i m, (ls1.set at_ (l ++ [w]))[i]? = some m → (i = at_ ∧ m = l ++ [w]) ∨ (i ≠ at_ ∧ ls1[i]? = some m) := fun i m e => by
      by_cases z : at_ = i
      · subst z
        rw [List.getElem?_set_self hlen] at e
        exact .inl ⟨rfl, (Option.some.inj e).symm⟩
      · rw [List.getElem?_set_ne z] at e
        exact .inr ⟨fun q => z q.symm, e⟩
    have lm : l ∈ ls1 := List.mem_of_getElem? hl
    have inl : ∀ i m x, ls1[i]? = some m → x ∈ m → x ∈ done := fun i m x e hx => (hpt m (List.mem_of_getElem? e)).subset hx
    have look : ∀ x, x ∈ done → lookI (if 0 < at_ then putI ab w (lastI (ls1.getD (at_ - 1) [])) else ab) x = lookI ab x := fun x hx => by
      have : ¬ w = x := fun z => hw (z ▸ hx)
      split
      · rw [lookI_put, if_neg this]
      · rfl
    have getD_set : ∀ i, i ≠ at_ → (ls1.set at_ (l ++ [w])).getD i [] = ls1.getD i [] := fun i hi => by
      rw [List.getD_eq_getElem?_getD, List.getD_eq_getElem?_getD, List.getElem?_set_ne (fun z => hi z.symm)]
    have getD_at : (ls1.set at_ (l ++ [w])).getD at_ [] = l ++ [w] := by
      rw [List.getD_eq_getElem?_getD, List.getElem?_set_self hlen]
      rfl
    have getD_l : ls1.getD at_ [] = l := by
      rw [List.getD_eq_getElem?_getD, hl]
      rfl
    refine ⟨fun m hm => ?_, fun m hm => ?_, fun m hm => ?_, ?_, fun i m x e hx => ?_, ?_, fun x hx => ?_⟩
    · obtain ⟨i, e⟩ := List.mem_iff_getElem?.mp hm
      rcases mem_of i m e with ⟨rfl, rfl⟩ | ⟨z, e⟩
      · simp
      · exact hne i m e z
    · obtain ⟨i, e⟩ := List.mem_iff_getElem?.mp hm
      rcases mem_of i m e with ⟨rfl, rfl⟩ | ⟨z, e⟩
      · rw [List.pairwise_append]
        refine ⟨hup l lm, List.pairwise_singleton _ _, fun a ha b hb => ?_⟩
        simp only [List.mem_singleton] at hb
        subst hb
        exact hlw a ha
      · exact hup m (List.mem_of_getElem? e)
    · obtain ⟨i, e⟩ := List.mem_iff_getElem?.mp hm
      rcases mem_of i m e with ⟨rfl, rfl⟩ | ⟨z, e⟩
      · exact (hpt l lm).append (List.Sublist.refl _)
      · exact (hpt m (List.mem_of_getElem? e)).trans (List.sublist_append_left _ _)
    · refine (flatten_set_perm w hl).trans ?_
      refine (hpm.cons w).trans ?_
      exact (List.perm_append_singleton w done).symm
    · rcases mem_of i m e with ⟨rfl, rfl⟩ | ⟨z, e⟩
      · rcases List.mem_append.mp hx with hx | hx
        · have hd := inl i l x hl hx
          rw [look x hd]
          refine ⟨(htop i l x hl hx).1, fun hi => ?_⟩
          obtain ⟨u, u1, u2, u3, u4⟩ := (htop i l x hl hx).2 hi
          have ud : u ∈ done := by
            have hlt : i - 1 < ls1.length := by omega
            rw [List.getD_eq_getElem?_getD, List.getElem?_eq_getElem hlt] at u2
            exact inl (i - 1) _ u (List.getElem?_eq_getElem hlt) u2
          refine ⟨u, u1, ?_, u3, ?_⟩
          · rw [getD_set _ (by omega)]; exact u2
          · rw [idx_append_left ud, idx_append_left hd]; exact u4
        · simp only [List.mem_singleton] at hx
          subst hx
          refine ⟨fun hi => ?_, fun hi => ?_⟩
          · subst hi
            rw [if_neg (by omega)]
            exact h.key x hw
          · rw [if_pos hi, lookI_put, if_pos rfl]
            have hlt : i - 1 < ls1.length := by omega
            have gm : ls1.getD (i - 1) [] ∈ ls1 := by
              rw [List.getD_eq_getElem?_getD, List.getElem?_eq_getElem hlt]
              exact List.getElem_mem hlt
            have gne : ls1.getD (i - 1) [] ≠ [] := hne (i - 1) _ (by rw [List.getD_eq_getElem?_getD, List.getElem?_eq_getElem hlt]; rfl) (by omega)
            have um := lastI_mem gne
            have ud := (hpt _ gm).subset um
            refine ⟨_, rfl, ?_, hab hi, ?_⟩
            · rw [getD_set _ (by omega)]; exact um
            · rw [idx_append_left ud, idx_append_self hw]
              exact idx_lt ud
      · have hd := inl i m x e hx
        rw [look x hd]
        refine ⟨(htop i m x e hx).1, fun hi => ?_⟩
        obtain ⟨u, u1, u2, u3, u4⟩ := (htop i m x e hx).2 hi
        have ilt : i < ls1.length := (List.getElem?_eq_some_iff.mp e).1
        have ud : u ∈ done := by
          have hlt : i - 1 < ls1.length := by omega
          rw [List.getD_eq_getElem?_getD, List.getElem?_eq_getElem hlt] at u2
          exact inl (i - 1) _ u (List.getElem?_eq_getElem hlt) u2
        refine ⟨u, u1, ?_, u3, ?_⟩
        · by_cases q : i - 1 = at_
          · rw [q, getD_at]
            rw [q, getD_l] at u2
            exact List.mem_append.mpr (.inl u2)
          · rw [getD_set _ q]; exact u2
        · rw [idx_append_left ud, idx_append_left hd]; exact u4
    · rw [List.length_append, List.length_singleton]
      have := h.len
      split
      · exact Nat.le_trans (putI_len _ _ _) (by omega)
      · omega
    · rw [List.mem_append, List.mem_singleton] at hx
      have hx1 : x ∉ done := fun z => hx (.inl z)
      have hx2 : ¬ w = x := fun z => hx (.inr z.symm)
      split
      · rw [lookI_put, if_neg hx2]; exact h.key x hx1
      · exact h.key x hx1
  have hat := laneAt_le ls w
  show LaneInv (done ++ [w]) ((if laneAt ls w = ls.length then ls ++ [[]] else ls).set (laneAt ls w) ((if laneAt ls w = ls.length then ls ++ [[]] else ls).getD (laneAt ls w) [] ++ [w]))
    (if 0 < laneAt ls w then putI ab w (lastI ((if laneAt ls w = ls.length then ls ++ [[]] else ls).getD (laneAt ls w - 1) [])) else ab)
  by_cases q : laneAt ls w = ls.length
  · rw [if_pos q, q]
    have e1 : (ls ++ [[]])[ls.length]? = some [] := by simp
    have e2 : (ls ++ [[]]).getD ls.length [] = [] := by rw [List.getD_eq_getElem?_getD, e1]; rfl
    rw [e2]
    have small : ∀ i m, (ls ++ [[]])[i]? = some m → (i < ls.length ∧ ls[i]? = some m) ∨ (i = ls.length ∧ m = []) := fun i m e => by
      by_cases z : i < ls.length
      · rw [List.getElem?_append_left z] at e
        exact .inl ⟨z, e⟩
      · have hi := (List.getElem?_eq_some_iff.mp e).1
        rw [List.length_append, List.length_singleton] at hi
        have : i = ls.length := by omega
        subst this
        rw [e1] at e
        exact .inr ⟨rfl, (Option.some.inj e).symm⟩
    have gD : ∀ i, i < ls.length → (ls ++ [[]]).getD i [] = ls.getD i [] := fun i hi => by
      rw [List.getD_eq_getElem?_getD, List.getD_eq_getElem?_getD, List.getElem?_append_left hi]
    refine key (ls ++ [[]]) ls.length [] e1 (fun m hm => ?_) (fun m hm => ?_) ?_ (fun x hx => by cases hx) (fun i m x e hx => ?_) (fun i m e z => ?_) (fun hp => ?_)
    · rcases List.mem_append.mp hm with hm | hm
      · exact h.up m hm
      · simp only [List.mem_singleton] at hm; subst hm; exact .nil
    · rcases List.mem_append.mp hm with hm | hm
      · exact h.pt m hm
      · simp only [List.mem_singleton] at hm; subst hm; exact List.nil_sublist _
    · simpa using h.pm
    · rcases small i m e with ⟨z, e⟩ | ⟨_, rfl⟩
      · refine ⟨(h.top i m x e hx).1, fun hi => ?_⟩
        obtain ⟨u, u1, u2, u3⟩ := (h.top i m x e hx).2 hi
        exact ⟨u, u1, by rw [gD _ (by omega)]; exact u2, u3⟩
      · cases hx
    · rcases small i m e with ⟨_, e⟩ | ⟨e, _⟩
      · exact h.ne m (List.mem_of_getElem? e)
      · exact (z e).elim
    · rw [gD _ (by omega)]
      exact laneAt_lt (by omega)
  · have hlt : laneAt ls w < ls.length := by omega
    rw [if_neg q]
    have e1 : ls[laneAt ls w]? = some (ls.getD (laneAt ls w) []) := by
      rw [List.getD_eq_getElem?_getD, List.getElem?_eq_getElem hlt]
      rfl
    refine key ls _ _ e1 h.up h.pt h.pm (fun x hx => ?_) h.top (fun i m e _ => h.ne m (List.mem_of_getElem? e)) (fun hp => laneAt_lt (by omega))
    have gm : ls.getD (laneAt ls w) [] ∈ ls := List.mem_of_getElem? e1
    have le := le_lastI (h.up _ gm) x hx
    have := laneAt_at hlt
    have hd := (h.pt _ gm).subset hx
    have : x ≠ w := fun z => hw (z ▸ hd)
    omega
theorem laneInv_run : ∀ (xs done : List Int) (s : List (List Int) × List (Int × Int)), LaneInv done s.1 s.2 → (done ++ xs).Nodup → LaneInv (done ++ xs) (xs.foldl laneStep s).1 (xs.foldl laneStep s).2
  | [], done, s, h, _ => by simpa using h
  | x :: xs, done, s, h, nd => by
    have hx : x ∉ done := fun z => by
      rw [List.nodup_append] at nd
      exact nd.2.2 x z x (List.mem_cons_self ..) rfl
    have := laneInv_run xs (done ++ [x]) (laneStep s x) (laneStep_inv h hx) (by simpa using nd)
    simpa using this
theorem laid_inv {row : List Int} (nd : row.Nodup) : LaneInv row (lanesM row) (aboveM row) := by
  have := laneInv_run row [] ([], []) ⟨fun _ h => (by cases h), fun _ h => (by cases h), fun _ h => (by cases h), .nil, fun i l w h => (by simp at h), Nat.le_refl _, fun _ _ => rfl⟩ (by simpa using nd)
  rw [List.nil_append] at this
  exact this
end DL

/-! F4: laid, fewest -/
namespace DL
open PySem L2
local macro_rules | `(tactic| walk_at "w") => `(tactic| conv => whnf)
local macro_rules | `(tactic| walk_at "side") => `(tactic| first | omega | decide | exact Nat.le_of_ble_eq_true rfl | exact ⟨by decide, by decide⟩ | exact Or.inl ⟨by omega, by omega⟩ | exact Or.inr ⟨by omega, by omega⟩ | (show (_ : Int) ≠ 0; omega) | exact ⟨by omega, by omega⟩ | (rw [List.length_map]; omega) | (simp only [List.length_map, List.length_append, List.length_cons, List.length_nil]; omega))
local macro_rules | `(tactic| walk_at "go") => `(tactic| ((repeat ((conv => whnf); first | (refine And.intro ?_ ?_; · walk_at "side") | refine And.intro (fun h => Bool.noConfusion (show false = true from h)) (fun _ => ?_) | refine And.intro (fun _ => ?_) (fun h => Bool.noConfusion (show true = false from h)))); (conv => whnf)))
local macro_rules | `(tactic| walk_at "if") => `(tactic| refine ⟨fun hc => ?_, fun hc => ?_⟩)
def dmap (m : List (Int × Int)) : List (Int × D) := m.map fun p => (p.1, D.int p.2)
def llD (ls : List (List Int)) : List (List D) := ls.map fun l => l.map D.int
theorem llD_lst (ls : List (List Int)) : (llD ls).map D.lst = ls.map dints := by
  unfold llD
  rw [List.map_map]
  rfl
theorem atI_neg1 {l : List Int} (h : l ≠ []) : atI (l.map D.int) (-1) = some (.int (lastI l)) := by
  obtain ⟨x, hx⟩ : ∃ x, l.getLast? = some x := ⟨_, List.getLast?_eq_some_getLast h⟩
  have e : l = l.dropLast ++ [lastI l] := by
    unfold lastI
    rw [List.getLastD_eq_getLast?, List.getLast?_eq_some_getLast h]
    exact (List.dropLast_concat_getLast h).symm
  rw [e, List.map_append, lastI_append]
  exact L2.atI_last _ _
theorem ixN_nat {n j : Nat} (hj : j < n) : ixN n (j : Int) = some j := by
  unfold ixN
  rw [if_pos (by omega), if_pos (by omega)]
  simp
theorem atI_ll {ls : List (List Int)} {i : Nat} (h : i < ls.length) : atI ((llD ls).map D.lst) (i : Int) = some (dints (ls.getD i [])) := by
  rw [llD_lst]
  refine atI_map (f := dints) (by omega) ?_
  rw [Int.toNat_natCast, List.getD_eq_getElem?_getD, List.getElem?_eq_getElem h]
  rfl
theorem LaneInv.few {done : List Int} {ls : List (List Int)} {ab : List (Int × Int)} (h : LaneInv done ls ab) : ls.length ≤ done.length := by
  have e : ls.flatten.length = done.length := h.pm.length_eq
  have : ∀ ls : List (List Int), (∀ l ∈ ls, l ≠ []) → ls.length ≤ ls.flatten.length := fun ls => by
    induction ls with
    | nil => intro _; exact Nat.le_refl _
    | cons l ls ih =>
      intro g
      have := ih fun m hm => g m (List.mem_cons_of_mem _ hm)
      have := List.length_pos_iff.mpr (g l (List.mem_cons_self ..))
      rw [List.flatten_cons, List.length_append, List.length_cons]
      omega
  rw [← e]
  exact this ls h.ne
def sp_laid : DSp := fun ds Q => ∃ row : List Int, ds = [dints row] ∧ row.Nodup ∧ row.length ≤ 100 ∧ Q (.tup [.lst ((lanesM row).map dints), .dct (dmap (aboveM row))])
def d_laid_1 : DT := (dAnd (dT (dOp oLt (dVar false 4) (dLen (dIv false 1)))) (dT (dOp oGt (dIx (dI (dIx (dIv false 1) (dVar false 4))) (dNeg (dC (.int 1)))) (dVar false 3))))
def d_laid_2 : DS := (dSet 4 (dOp oAdd (dVar false 4) (dC (.int 1))))
def d_laid_t1 : DS := (dJoin (dIfS (dT (dOp (oEq false) (dVar false 4) (dLen (dIv false 1)))) (dApp2Nil 1) dNext)
  (dJoin (dIfS (dT (dOp oGt (dVar false 4) (dC (.int 0)))) (dPut 2 (dVar false 3) (dFlat (dIx (dI (dIx (dIv false 1) (dOp oSub (dVar false 4) (dC (.int 1))))) (dNeg (dC (.int 1)))))) dNext)
  (dApp2 1 (dVar false 4) (dVar true 3))))
def d_laid_3 : DS := (dSeq (dSet 4 (dC (.int 0)))
  (dSeq (dWhile d_laid_1 d_laid_2)
  d_laid_t1))
def d_laid_t2 : DS := (dRet (dTup (dCons (dVar true 1) (dCons (dVar true 2) dNil))))
def d_laid : DS := (dSeq (dNew2 1)
  (dSeq (dNewK 2)
  (dSeq (dFor (dS (dVar true 0)) 3 d_laid_3)
  d_laid_t2)))
theorem ln_laid : ∀ ds Q, sp_laid ds Q → ds.length = 1 := by
  rintro ds Q ⟨r, rfl, _⟩
  rfl
theorem getD_mem {ls : List (List Int)} {i : Nat} (h : i < ls.length) : ls.getD i [] ∈ ls := by
  rw [List.getD_eq_getElem?_getD, List.getElem?_eq_getElem h]
  exact List.getElem_mem h
theorem laid_rest {P : DEnds} {row done : List Int} {ls : List (List Int)} {ab : List (Int × Int)} {w : Int} (h : LaneInv done ls ab) (hdl : done.length ≤ 100)
    (g : P.nx [.fz (dints row), .l2 (llD (laneStep (ls, ab) w).1), .dk (dmap (laneStep (ls, ab) w).2), .fz (.int w), .fz (.int (laneAt ls w : Nat))]) :
    d_laid_t1 P [.fz (dints row), .l2 (llD ls), .dk (dmap ab), .fz (.int w), .fz (.int (laneAt ls w : Nat))] := by
  have hf := h.few
  have hab := h.len
  have ha := laneAt_le ls w
  have llen : ∀ ls, (llD ls).length = ls.length := fun ls => by unfold llD; rw [List.length_map]
  refine ⟨fun ρ => ρ = [.fz (dints row), .l2 (llD (if laneAt ls w = ls.length then ls ++ [[]] else ls)), .dk (dmap ab), .fz (.int w), .fz (.int (laneAt ls w : Nat))], ?_, ?_⟩
  · walk_at "w"
    refine ⟨fun hc => ?_, fun hc => ?_⟩
    · rw [Bool.false_xor, decide_eq_true_iff, List.length_map, llen] at hc
      rw [if_pos (by omega)]
      walk_at "w"
      refine ⟨by rw [llen]; omega, ?_⟩
      unfold llD
      rw [List.map_append]
      rfl
    · rw [Bool.false_xor, decide_eq_false_iff_not, List.length_map, llen] at hc
      rw [if_neg (by omega)]
      rfl
  rintro ρ rfl
  have gD : ∀ i, i < ls.length → (if laneAt ls w = ls.length then ls ++ [[]] else ls).getD i [] = ls.getD i [] := fun i hi => by
    split
    · rw [List.getD_eq_getElem?_getD, List.getD_eq_getElem?_getD, List.getElem?_append_left hi]
    · rfl
  have len1 : laneAt ls w < (if laneAt ls w = ls.length then ls ++ [[]] else ls).length := by
    split
    · rw [List.length_append, List.length_singleton]; omega
    · omega
  have inl : ∀ x ∈ (if laneAt ls w = ls.length then ls ++ [[]] else ls), x.length ≤ 100 := fun x hx => by
    split at hx
    · rcases List.mem_append.mp hx with hx | hx
      · exact Nat.le_trans (h.pt x hx).length_le hdl
      · simp only [List.mem_singleton] at hx; subst hx; exact Nat.zero_le _
    · exact Nat.le_trans (h.pt x hx).length_le hdl
  have e2 : (laneStep (ls, ab) w) = ((if laneAt ls w = ls.length then ls ++ [[]] else ls).set (laneAt ls w) ((if laneAt ls w = ls.length then ls ++ [[]] else ls).getD (laneAt ls w) [] ++ [w]),
    if 0 < laneAt ls w then putI ab w (lastI ((if laneAt ls w = ls.length then ls ++ [[]] else ls).getD (laneAt ls w - 1) [])) else ab) := rfl
  rw [e2] at g
  refine ⟨fun ρ => ρ = [.fz (dints row), .l2 (llD (if laneAt ls w = ls.length then ls ++ [[]] else ls)), .dk (dmap (if 0 < laneAt ls w then putI ab w (lastI ((if laneAt ls w = ls.length then ls ++ [[]] else ls).getD (laneAt ls w - 1) [])) else ab)), .fz (.int w), .fz (.int (laneAt ls w : Nat))], ?_, ?_⟩
  · generalize (if laneAt ls w = ls.length then ls ++ [[]] else ls) = ls1 at *
    walk_at "w"
    refine ⟨fun hc => ?_, fun hc => ?_⟩
    · rw [decide_eq_true_iff] at hc
      have hp : 0 < laneAt ls w := by omega
      rw [if_pos hp]
      walk_at "w"
      rw [show ((laneAt ls w : Nat) : Int) - 1 = ((laneAt ls w - 1 : Nat) : Int) by omega]
      refine ⟨_, atI_ll (by omega), ?_⟩
      walk_at "w"
      have gm := getD_mem (show laneAt ls w - 1 < ls.length by omega)
      refine ⟨_, atI_neg1 (by rw [gD _ (by omega)]; exact h.ne _ gm), rfl, ?_⟩
      walk_at "w"
      refine ⟨by unfold dmap; rw [List.length_map]; omega, ?_⟩
      unfold dmap
      rw [← putI_map D.int]
      rfl
    · rw [decide_eq_false_iff_not] at hc
      rw [if_neg (by omega)]
      rfl
  rintro ρ rfl
  generalize (if laneAt ls w = ls.length then ls ++ [[]] else ls) = ls1 at *
  walk_at "w"
  refine ⟨laneAt ls w, (ls1.getD (laneAt ls w) []).map D.int, ixN_nat (by rw [llen]; exact len1), ?_, ?_⟩
  · unfold llD
    rw [List.getElem?_map, List.getD_eq_getElem?_getD, List.getElem?_eq_getElem len1]
    rfl
  walk_at "w"
  refine ⟨by rw [List.length_map]; have := inl _ (getD_mem len1); omega, ?_⟩
  have : llD (ls1.set (laneAt ls w) (ls1.getD (laneAt ls w) [] ++ [w])) = (llD ls1).set (laneAt ls w) ((ls1.getD (laneAt ls w) []).map D.int ++ [.int w]) := by
    unfold llD
    rw [List.map_set, List.map_append]
    rfl
  rw [this] at g
  exact g
theorem laid_loop {P : DEnds} {row : List Int} (nd : row.Nodup) (hl : row.length ≤ 100) : ∀ (xs done : List Int) (ls : List (List Int)) (ab : List (Int × Int)) (s3 s4 : Sl), done ++ xs = row → LaneInv done ls ab →
    (∀ s3 s4, P.nx [.fz (dints row), .l2 (llD (xs.foldl laneStep (ls, ab)).1), .dk (dmap (xs.foldl laneStep (ls, ab)).2), s3, s4]) →
    dForG d_laid_3 3 P (xs.map D.int) [.fz (dints row), .l2 (llD ls), .dk (dmap ab), s3, s4]
  | [], done, ls, ab, s3, s4, e, h, g => g s3 s4
  | w :: xs, done, ls, ab, s3, s4, e, h, g => by
    have hdl : done.length + xs.length < row.length := by
      rw [← e, List.length_append, List.length_cons]; omega
    have hf := h.few
    have hab := h.len
    have hw : w ∉ done := fun z => by
      rw [← e, List.nodup_append] at nd
      exact nd.2.2 w z w (List.mem_cons_self ..) rfl
    have ha := laneAt_le ls w
    have llen : (llD ls).length = ls.length := by unfold llD; rw [List.length_map]
    have fin := laid_loop (P := P) nd hl xs (done ++ [w]) (laneStep (ls, ab) w).1 (laneStep (ls, ab) w).2 (.fz (.int w)) (.fz (.int (laneAt ls w : Nat))) (by rw [← e]; simp) (laneStep_inv h hw) g
    walk_at "w"
    refine ⟨fun m ρ => ∃ at_ : Nat, ρ = [.fz (dints row), .l2 (llD ls), .dk (dmap ab), .fz (.int w), .fz (.int at_)] ∧ at_ ≤ laneAt ls w ∧ m = ls.length - at_, ⟨ls.length, 0, rfl, Nat.zero_le _, by omega⟩, ?_⟩
    rintro m ρ ⟨a, rfl, h1, rfl⟩
    walk_at "w"
    refine ⟨fun hc => ?_, fun hc => ?_⟩
    · rw [decide_eq_true_iff, List.length_map, llen] at hc
      have hal : a < ls.length := by omega
      walk_at "w"
      refine ⟨_, atI_ll hal, ?_⟩
      walk_at "w"
      have gm := getD_mem hal
      refine ⟨_, atI_neg1 (h.ne _ gm), ?_⟩
      walk_at "w"
      refine ⟨fun hd => ?_, fun hd => ?_⟩
      · rw [decide_eq_true_iff] at hd
        walk_at "w"
        have : a ≠ laneAt ls w := fun z => by
          have := laneAt_at (ls := ls) (w := w) (by omega)
          rw [← z] at this
          omega
        refine ⟨ls.length - (a + 1), by omega, a + 1, rfl, by omega, rfl⟩
      · rw [decide_eq_false_iff_not] at hd
        have : a = laneAt ls w := by
          by_cases z : a < laneAt ls w
          · have := laneAt_lt z; omega
          · omega
        subst this
        exact laid_rest (P := { P with nx := dForG d_laid_3 3 P (xs.map D.int), ct := dForG d_laid_3 3 P (xs.map D.int), bk := P.nx }) h (by omega) fin
    · rw [decide_eq_false_iff_not, List.length_map, llen] at hc
      have : a = laneAt ls w := by omega
      subst this
      refine ⟨fun h => Bool.noConfusion h, fun _ => ?_⟩
      exact laid_rest (P := { P with nx := dForG d_laid_3 3 P (xs.map D.int), ct := dForG d_laid_3 3 P (xs.map D.int), bk := P.nx }) h (by omega) fin
theorem th_laid : ∀ ds Q, sp_laid ds Q → d_laid (dEnds Q) (dstart 5 ds) := by
  rintro ds Q ⟨row, rfl, nd, hl, hq⟩
  walk_at "w"
  refine laid_loop nd hl row [] [] [] .un .un rfl ⟨fun _ h => (by cases h), fun _ h => (by cases h), fun _ h => (by cases h), .nil, fun i l w h => (by simp at h), Nat.le_refl _, fun _ _ => rfl⟩ (fun s3 s4 => ?_)
  walk_at "go"
  have : (llD (lanesM row)).map D.lst = (lanesM row).map dints := llD_lst _
  rw [← this] at hq
  exact hq
/-- the wall -/
structure WallOk (row wall : List Int) (n : Nat) : Prop where
  len : wall.length = n
  dn : wall.Pairwise (· > ·)
  pt : wall.Sublist row
def sp_fewest : DSp := fun ds Q => ∃ row : List Int, ds = [dints row] ∧ row.Nodup ∧ row.length ≤ 100 ∧ ∀ wall, WallOk row wall (lanesM row).length → Q (.tup [.lst ((lanesM row).map dints), dints wall])
def d_fewest_1 : DT := (dInD false (dVar false 5) 3)
def d_fewest_2 : DS := (dSeq (dSet 5 (dGet true 3 (dVar false 5)))
  (dSet 4 (dL (dCat (dLst (dCons (dVar true 5) dNil)) (dXv true 4)))))
def d_fewest : DS := (dSeq (dSet 1 (dCall sp_laid (dCons (dVar true 0) dNil)))
  (dSeq (dSet 2 (dIx (dIv true 1) (dC (.int 0))))
  (dSeq (dSet 3 (dIx (dIv true 1) (dC (.int 1))))
  (dSeq (dSet 4 (dL (dLst dNil)))
  (dJoin (dIfS (dT (dOp oGt (dLen (dIv false 2)) (dC (.int 0)))) (dSeq (dSet 5 (dIx (dI (dIx (dIv true 2) (dNeg (dC (.int 1))))) (dC (.int 0))))
  (dSeq (dSet 4 (dL (dLst (dCons (dVar true 5) dNil))))
  (dWhile d_fewest_1 d_fewest_2))) dNext)
  (dRet (dTup (dCons (dVar true 2) (dCons (dVar true 4) dNil)))))))))
theorem ln_fewest : ∀ ds Q, sp_fewest ds Q → ds.length = 1 := by
  rintro ds Q ⟨r, rfl, _⟩
  rfl
/-- the chain of greater wagons ahead -/
structure WallInv (row wall : List Int) (w : Int) (i : Nat) : Prop where
  hd : ∃ r, wall = w :: r
  lt : i < (lanesM row).length
  at_ : w ∈ (lanesM row).getD i []
  len : wall.length + i = (lanesM row).length
  dn : wall.Pairwise (· > ·)
  ix : wall.Pairwise (fun a b => row.idxOf a < row.idxOf b)
  mem : ∀ x ∈ wall, x ∈ row
theorem WallInv.done {row wall : List Int} {w : Int} (h : WallInv row wall w 0) : WallOk row wall (lanesM row).length :=
  ⟨h.len, h.dn, sublist_of_idx h.mem h.ix⟩
theorem getD_at {ls : List (List Int)} {i : Nat} (h : i < ls.length) : ls[i]? = some (ls.getD i []) := by
  rw [List.getD_eq_getElem?_getD, List.getElem?_eq_getElem h]
  rfl
theorem WallInv.zero {row wall : List Int} (nd : row.Nodup) {w : Int} {i : Nat} (h : WallInv row wall w i) (n : lookI (aboveM row) w = none) : i = 0 := by
  have inv := laid_inv nd
  by_cases z : i = 0
  · exact z
  · obtain ⟨u, hu, _⟩ := (inv.top i _ w (getD_at h.lt) h.at_).2 (by omega)
    rw [n] at hu
    cases hu
theorem WallInv.more {row wall : List Int} (nd : row.Nodup) {w u : Int} {i : Nat} (h : WallInv row wall w i) (hu : lookI (aboveM row) w = some u) : ∃ j, i = j + 1 ∧ WallInv row (u :: wall) u j := by
  have inv := laid_inv nd
  have tp := inv.top i _ w (getD_at h.lt) h.at_
  have ip : 0 < i := by
    by_cases z : i = 0
    · rw [tp.1 z] at hu; cases hu
    · omega
  obtain ⟨v, h1, h2, h3, h4⟩ := tp.2 ip
  rw [hu] at h1
  cases h1
  obtain ⟨r, rfl⟩ := h.hd
  have jl : i - 1 < (lanesM row).length := by have := h.lt; omega
  refine ⟨i - 1, by omega, ⟨_, rfl⟩, jl, h2, by have := h.len; simp only [List.length_cons] at this ⊢; omega, ?_, ?_, ?_⟩
  · refine List.pairwise_cons.mpr ⟨fun y hy => ?_, h.dn⟩
    rcases List.mem_cons.mp hy with rfl | hy
    · exact h3
    · have := (List.pairwise_cons.mp h.dn).1 y hy
      show u > y
      omega
  · refine List.pairwise_cons.mpr ⟨fun y hy => ?_, h.ix⟩
    rcases List.mem_cons.mp hy with rfl | hy
    · exact h4
    · have := (List.pairwise_cons.mp h.ix).1 y hy
      omega
  · intro x hx
    rcases List.mem_cons.mp hx with rfl | hx
    · exact (inv.pt _ (getD_mem jl)).subset h2
    · exact h.mem x hx
theorem lookI_dmap (m : List (Int × Int)) (k : Int) : lookI (dmap m) k = (lookI m k).map D.int := lookI_map D.int m k
theorem th_fewest : ∀ ds Q, sp_fewest ds Q → d_fewest (dEnds Q) (dstart 6 ds) := by
  rintro ds Q ⟨row, rfl, nd, hl, hq⟩
  have h := laid_inv nd
  have hf := h.few
  walk_at "w"
  refine ⟨row, rfl, nd, hl, ?_⟩
  walk_at "w"
  refine ⟨_, rfl, ?_⟩
  walk_at "w"
  refine ⟨_, rfl, ?_⟩
  walk_at "go"
  refine ⟨fun ρ => ∃ (wall : List Int) (s5 : Sl), WallOk row wall (lanesM row).length ∧ ρ = [.fz (dints row), .fz (.tup [.lst ((lanesM row).map dints), .dct (dmap (aboveM row))]), .fz (.lst ((lanesM row).map dints)), .fz (.dct (dmap (aboveM row))), .fz (dints wall), s5], ?_, ?_⟩
  · walk_at "w"
    refine ⟨fun hc => ?_, fun hc => ?_⟩
    · rw [decide_eq_true_iff, List.length_map] at hc
      have hne : lanesM row ≠ [] := fun z => by rw [z] at hc; exact absurd hc (by decide)
      have lm : (lanesM row).getLast hne ∈ lanesM row := List.getLast_mem hne
      obtain ⟨w, l, el⟩ : ∃ w l, (lanesM row).getLast hne = w :: l := by
        cases z : (lanesM row).getLast hne with
        | nil => exact (h.ne _ lm z).elim
        | cons w l => exact ⟨w, l, rfl⟩
      have e1 := (List.dropLast_concat_getLast hne).symm
      have egD : (lanesM row).getD ((lanesM row).length - 1) [] = w :: l := by
        rw [← el, List.getLast_eq_getElem, List.getD_eq_getElem?_getD, List.getElem?_eq_getElem (by omega)]
        rfl
      walk_at "w"
      refine ⟨dints (w :: l), ?_, ?_⟩
      · rw [← el]
        conv => lhs; arg 1; rw [e1]
        rw [List.map_append]
        exact L2.atI_last _ _
      walk_at "w"
      refine ⟨.int w, atI_map (f := D.int) (by decide) rfl, ?_⟩
      walk_at "go"
      have w0 : WallInv row [w] w ((lanesM row).length - 1) := ⟨⟨[], rfl⟩, by omega, by rw [egD]; exact List.mem_cons_self .., by simp only [List.length_singleton]; omega, List.pairwise_singleton _ _, List.pairwise_singleton _ _, fun x hx => by
        simp only [List.mem_singleton] at hx
        subst hx
        exact (h.pt _ lm).subset (by rw [el]; exact List.mem_cons_self ..)⟩
      refine ⟨fun m ρ => ∃ (wall : List Int) (w : Int), ρ = [.fz (dints row), .fz (.tup [.lst ((lanesM row).map dints), .dct (dmap (aboveM row))]), .fz (.lst ((lanesM row).map dints)), .fz (.dct (dmap (aboveM row))), .fz (dints wall), .fz (.int w)] ∧ WallInv row wall w m, ⟨_, [w], w, rfl, w0⟩, ?_⟩
      rintro m ρ ⟨wall, w, rfl, wi⟩
      walk_at "w"
      cases hu : lookI (aboveM row) w with
      | none =>
        rw [show lookI (dmap (aboveM row)) w = none by rw [lookI_dmap, hu]; rfl]
        walk_at "go"
        have := wi.zero nd hu
        subst this
        exact ⟨wall, _, wi.done, rfl⟩
      | some u =>
        have e : lookI (dmap (aboveM row)) w = some (.int u) := by rw [lookI_dmap, hu]; rfl
        rw [e]
        walk_at "go"
        refine ⟨.int u, e, ?_⟩
        obtain ⟨j, rfl, wj⟩ := wi.more nd hu
        have wl := wi.len
        walk_at "go"
        exact ⟨j, by omega, u :: wall, u, rfl, wj⟩
    · rw [decide_eq_false_iff_not, List.length_map] at hc
      exact ⟨[], .un, ⟨by rw [List.length_nil]; omega, .nil, List.nil_sublist _⟩, rfl⟩
  rintro ρ ⟨wall, s5, hw, rfl⟩
  walk_at "go"
  exact hq wall hw
end DL

/-! F5: looks at what is told -/
namespace DL
open PySem L2
local macro_rules | `(tactic| walk_at "w") => `(tactic| conv => whnf)
local macro_rules | `(tactic| walk_at "side") => `(tactic| first | omega | decide | exact Nat.le_of_ble_eq_true rfl | exact ⟨by decide, by decide⟩ | exact Or.inl ⟨by omega, by omega⟩ | exact Or.inr ⟨by omega, by omega⟩ | (show (_ : Int) ≠ 0; omega) | exact ⟨by omega, by omega⟩ | (rw [List.length_map]; omega) | (simp only [List.length_map, List.length_append, List.length_cons, List.length_nil]; omega))
local macro_rules | `(tactic| walk_at "go") => `(tactic| ((repeat ((conv => whnf); first | (refine And.intro ?_ ?_; · walk_at "side") | refine And.intro (fun h => Bool.noConfusion (show false = true from h)) (fun _ => ?_) | refine And.intro (fun _ => ?_) (fun h => Bool.noConfusion (show true = false from h)))); (conv => whnf)))
local macro_rules | `(tactic| walk_at "if") => `(tactic| refine ⟨fun hc => ?_, fun hc => ?_⟩)
def sp_law_whole : DSp := fun ds Q => ∃ k : Int, ds = [.int k] ∧ Q (.bl true)
def d_law_whole : DS := (dRet (dAndV (dIsi "int" (dVar false 0)) (dNotV (dIsi "bool" (dVar false 0)))))
theorem ln_law_whole : ∀ ds Q, sp_law_whole ds Q → ds.length = 1 := by
  rintro ds Q ⟨r, rfl, _⟩
  rfl
theorem th_law_whole : ∀ ds Q, sp_law_whole ds Q → d_law_whole (dEnds Q) (dstart 1 ds) := by
  rintro ds Q ⟨k, rfl, hq⟩
  walk_at "go"
  exact hq
def sp_law_wagons : DSp := fun ds Q => ∃ row : List Int, ds = [dints row] ∧ Q (.bl true)
def d_law_wagons_1 : DS := (dIfS (dNot (dT (dCall sp_law_whole (dCons (dVar false 1) dNil)))) (dRet (dC (.bl false))) dNext)
def d_law_wagons_t1 : DS := (dRet (dC (.bl true)))
def d_law_wagons : DS := (dSeq (dIfS (dNot (dT (dIsi "list" (dVar false 0)))) (dRet (dC (.bl false))) dNext)
  (dSeq (dFor (dS (dVar true 0)) 1 d_law_wagons_1)
  d_law_wagons_t1))
theorem ln_law_wagons : ∀ ds Q, sp_law_wagons ds Q → ds.length = 1 := by
  rintro ds Q ⟨r, rfl, _⟩
  rfl
theorem wagons_loop {P : DEnds} {row : List Int} (g : ∀ s, P.nx [.fz (dints row), s]) : ∀ (xs : List Int) (s1 : Sl), dForG d_law_wagons_1 1 P (xs.map D.int) [.fz (dints row), s1]
  | [], s1 => g s1
  | x :: xs, s1 => by
    walk_at "w"
    refine ⟨x, rfl, ?_⟩
    walk_at "go"
    exact wagons_loop g xs _
theorem th_law_wagons : ∀ ds Q, sp_law_wagons ds Q → d_law_wagons (dEnds Q) (dstart 2 ds) := by
  rintro ds Q ⟨row, rfl, hq⟩
  walk_at "go"
  exact wagons_loop (fun s => hq) row _
theorem nodup_len : ∀ {l r : List Int}, l.Nodup → (∀ x ∈ l, x ∈ r) → l.length ≤ r.length
  | [], _, _, _ => Nat.zero_le _
  | x :: l, r, nd, h => by
    obtain ⟨n1, n2⟩ := List.nodup_cons.mp nd
    have hx := h x (List.mem_cons_self ..)
    have := nodup_len (l := l) (r := r.erase x) n2 fun y hy => (List.mem_erase_of_ne (fun z : y = x => n1 (z ▸ hy))).mpr (h y (List.mem_cons_of_mem _ hy))
    rw [List.length_erase_of_mem hx] at this
    have := List.length_pos_of_mem hx
    rw [List.length_cons]
    omega
/-- rows apart: parts of the row, none empty, no wagon in two -/
structure Apart (rows : List (List Int)) (row : List Int) : Prop where
  ne : ∀ l ∈ rows, l ≠ []
  pt : ∀ l ∈ rows, l.Sublist row
  nd : rows.flatten.Nodup
def sp_law_parts_apart : DSp := fun ds Q => ∃ (rows : List (List Int)) (row : List Int) (bound : Int), ds = [.lst (rows.map dints), dints row, .int bound] ∧ row.length ≤ 100 ∧ rows.length ≤ 1000 ∧ (rows.length : Int) ≤ bound ∧ Apart rows row ∧ Q (.bl true)
def d_law_parts_apart_1 : DS := (dSeq (dIfS (dOr (dNot (dT (dCall sp_law_wagons (dCons (dVar false 4) dNil)))) (dOr (dT (dOp (oEq false) (dLen (dIv false 4)) (dC (.int 0)))) (dNot (dT (dCall sp_law_part (dCons (dVar false 4) (dCons (dVar false 1) dNil))))))) (dRet (dC (.bl false))) dNext)
  (dSet 3 (dL (dCat (dXv true 3) (dXv true 4)))))
def d_law_parts_apart_t1 : DS := (dRet (dOp (oEq false) (dLenSet (dSv false 3)) (dLen (dIv false 3))))
def d_law_parts_apart : DS := (dSeq (dIfS (dOr (dNot (dT (dIsi "list" (dVar false 0)))) (dT (dOp oGt (dLen (dIv false 0)) (dVar false 2)))) (dRet (dC (.bl false))) dNext)
  (dSeq (dSet 3 (dL (dLst dNil)))
  (dSeq (dFor (dS (dVar true 0)) 4 d_law_parts_apart_1)
  d_law_parts_apart_t1)))
theorem ln_law_parts_apart : ∀ ds Q, sp_law_parts_apart ds Q → ds.length = 3 := by
  rintro ds Q ⟨r, r2, b, rfl, _⟩
  rfl
theorem apart_loop {P : DEnds} {rows : List (List Int)} {row : List Int} {bound : Int} (hl : row.length ≤ 100) (pt : ∀ l ∈ rows, l.Sublist row) (ne : ∀ l ∈ rows, l ≠ []) (g : ∀ s, P.nx [.fz (.lst (rows.map dints)), .fz (dints row), .fz (.int bound), .fz (dints rows.flatten), s]) :
    ∀ (todo done : List (List Int)) (s4 : Sl), done ++ todo = rows → rows.length ≤ 1000 → dForG d_law_parts_apart_1 4 P (todo.map dints) [.fz (.lst (rows.map dints)), .fz (dints row), .fz (.int bound), .fz (dints done.flatten), s4]
  | [], done, s4, e, _ => by
    rw [List.append_nil] at e
    subst e
    exact g s4
  | l :: todo, done, s4, e, hr => by
    have lm : l ∈ rows := by rw [← e]; simp
    have sz : ∀ ls : List (List Int), (∀ l ∈ ls, l.length ≤ 100) → ls.flatten.length ≤ 100 * ls.length := fun ls => by
      induction ls with
      | nil => intro _; exact Nat.zero_le _
      | cons l ls ih =>
        intro h
        have := ih fun m hm => h m (List.mem_cons_of_mem _ hm)
        have := h l (List.mem_cons_self ..)
        rw [List.flatten_cons, List.length_append, List.length_cons]
        omega
    have ll := (pt l lm).length_le
    have dl := sz done fun m hm => Nat.le_trans (pt m (by rw [← e]; exact List.mem_append.mpr (.inl hm))).length_le hl
    have : done.length ≤ rows.length := by rw [← e, List.length_append]; omega
    walk_at "w"
    refine ⟨l, rfl, ?_⟩
    walk_at "w"
    refine ⟨fun h => Bool.noConfusion h, fun _ => ?_⟩
    walk_at "w"
    refine ⟨fun h => ?_, fun _ => ?_⟩
    · rw [Bool.false_xor, decide_eq_true_iff, List.length_map] at h
      have := List.length_pos_iff.mpr (ne l lm)
      omega
    walk_at "w"
    refine ⟨l, row, rfl, by omega, by omega, ?_⟩
    rw [subB_iff.mpr (pt l lm)]
    walk_at "w"
    refine ⟨fun h => Bool.noConfusion h, fun _ => ?_⟩
    walk_at "w"
    rw [List.length_map, List.length_map]
    refine ⟨by omega, ?_⟩
    have := apart_loop hl pt ne g todo (done ++ [l]) (.fz (dints l)) (by rw [← e]; simp) hr
    rw [List.flatten_append] at this
    simp only [List.flatten_cons, List.flatten_nil, List.append_nil, dints, List.map_append] at this
    exact this
theorem th_law_parts_apart : ∀ ds Q, sp_law_parts_apart ds Q → d_law_parts_apart (dEnds Q) (dstart 5 ds) := by
  rintro ds Q ⟨rows, row, bound, rfl, hl, hr, hb, ha, hq⟩
  walk_at "w"
  refine ⟨fun h => Bool.noConfusion h, fun _ => ?_⟩
  walk_at "w"
  refine ⟨fun h => ?_, fun _ => ?_⟩
  · rw [decide_eq_true_iff, List.length_map] at h
    omega
  walk_at "go"
  refine apart_loop hl ha.pt ha.ne (fun s => ?_) rows [] .un rfl hr
  walk_at "w"
  have : rows.flatten.length ≤ row.length := by
    have sub : ∀ x ∈ rows.flatten, x ∈ row := fun x hx => by
      obtain ⟨l, h1, h2⟩ := List.mem_flatten.mp hx
      exact (ha.pt l h1).subset h2
    exact nodup_len ha.nd sub
  refine ⟨rows.flatten, rfl, ha.nd, by omega, ?_⟩
  walk_at "w"
  rw [List.length_map]
  rw [show (false ^^ decide ((rows.flatten.length : Int) = rows.flatten.length)) = true by simp]
  exact hq
end DL

/-! M2: a yard's run; the plan for lanes: plain mathematics -/
namespace DL
open PySem L2
/-- true: in, to a lane; a deed: in or out, a track -/
abbrev Deed := Bool × Int
structure Yd where
  rest : List Int
  tracks : List (List Int)
  behind : List Int
/-- kinds: true: a lane -/
def stepM (kinds : List Bool) (s : Yd) (d : Deed) : Option Yd :=
  if 0 ≤ d.2 ∧ d.2 < kinds.length then
    let n := d.2.toNat
    let t := s.tracks.getD n []
    if d.1 = true then
      match s.rest with
      | [] => none
      | w :: r => some ⟨r, s.tracks.set n (t ++ [w]), s.behind⟩
    else
      match t with
      | [] => none
      | x :: xs => if kinds.getD n true = true then some ⟨s.rest, s.tracks.set n xs, s.behind ++ [x]⟩ else some ⟨s.rest, s.tracks.set n (x :: xs).dropLast, s.behind ++ [lastI (x :: xs)]⟩
  else none
def runY (kinds : List Bool) : List Deed → Yd → Option Yd
  | [], s => some s
  | d :: ds, s => (stepM kinds s d).bind (runY kinds ds)
def runM (kinds : List Bool) (row : List Int) (plan : List Deed) : Option (List Int) := (runY kinds plan ⟨row, List.replicate kinds.length [], []⟩).map (·.behind)
theorem runY_append (kinds : List Bool) : ∀ (a b : List Deed) (s : Yd), runY kinds (a ++ b) s = (runY kinds a s).bind (runY kinds b)
  | [], b, s => rfl
  | d :: a, b, s => by
    simp only [List.cons_append, runY]
    cases stepM kinds s d with
    | none => rfl
    | some t => exact runY_append kinds a b t

/-- a part of a row without doubles is what the row has of it -/
theorem filter_of_sublist : ∀ {row l : List Int}, row.Nodup → l.Sublist row → row.filter (fun x => decide (x ∈ l)) = l
  | [], l, _, h => by
    rw [List.sublist_nil.mp h]
    rfl
  | x :: row, l, nd, h => by
    obtain ⟨n1, n2⟩ := List.nodup_cons.mp nd
    cases h with
    | cons _ h =>
      have : x ∉ l := fun z => n1 (h.subset z)
      rw [List.filter_cons, if_neg (by simpa using this)]
      exact filter_of_sublist n2 h
    | @cons_cons l' _ _ h =>
      rw [List.filter_cons, if_pos (by simp)]
      congr 1
      have e := filter_of_sublist n2 h
      conv => rhs; rw [← e]
      apply List.filter_congr
      intro y hy
      have : y ≠ x := fun z => n1 (z ▸ hy)
      simp [this]
theorem isort_perm (row : List Int) : (isort row).Perm row := List.mergeSort_perm row _
theorem isort_le (row : List Int) : (isort row).Pairwise (· ≤ ·) := by
  have := List.pairwise_mergeSort (le := fun a b : Int => decide (a ≤ b)) (fun a b c h1 h2 => by simp at *; omega) (fun a b => by simp; omega) row
  exact this.imp fun h => by simpa using h
theorem isort_lt {row : List Int} (nd : row.Nodup) : (isort row).Pairwise (· < ·) := by
  have n2 : (isort row).Nodup := (isort_perm row).nodup_iff.mpr nd
  have := (isort_le row).and n2
  exact this.imp fun ⟨h1, h2⟩ => by omega
/-- the number of a wagon's lane -/
def laneOf (ls : List (List Int)) (w : Int) : Nat := ls.findIdx fun l => decide (w ∈ l)
structure LanesOk (ls : List (List Int)) (row : List Int) : Prop where
  pm : ls.flatten.Perm row
  pt : ∀ l ∈ ls, l.Sublist row
  up : ∀ l ∈ ls, l.Pairwise (· < ·)
theorem laneOf_lt {ls : List (List Int)} {w : Int} (h : w ∈ ls.flatten) : laneOf ls w < ls.length := by
  obtain ⟨l, h1, h2⟩ := List.mem_flatten.mp h
  exact List.findIdx_lt_length_of_exists ⟨l, h1, by simpa using h2⟩
theorem laneOf_mem {ls : List (List Int)} {w : Int} (h : w ∈ ls.flatten) : w ∈ ls.getD (laneOf ls w) [] := by
  have := List.findIdx_getElem (p := fun l => decide (w ∈ l)) (xs := ls) (w := laneOf_lt h)
  rw [List.getD_eq_getElem?_getD, List.getElem?_eq_getElem (laneOf_lt h)]
  exact of_decide_eq_true this
theorem laneOf_uniq : ∀ {ls : List (List Int)} {w : Int} {i : Nat} {l : List Int}, ls.flatten.Nodup → ls[i]? = some l → w ∈ l → laneOf ls w = i
  | [], _, _, _, _, h, _ => by simp at h
  | m :: ls, w, 0, l, nd, h, hw => by
    simp only [List.getElem?_cons_zero, Option.some.injEq] at h
    subst h
    unfold laneOf
    rw [List.findIdx_cons]
    simp [hw]
  | m :: ls, w, i + 1, l, nd, h, hw => by
    simp only [List.getElem?_cons_succ] at h
    rw [List.flatten_cons, List.nodup_append] at nd
    have wm : w ∉ m := fun z => nd.2.2 w z w (List.mem_flatten.mpr ⟨l, List.mem_of_getElem? h, hw⟩) rfl
    have ih := laneOf_uniq (ls := ls) nd.2.1 h hw
    unfold laneOf at ih ⊢
    rw [List.findIdx_cons]
    simp [wm, ih]
def lanePlan (ls : List (List Int)) (row : List Int) : List Deed := row.map (fun w => (true, (laneOf ls w : Int))) ++ (isort row).map fun w => (false, (laneOf ls w : Int))
theorem map_set_one {α β : Type} {ls : List α} {f g : α → β} {i : Nat} {x : α} (h : ls[i]? = some x) (o : ∀ j y, ls[j]? = some y → j ≠ i → f y = g y) : (ls.map f).set i (g x) = ls.map g := by
  apply List.ext_getElem?
  intro j
  by_cases e : i = j
  · subst e
    have hi := (List.getElem?_eq_some_iff.mp h).1
    rw [List.getElem?_set_self (by rw [List.length_map]; exact hi), List.getElem?_map, h]
    rfl
  · rw [List.getElem?_set_ne e, List.getElem?_map, List.getElem?_map]
    cases q : ls[j]? with
    | none => rfl
    | some y => rw [Option.map_some, Option.map_some, o j y q (fun z => e z.symm)]
theorem getD_map_at {ls : List (List Int)} {f : List Int → List Int} {i : Nat} {l : List Int} (h : ls[i]? = some l) : (ls.map f).getD i [] = f l := by
  rw [List.getD_eq_getElem?_getD, List.getElem?_map, h]
  rfl
theorem ins_run {ls : List (List Int)} {row : List Int} (nd : row.Nodup) (ok : LanesOk ls row) : ∀ (xs done : List Int), done ++ xs = row →
    runY (List.replicate ls.length true) (xs.map fun w => (true, (laneOf ls w : Int))) ⟨xs, ls.map fun l => done.filter fun x => decide (x ∈ l), []⟩ = some ⟨[], ls.map fun l => row.filter fun x => decide (x ∈ l), []⟩
  | [], done, e => by
    rw [List.append_nil] at e
    subst e
    rfl
  | w :: xs, done, e => by
    have fnd : ls.flatten.Nodup := ok.pm.nodup_iff.mpr nd
    have wf : w ∈ ls.flatten := ok.pm.mem_iff.mpr (by rw [← e]; simp)
    have hlt := laneOf_lt wf
    have hm := laneOf_mem wf
    have hat : ls[laneOf ls w]? = some (ls.getD (laneOf ls w) []) := by
      rw [List.getD_eq_getElem?_getD, List.getElem?_eq_getElem hlt]; rfl
    have step : stepM (List.replicate ls.length true) ⟨w :: xs, ls.map fun l => done.filter fun x => decide (x ∈ l), []⟩ (true, (laneOf ls w : Int)) = some ⟨xs, ls.map fun l => (done ++ [w]).filter fun x => decide (x ∈ l), []⟩ := by
      unfold stepM
      rw [if_pos ⟨by omega, by rw [List.length_replicate]; exact Int.ofNat_lt.mpr hlt⟩]
      simp only [if_true, Int.toNat_natCast]
      rw [getD_map_at (f := fun l => done.filter fun x => decide (x ∈ l)) hat]
      have e1 : done.filter (fun x => decide (x ∈ ls.getD (laneOf ls w) [])) ++ [w] = (done ++ [w]).filter fun x => decide (x ∈ ls.getD (laneOf ls w) []) := by
        rw [List.filter_append, List.filter_cons, if_pos (by simpa using hm)]
        rfl
      rw [e1]
      rw [map_set_one (f := fun l => done.filter fun x => decide (x ∈ l)) (g := fun l => (done ++ [w]).filter fun x => decide (x ∈ l)) hat]
      intro j y hj hne
      have : w ∉ y := fun z => hne (laneOf_uniq fnd hj z).symm
      rw [List.filter_append, List.filter_cons, if_neg (by simpa using this)]
      simp
    rw [List.map_cons]
    simp only [runY]
    rw [step]
    exact ins_run nd ok xs (done ++ [w]) (by rw [← e]; simp)
theorem head_least {l : List Int} {w : Int} (up : l.Pairwise (· < ·)) (hw : w ∈ l) (le : ∀ x ∈ l, w ≤ x) : ∃ r, l = w :: r := by
  cases l with
  | nil => cases hw
  | cons y r =>
    rcases List.mem_cons.mp hw with rfl | h
    · exact ⟨r, rfl⟩
    · have := (List.pairwise_cons.mp up).1 w h
      have := le y (List.mem_cons_self ..)
      omega
theorem outs_run {ls : List (List Int)} {row : List Int} (nd : row.Nodup) (ok : LanesOk ls row) : ∀ (xs out : List Int), xs.Pairwise (· < ·) → (∀ x ∈ xs, x ∈ row) →
    runY (List.replicate ls.length true) (xs.map fun w => (false, (laneOf ls w : Int))) ⟨[], ls.map fun l => l.filter fun x => decide (x ∈ xs), out⟩ = some ⟨[], ls.map fun l => l.filter fun x => decide (x ∈ ([] : List Int)), out ++ xs⟩
  | [], out, _, _ => by rw [List.append_nil]; rfl
  | w :: xs, out, up, hm => by
    obtain ⟨u1, u2⟩ := List.pairwise_cons.mp up
    have fnd : ls.flatten.Nodup := ok.pm.nodup_iff.mpr nd
    have wf : w ∈ ls.flatten := ok.pm.mem_iff.mpr (hm w (List.mem_cons_self ..))
    have hlt := laneOf_lt wf
    have hmw := laneOf_mem wf
    have hat : ls[laneOf ls w]? = some (ls.getD (laneOf ls w) []) := by
      rw [List.getD_eq_getElem?_getD, List.getElem?_eq_getElem hlt]; rfl
    have lm : ls.getD (laneOf ls w) [] ∈ ls := List.mem_of_getElem? hat
    have wx : w ∉ xs := fun z => by have := u1 w z; omega
    have e1 : (ls.getD (laneOf ls w) []).filter (fun x => decide (x ∈ w :: xs)) = w :: (ls.getD (laneOf ls w) []).filter fun x => decide (x ∈ xs) := by
      obtain ⟨r, hr⟩ := head_least (l := (ls.getD (laneOf ls w) []).filter (fun x => decide (x ∈ w :: xs))) (w := w) ((ok.up _ lm).sublist List.filter_sublist) (List.mem_filter.mpr ⟨hmw, by simp⟩) (fun x hx => by
        have := (List.mem_filter.mp hx).2
        simp only [List.mem_cons, decide_eq_true_iff] at this
        rcases this with rfl | h
        · omega
        · have := u1 x h; omega)
      have e2 : (ls.getD (laneOf ls w) []).filter (fun x => decide (x ∈ xs)) = ((ls.getD (laneOf ls w) []).filter (fun x => decide (x ∈ w :: xs))).filter fun x => decide (x ∈ xs) := by
        rw [List.filter_filter]
        apply List.filter_congr
        intro y _
        by_cases h : y ∈ xs <;> simp [h]
      have ndf : ((ls.getD (laneOf ls w) []).filter (fun x => decide (x ∈ w :: xs))).Pairwise (· < ·) := (ok.up _ lm).sublist List.filter_sublist
      have all : ∀ y ∈ r, y ∈ xs := fun y hy => by
        have hy2 : y ∈ (ls.getD (laneOf ls w) []).filter (fun x => decide (x ∈ w :: xs)) := by rw [hr]; exact List.mem_cons_of_mem _ hy
        have := (List.mem_filter.mp hy2).2
        simp only [List.mem_cons, decide_eq_true_iff] at this
        rcases this with rfl | h
        · rw [hr] at ndf
          have := (List.pairwise_cons.mp ndf).1 y hy
          omega
        · exact h
      rw [e2, hr, List.filter_cons, if_neg (by simpa using wx), List.filter_eq_self.mpr (fun y hy => by simpa using all y hy)]
    have step : stepM (List.replicate ls.length true) ⟨[], ls.map fun l => l.filter fun x => decide (x ∈ w :: xs), out⟩ (false, (laneOf ls w : Int)) = some ⟨[], ls.map fun l => l.filter fun x => decide (x ∈ xs), out ++ [w]⟩ := by
      unfold stepM
      rw [if_pos ⟨by omega, by rw [List.length_replicate]; exact Int.ofNat_lt.mpr hlt⟩]
      simp only [Bool.false_eq_true, if_false, Int.toNat_natCast]
      rw [getD_map_at (f := fun l => l.filter fun x => decide (x ∈ w :: xs)) hat, e1]
      simp only
      rw [if_pos (by rw [List.getD_eq_getElem?_getD, List.getElem?_replicate, if_pos hlt]; rfl)]
      rw [map_set_one (f := fun l => l.filter fun x => decide (x ∈ w :: xs)) (g := fun l => l.filter fun x => decide (x ∈ xs)) hat]
      intro j y hj hne
      have wy : w ∉ y := fun z => hne (laneOf_uniq fnd hj z).symm
      apply List.filter_congr
      intro z hz
      have : z ≠ w := fun q => wy (q ▸ hz)
      simp [this]
    rw [List.map_cons]
    simp only [runY]
    rw [step]
    have := outs_run nd ok xs (out ++ [w]) u2 (fun x hx => hm x (List.mem_cons_of_mem _ hx))
    rw [List.append_assoc] at this
    exact this
theorem lanePlan_runs {ls : List (List Int)} {row : List Int} (nd : row.Nodup) (ok : LanesOk ls row) : runM (List.replicate ls.length true) row (lanePlan ls row) = some (isort row) := by
  have h1 := ins_run nd ok row [] rfl
  have h2 := outs_run nd ok (isort row) [] (isort_lt nd) (fun x hx => (isort_perm row).mem_iff.mp hx)
  have e0 : (ls.map fun l => ([] : List Int).filter fun x => decide (x ∈ l)) = List.replicate ls.length [] := by
    rw [List.eq_replicate_iff]
    refine ⟨by rw [List.length_map], fun b hb => ?_⟩
    obtain ⟨l, _, rfl⟩ := List.mem_map.mp hb
    rfl
  have e1 : (ls.map fun l => row.filter fun x => decide (x ∈ l)) = ls.map fun l => l.filter fun x => decide (x ∈ isort row) := by
    apply List.map_congr_left
    intro l hl
    rw [filter_of_sublist nd (ok.pt l hl), List.filter_eq_self.mpr]
    intro x hx
    have := (ok.pt l hl).subset hx
    simpa using (isort_perm row).mem_iff.mpr this
  unfold runM lanePlan
  rw [runY_append, List.length_replicate, ← e0, h1]
  show ((runY _ _ _).map _) = _
  rw [e1, h2]
  rfl
end DL

/-! F6: lane_plan; a plan looked at and run by the law -/
namespace DL
open PySem L2
local macro_rules | `(tactic| walk_at "w") => `(tactic| conv => whnf)
local macro_rules | `(tactic| walk_at "side") => `(tactic| first | omega | decide | exact Nat.le_of_ble_eq_true rfl | exact ⟨by decide, by decide⟩ | exact Or.inl ⟨by omega, by omega⟩ | exact Or.inr ⟨by omega, by omega⟩ | (show (_ : Int) ≠ 0; omega) | exact ⟨by omega, by omega⟩ | (rw [List.length_map]; omega) | (simp only [List.length_map, List.length_append, List.length_cons, List.length_nil]; omega))
local macro_rules | `(tactic| walk_at "go") => `(tactic| ((repeat ((conv => whnf); first | (refine And.intro ?_ ?_; · walk_at "side") | refine And.intro (fun h => Bool.noConfusion (show false = true from h)) (fun _ => ?_) | refine And.intro (fun _ => ?_) (fun h => Bool.noConfusion (show true = false from h)))); (conv => whnf)))
local macro_rules | `(tactic| walk_at "if") => `(tactic| refine ⟨fun hc => ?_, fun hc => ?_⟩)
def dirS (b : Bool) : Str := if b = true then "in" else "out"
def deedD (d : Deed) : D := .tup [.str (dirS d.1), .int d.2]
def kindS (b : Bool) : Str := if b = true then "lane" else "stub"
def kindD (b : Bool) : D := .str (kindS b)
theorem lanes_ok {row : List Int} (nd : row.Nodup) : LanesOk (lanesM row) row :=
  have h := laid_inv nd
  ⟨h.pm, h.pt, h.up⟩
def sp_lane_plan : DSp := fun ds Q => ∃ row : List Int, ds = [dints row] ∧ row.Nodup ∧ row.length ≤ 63 ∧ Q (.lst ((lanePlan (lanesM row) row).map deedD))
def d_lane_plan_1 : DS := (dPut 2 (dVar false 4) (dVar true 3))
def d_lane_plan_2 : DS := (dFor (dS (dIx (dIv true 1) (dVar false 3))) 4 d_lane_plan_1)
def d_lane_plan_3 : DE := (dTup (dCons (dC (.str "in")) (dCons (dGet true 2 (dVar false 4)) dNil)))
def d_lane_plan_4 : DE := (dTup (dCons (dC (.str "out")) (dCons (dGet true 2 (dVar false 4)) dNil)))
def d_lane_plan_t1 : DS := (dSeq (dSet 5 (dL (dLc (dS (dVar true 0)) 4 dYes d_lane_plan_3)))
  (dRet (dL (dCat (dXv true 5) (dLc (dSorted (dSv false 0)) 4 dYes d_lane_plan_4)))))
def d_lane_plan : DS := (dSeq (dSet 1 (dIx (dI (dCall sp_laid (dCons (dVar true 0) dNil))) (dC (.int 0))))
  (dSeq (dNewK 2)
  (dSeq (dFor (dRng1 (dCons (dLen (dIv false 1)) dNil)) 3 d_lane_plan_2)
  d_lane_plan_t1)))
theorem ln_lane_plan : ∀ ds Q, sp_lane_plan ds Q → ds.length = 1 := by
  rintro ds Q ⟨r, rfl, _⟩
  rfl
theorem lane_in {P : DEnds} {row : List Int} {L : D} {k : Nat} : ∀ (xs : List Int) (m : List (Int × Int)) (s4 s5 : Sl), m.length + xs.length ≤ 1000 →
    (∀ m' s4, m'.length ≤ m.length + xs.length → (∀ w, lookI m' w = if w ∈ xs then some (k : Int) else lookI m w) → P.nx [.fz (dints row), .fz L, .dk (dmap m'), .fz (.int k), s4, s5]) →
    dForG d_lane_plan_1 4 P (xs.map D.int) [.fz (dints row), .fz L, .dk (dmap m), .fz (.int k), s4, s5]
  | [], m, s4, s5, _, g => g m s4 (by simp) (by simp)
  | x :: xs, m, s4, s5, h, g => by
    simp only [List.length_cons] at h
    have pl := putI_len m x (k : Int)
    walk_at "w"
    refine ⟨by unfold dmap; rw [List.length_map]; omega, ?_⟩
    have := lane_in xs (putI m x (k : Int)) (.fz (.int x)) s5 (by omega) (fun m' s4 h1 h2 => g m' s4 (by rw [List.length_cons]; omega) (fun w => by
      rw [h2, lookI_put]
      by_cases e1 : w ∈ xs
      · rw [if_pos e1, if_pos (List.mem_cons_of_mem _ e1)]
      · rw [if_neg e1]
        by_cases e2 : x = w
        · rw [if_pos e2, if_pos (by rw [e2]; exact List.mem_cons_self ..)]
        · rw [if_neg e2, if_neg (by
            intro z
            rcases List.mem_cons.mp z with z | z
            · exact e2 z.symm
            · exact e1 z)]))
    unfold dmap at this ⊢
    rw [← putI_map D.int] at this
    exact this
theorem lane_out {P : DEnds} {row : List Int} {ls : List (List Int)} (nd : ls.flatten.Nodup) (hl : ls.length ≤ 1000) (hf : ls.flatten.length ≤ 100)
    (g : ∀ m s3 s4 s5, (∀ w ∈ ls.flatten, lookI m w = some (laneOf ls w : Int)) → P.nx [.fz (dints row), .fz (.lst (ls.map dints)), .dk (dmap m), s3, s4, s5]) :
    ∀ (todo done : List (List Int)) (m : List (Int × Int)) (s3 s4 s5 : Sl), done ++ todo = ls → m.length ≤ done.flatten.length → (∀ w ∈ done.flatten, lookI m w = some (laneOf ls w : Int)) →
    dForG d_lane_plan_2 3 P (rangeD done.length ls.length) [.fz (dints row), .fz (.lst (ls.map dints)), .dk (dmap m), s3, s4, s5]
  | [], done, m, s3, s4, s5, e, hm, h => by
    rw [List.append_nil] at e
    subst e
    rw [rangeD_nil (by omega)]
    exact g m s3 s4 s5 h
  | l :: todo, done, m, s3, s4, s5, e, hm, h => by
    have len : ls.length = done.length + (todo.length + 1) := by rw [← e, List.length_append, List.length_cons]
    have fl : ls.flatten.length = done.flatten.length + (l.length + todo.flatten.length) := by rw [← e, List.flatten_append, List.length_append, List.flatten_cons, List.length_append]
    have at_ : ls[done.length]? = some l := by rw [← e]; simp
    rw [rangeD_cons (by omega)]
    walk_at "w"
    refine ⟨dints l, atI_map (f := dints) (by omega) (by rw [Int.toNat_natCast]; exact at_), ?_⟩
    refine lane_in l m s4 s5 (by omega) (fun m' s4 h1 h2 => ?_)
    have := lane_out (P := P) nd hl hf g todo (done ++ [l]) m' (.fz (.int done.length)) s4 s5 (by rw [← e]; simp) (by rw [List.flatten_append, List.length_append, List.flatten_cons, List.flatten_nil, List.append_nil]; omega) (fun w hw => by
      rw [h2]
      by_cases z : w ∈ l
      · rw [if_pos z, laneOf_uniq nd at_ z]
      · rw [if_neg z]
        refine h w ?_
        rw [List.flatten_append] at hw
        rcases List.mem_append.mp hw with hw | hw
        · exact hw
        · simp at hw; exact (z hw).elim)
    rw [List.length_append, List.length_singleton] at this
    exact this
theorem isort_length (row : List Int) : (isort row).length = row.length := (List.mergeSort_perm row _).length_eq
theorem th_lane_plan : ∀ ds Q, sp_lane_plan ds Q → d_lane_plan (dEnds Q) (dstart 6 ds) := by
  rintro ds Q ⟨row, rfl, nd, hl, hq⟩
  have h := laid_inv nd
  have hf := h.few
  have pl : (lanesM row).flatten.length = row.length := h.pm.length_eq
  walk_at "w"
  refine ⟨row, rfl, nd, by omega, ?_⟩
  walk_at "w"
  refine ⟨_, rfl, ?_⟩
  walk_at "w"
  rw [List.length_map]
  refine ⟨by omega, ?_⟩
  refine lane_out (ls := lanesM row) (h.pm.nodup_iff.mpr nd) (by omega) (by omega) (fun m s3 s4 s5 hm => ?_) (lanesM row) [] [] .un .un .un rfl (Nat.le_refl _) (fun w hw => by cases hw)
  have hm2 : ∀ w ∈ row, lookI m w = some (laneOf (lanesM row) w : Int) := fun w hw => hm w (h.pm.mem_iff.mpr hw)
  have look : ∀ w ∈ row, lookI (dmap m) w = some (.int (laneOf (lanesM row) w : Int)) := fun w hw => by rw [lookI_dmap, hm2 w hw]; rfl
  walk_at "w"
  refine ⟨by rw [List.length_map]; omega, ?_⟩
  refine dLcG_map (fun d => match d with | .int w => deedD (true, laneOf (lanesM row) w) | _ => .non) (fun x hx R hR => ?_) ?_
  · obtain ⟨w, hw, rfl⟩ := List.mem_map.mp hx
    walk_at "w"
    refine ⟨_, look w hw, ?_⟩
    walk_at "go"
    exact hR
  walk_at "w"
  refine ⟨row, rfl, by omega, by rw [List.length_map, isort_length]; omega, ?_⟩
  refine dLcG_map (fun d => match d with | .int w => deedD (false, laneOf (lanesM row) w) | _ => .non) (fun x hx R hR => ?_) ?_
  · obtain ⟨w, hw, rfl⟩ := List.mem_map.mp hx
    walk_at "w"
    refine ⟨_, look w ((isort_perm row).mem_iff.mp hw), ?_⟩
    walk_at "go"
    exact hR
  walk_at "w"
  have il := isort_length row
  simp only [List.length_map, List.nil_append]
  refine ⟨by omega, ?_⟩
  unfold lanePlan at hq
  rw [List.map_append] at hq
  simp only [List.map_map] at hq ⊢
  exact hq
/-! a plan looked at -/
def sp_law_deeds : DSp := fun ds Q => ∃ plan : List Deed, ds = [.lst (plan.map deedD)] ∧ Q (.bl true)
def d_law_deeds_1 : DS := (dSeq (dIfS (dOr (dNot (dT (dIsi "tuple" (dVar false 1)))) (dT (dOp (oEq true) (dLen (dIv false 1)) (dC (.int 2))))) (dRet (dC (.bl false))) dNext)
  (dSeq (dIfS (dOr (dNot (dT (dIsi "str" (dIx (dIv false 1) (dC (.int 0)))))) (dNot (dT (dCall sp_law_whole (dCons (dIx (dIv false 1) (dC (.int 1))) dNil))))) (dRet (dC (.bl false))) dNext)
  (dIfS (dAnd (dT (dOp (oEq true) (dIx (dIv false 1) (dC (.int 0))) (dC (.str "in")))) (dT (dOp (oEq true) (dIx (dIv false 1) (dC (.int 0))) (dC (.str "out"))))) (dRet (dC (.bl false))) dNext)))
def d_law_deeds_t1 : DS := (dRet (dC (.bl true)))
def d_law_deeds : DS := (dSeq (dIfS (dNot (dT (dIsi "list" (dVar false 0)))) (dRet (dC (.bl false))) dNext)
  (dSeq (dFor (dS (dVar true 0)) 1 d_law_deeds_1)
  d_law_deeds_t1))
theorem ln_law_deeds : ∀ ds Q, sp_law_deeds ds Q → ds.length = 1 := by
  rintro ds Q ⟨r, rfl, _⟩
  rfl
theorem dirS_in (b : Bool) : decide (dirS b = Str.ofString "in") = b := by cases b <;> decide +kernel
theorem dirS_out (b : Bool) : decide (dirS b = Str.ofString "out") = !b := by cases b <;> decide +kernel
theorem deeds_loop {P : DEnds} {L : D} (g : ∀ s, P.nx [.fz L, s]) : ∀ (xs : List Deed) (s1 : Sl), dForG d_law_deeds_1 1 P (xs.map deedD) [.fz L, s1]
  | [], s1 => g s1
  | (b, k) :: xs, s1 => by
    walk_at "go"
    refine ⟨_, rfl, ?_⟩
    walk_at "go"
    refine ⟨_, rfl, ?_⟩
    walk_at "w"
    refine ⟨k, rfl, ?_⟩
    walk_at "go"
    refine ⟨_, rfl, ?_⟩
    walk_at "go"
    cases b
    · walk_at "go"
      refine ⟨_, rfl, ?_⟩
      walk_at "go"
      exact deeds_loop g xs _
    · walk_at "go"
      exact deeds_loop g xs _
theorem th_law_deeds : ∀ ds Q, sp_law_deeds ds Q → d_law_deeds (dEnds Q) (dstart 2 ds) := by
  rintro ds Q ⟨plan, rfl, hq⟩
  walk_at "go"
  exact deeds_loop (fun s => hq) plan _
/-! a plan run by the law: one that is let by -/
def sp_law_run : DSp := fun ds Q => ∃ (kinds : List Bool) (row : List Int) (plan : List Deed) (out : List Int), ds = [.lst (kinds.map kindD), dints row, .lst (plan.map deedD)] ∧ kinds.length ≤ 1000 ∧ plan.length ≤ 1000 ∧ runM kinds row plan = some out ∧ Q (dints out)
def d_law_run_1 : DS := (dSeq (dIfS (dOr (dT (dOp oLt (dIx (dIv false 6) (dC (.int 1))) (dC (.int 0)))) (dT (dOp oGe (dIx (dIv false 6) (dC (.int 1))) (dLen (dIv false 0))))) (dRet (dC .non)) dNext)
  (dSeq (dIfS (dAnd (dT (dOp (oEq false) (dIx (dIv false 6) (dC (.int 0))) (dC (.str "in")))) (dT (dOp (oEq false) (dLen (dIv false 3)) (dC (.int 0))))) (dRet (dC .non)) dNext)
  (dSeq (dIfS (dAnd (dT (dOp (oEq false) (dIx (dIv false 6) (dC (.int 0))) (dC (.str "out")))) (dT (dOp (oEq false) (dLen (dI (dIx (dIv false 4) (dIx (dIv false 6) (dC (.int 1)))))) (dC (.int 0))))) (dRet (dC .non)) dNext)
  (dIfS (dT (dOp (oEq false) (dIx (dIv false 6) (dC (.int 0))) (dC (.str "in")))) (dApp2Pop 4 (dIx (dIv false 6) (dC (.int 1))) 3) (dIfS (dT (dOp (oEq false) (dIx (dIv false 0) (dIx (dIv false 6) (dC (.int 1)))) (dC (.str "lane")))) (dAppPop2At 5 4 (dIx (dIv false 6) (dC (.int 1))) (dC (.int 0))) (dAppPop2 5 4 (dIx (dIv false 6) (dC (.int 1)))))))))
def d_law_run_t1 : DS := (dRet (dVar true 5))
def d_law_run : DS := (dSeq (dSetL 3 (dIv true 1))
  (dSeq (dSet2 4 (dS (dVar true 0)))
  (dSeq (dSetL 5 (dLst dNil))
  (dSeq (dFor (dS (dVar true 2)) 6 d_law_run_1)
  d_law_run_t1))))
theorem ln_law_run : ∀ ds Q, sp_law_run ds Q → ds.length = 3 := by
  rintro ds Q ⟨_, _, _, _, rfl, _⟩
  rfl
theorem kind_lane (b : Bool) : decide (kindS b = Str.ofString "lane") = b := by cases b <;> decide +kernel
theorem llD_len (ls : List (List Int)) : (llD ls).length = ls.length := by unfold llD; rw [List.length_map]
theorem llD_get {ls : List (List Int)} {i : Nat} (h : i < ls.length) : (llD ls)[i]? = some ((ls.getD i []).map D.int) := by
  unfold llD
  rw [List.getElem?_map, List.getD_eq_getElem?_getD, List.getElem?_eq_getElem h]
  rfl
theorem llD_set (ls : List (List Int)) (i : Nat) (l : List Int) : llD (ls.set i l) = (llD ls).set i (l.map D.int) := by
  unfold llD
  rw [List.map_set]
def envR (kinds : List Bool) (row : List Int) (plan : List Deed) (s : Yd) (s6 s7 : Sl) : Env := [.fz (.lst (kinds.map kindD)), .fz (dints row), .fz (.lst (plan.map deedD)), .l1 (s.rest.map D.int), .l2 (llD s.tracks), .l1 (s.behind.map D.int), s6, s7]
theorem run_loop {P : DEnds} {kinds : List Bool} {row : List Int} {plan : List Deed} {s7 : Sl} {s' : Yd} (hk : kinds.length ≤ 1000) (g : ∀ s6, P.nx (envR kinds row plan s' s6 s7)) :
    ∀ (todo : List Deed) (s : Yd) (s6 : Sl) (n : Nat), runY kinds todo s = some s' → s.tracks.length = kinds.length → (∀ t ∈ s.tracks, t.length ≤ n) → s.behind.length ≤ n → n + todo.length ≤ 1000 →
    dForG d_law_run_1 6 P (todo.map deedD) (envR kinds row plan s s6 s7)
  | [], s, s6, n, e, _, _, _, _ => by
    cases e
    exact g s6
  | (b, k) :: todo, s, s6, n, e, ht, hb1, hb2, hn => by
    obtain ⟨rest, tracks, behind⟩ := s
    simp only [List.length_cons] at hn
    simp only at ht hb1 hb2
    simp only [runY] at e
    obtain ⟨t1, e1, e2⟩ := Option.bind_eq_some_iff.mp e
    unfold stepM at e1
    by_cases hr : 0 ≤ k ∧ k < kinds.length
    · rw [if_pos hr] at e1
      simp only at e1
      have hkn : k.toNat < tracks.length := by omega
      have tb := hb1 _ (getD_mem hkn)
      have ix := ixN_nat hkn
      rw [Int.toNat_of_nonneg hr.1] at ix
      have ta := atI_ll hkn
      rw [Int.toNat_of_nonneg hr.1] at ta
      have tg := llD_get hkn
      have setb : ∀ t : List Int, t.length ≤ n + 1 → ∀ t2 ∈ tracks.set k.toNat t, t2.length ≤ n + 1 := fun t h1 t2 h2 => by
        rcases List.mem_or_eq_of_mem_set h2 with h2 | rfl
        · have := hb1 t2 h2; omega
        · exact h1
      walk_at "go"
      refine ⟨_, rfl, ?_⟩
      walk_at "w"
      refine ⟨fun h => ?_, fun _ => ?_⟩
      · rw [decide_eq_true_iff] at h; omega
      walk_at "w"
      refine ⟨_, rfl, ?_⟩
      walk_at "w"
      refine ⟨fun h => ?_, fun _ => ?_⟩
      · rw [decide_eq_true_iff, List.length_map] at h; omega
      walk_at "go"
      refine ⟨_, rfl, ?_⟩
      cases b with
      | true =>
        rw [if_pos rfl] at e1
        cases rest with
        | nil => cases e1
        | cons w r =>
          cases e1
          have ih := run_loop (P := P) (s7 := s7) (row := row) (plan := plan) hk g todo ⟨r, tracks.set k.toNat (tracks.getD k.toNat [] ++ [w]), behind⟩ (.fz (deedD (true, k))) (n + 1) e2 (by rw [List.length_set]; exact ht) (setb _ (by rw [List.length_append, List.length_singleton]; omega)) (by show behind.length ≤ n + 1; omega) (by omega)
          walk_at "go"
          refine ⟨_, rfl, ?_⟩
          walk_at "go"
          refine ⟨_, rfl, ?_⟩
          walk_at "go"
          refine ⟨_, rfl, ?_⟩
          walk_at "w"
          refine ⟨k.toNat, _, by rw [llD_len]; exact ix, tg, by decide, ?_⟩
          walk_at "w"
          refine ⟨by rw [List.length_map]; omega, ?_⟩
          have e3 := llD_set tracks k.toNat (tracks.getD k.toNat [] ++ [w])
          rw [List.map_append] at e3
          unfold envR at ih
          simp only at ih
          rw [e3] at ih
          exact ih
      | false =>
        rw [if_neg (by decide)] at e1
        walk_at "go"
        refine ⟨_, rfl, ?_⟩
        walk_at "go"
        refine ⟨_, rfl, ?_⟩
        walk_at "w"
        refine ⟨_, ta, ?_⟩
        cases htr : tracks.getD k.toNat [] with
        | nil => rw [htr] at e1; cases e1
        | cons x xs =>
          rw [htr] at e1 tb tg
          simp only [List.length_cons] at tb
          walk_at "go"
          refine ⟨_, rfl, ?_⟩
          walk_at "go"
          refine ⟨_, rfl, ?_⟩
          walk_at "w"
          have kl : k.toNat < kinds.length := by omega
          refine ⟨kindD (kinds.getD k.toNat true), atI_map (f := kindD) hr.1 (by rw [List.getD_eq_getElem?_getD, List.getElem?_eq_getElem kl]; rfl), ?_⟩
          walk_at "w"
          rw [Bool.false_xor, kind_lane]
          by_cases kb : kinds.getD k.toNat true = true
          · simp only at e1
            rw [if_pos kb] at e1
            cases e1
            have ih := run_loop (P := P) (s7 := s7) (row := row) (plan := plan) hk g todo ⟨rest, tracks.set k.toNat xs, behind ++ [x]⟩ (.fz (deedD (false, k))) (n + 1) e2 (by rw [List.length_set]; exact ht) (setb _ (by omega)) (by show (behind ++ [x]).length ≤ n + 1; rw [List.length_append, List.length_singleton]; omega) (by omega)
            rw [kb]
            walk_at "go"
            refine ⟨_, rfl, ?_⟩
            walk_at "w"
            refine ⟨k.toNat, _, by rw [llD_len]; exact ix, tg, by decide, ?_⟩
            walk_at "w"
            refine ⟨0, .int x, by decide, by decide, rfl, rfl, by rw [List.length_map]; show behind.length < 1000000; omega, ?_⟩
            have e3 := llD_set tracks k.toNat xs
            unfold envR at ih
            simp only [List.map_append] at ih
            rw [e3] at ih
            exact ih
          · simp only at e1
            rw [if_neg kb] at e1
            cases e1
            have ih := run_loop (P := P) (s7 := s7) (row := row) (plan := plan) hk g todo ⟨rest, tracks.set k.toNat (x :: xs).dropLast, behind ++ [lastI (x :: xs)]⟩ (.fz (deedD (false, k))) (n + 1) e2 (by rw [List.length_set]; exact ht) (setb _ (by rw [List.length_dropLast, List.length_cons]; omega)) (by show (behind ++ [lastI (x :: xs)]).length ≤ n + 1; rw [List.length_append, List.length_singleton]; omega) (by omega)
            rw [Bool.not_eq_true] at kb
            rw [kb]
            walk_at "go"
            refine ⟨_, rfl, ?_⟩
            walk_at "w"
            refine ⟨k.toNat, _, .int (lastI (x :: xs)), by rw [llD_len]; exact ix, tg, by decide, ?_, by rw [List.length_map]; show behind.length < 1000000; omega, ?_⟩
            · rw [List.length_map, List.getElem?_map]
              have : (x :: xs)[(x :: xs).length - 1]? = some (lastI (x :: xs)) := by
                unfold lastI
                rw [List.getLastD_eq_getLast?, ← List.getLast?_eq_getElem?]
                cases h : (x :: xs).getLast? with
                | none => simp at h
                | some y => rfl
              rw [this]
              rfl
            have e3 := llD_set tracks k.toNat (x :: xs).dropLast
            unfold envR at ih
            simp only [List.map_append] at ih
            rw [e3, List.map_dropLast] at ih
            exact ih
    · rw [if_neg hr] at e1
      cases e1
theorem th_law_run : ∀ ds Q, sp_law_run ds Q → d_law_run (dEnds Q) (dstart 8 ds) := by
  rintro ds Q ⟨kinds, row, plan, out, rfl, hk, hp, hrun, hq⟩
  unfold runM at hrun
  obtain ⟨s', e1, e2⟩ := Option.map_eq_some_iff.mp hrun
  walk_at "w"
  refine ⟨by rw [List.length_map]; omega, ?_⟩
  walk_at "go"
  have := run_loop (P := ⟨d_law_run_t1 (dEnds Q), (dEnds Q).rt, (dEnds Q).bk, (dEnds Q).ct⟩) (row := row) (plan := plan) (s7 := .un) hk (fun s6 => by subst e2; exact hq) plan ⟨row, List.replicate kinds.length [], []⟩ .un 0 e1 (by rw [List.length_replicate]) (fun t ht => by rw [(List.mem_replicate.mp ht).2]; exact Nat.zero_le _) (Nat.le_refl _) (by omega)
  have e3 : llD (List.replicate kinds.length []) = List.replicate (kinds.map kindD).length [] := by
    unfold llD
    rw [List.map_replicate, List.length_map]
    rfl
  unfold envR at this
  simp only [e3] at this
  exact this
end DL

/-! YD A: a yard over plain data; what its methods promise -/
namespace DL
open PySem L2
structure PY where
  kk : List Str
  rest : List Int
  tr : List (List Int)
  go : List Int
def PY.y (s : PY) : Yrd := ⟨s.kk.map D.str, s.rest.map D.int, s.tr.map (fun l => l.map D.int), s.go.map D.int⟩
def PY.fit (s : PY) (n : Nat) : Prop := s.tr.length = s.kk.length ∧ s.kk.length ≤ n ∧ (∀ l ∈ s.tr, l.length ≤ n) ∧ s.go.length ≤ n
def PY.has (s : PY) (t : Int) : Prop := 0 ≤ t ∧ t < s.tr.length
instance (s : PY) (t : Int) : Decidable (s.has t) := inferInstanceAs (Decidable (_ ∧ _))
def PY.at (s : PY) (t : Int) : List Int := s.tr.getD t.toNat []
def PY.place (s : PY) (t : Int) : Nat := if s.kk.getD t.toNat "" = "stub" then (s.at t).length - 1 else 0
def PY.inn (s : PY) (t : Int) : Except Nat PY := if s.has t then match s.rest with
  | [] => .error 1
  | w :: r => .ok { s with rest := r, tr := s.tr.set t.toNat (s.at t ++ [w]) } else .error 0
def PY.out (s : PY) (t : Int) : Except Nat PY := if s.has t then
  if (s.at t) = [] then .error 2 else .ok { s with tr := s.tr.set t.toNat ((s.at t).eraseIdx (s.place t)), go := s.go ++ [(s.at t).getD (s.place t) 0] } else .error 0
def told {α : Type} (r : Except Nat α) (Q : α → Prop) (X0 : Nat → Prop) : Prop := match r with | .ok a => Q a | .error c => X0 c
/-- a method that changes the yard: data in, the yard behind -/
abbrev MSp := Yrd → List D → (Yrd → Prop) → (Nat → Prop) → Prop
def liftM (K : PySem.W.Frag) (C : Addr) (cl : Nat → Addr) (sp : MSp) : Sp := fun vs H Q E => ∃ F p y os us ds Q0 X0, Ex F H ∧ vs = .ref p :: us ∧ RepL K F us ds ∧ YOk K F H C y p os ∧ os.Nodup ∧ (∀ a ∈ os, F a = none) ∧ sp y ds Q0 X0 ∧
  (∀ y' F' H', Q0 y' → Ex F F' → Ex F' H' → (∀ a, F a = none → F' a ≠ none → H a = none) → (∀ a, a ∉ os → ∀ o, H a = some o → H' a = some o) → YOk K F' H' C y' p os → Q .non H') ∧
  ∀ c H', X0 c → Ex H H' → E (.ref (cl c)) none H'
/-- a method that tells a new list -/
abbrev LSp := Yrd → List D → (List D → Prop) → (Nat → Prop) → Prop
def liftL (K : PySem.W.Frag) (C : Addr) (cl : Nat → Addr) (sp : LSp) : Sp := fun vs H Q E => ∃ F p y os us ds Q0 X0, Ex F H ∧ vs = .ref p :: us ∧ RepL K F us ds ∧ YOk K F H C y p os ∧ os.Nodup ∧ sp y ds Q0 X0 ∧
  (∀ q ws es H', Q0 es → Ex H H' → H q = none → H' q = some (.lst ws) → RepL K F ws es → Q (.ref q) H') ∧
  ∀ c H', X0 c → Ex H H' → E (.ref (cl c)) none H'
def sp_enter : MSp := fun y ds Q X0 => ∃ (s : PY) (t : Int) (n : Nat), y = s.y ∧ ds = [.int t] ∧ s.fit n ∧ n < 1000000 ∧ told (s.inn t) (fun s' => Q s'.y) X0
def sp_leave : MSp := fun y ds Q X0 => ∃ (s : PY) (t : Int) (n : Nat), y = s.y ∧ ds = [.int t] ∧ s.fit n ∧ n < 1000000 ∧ told (s.out t) (fun s' => Q s'.y) X0
def sp_waiting : LSp := fun y ds Q _ => ds = [] ∧ Q y.rest
def sp_gone : LSp := fun y ds Q _ => ds = [] ∧ Q y.go
def sp_standing : LSp := fun y ds Q X0 => ∃ (s : PY) (t : Int), y = s.y ∧ ds = [.int t] ∧ (s.has t → Q ((s.at t).map D.int)) ∧ (¬ s.has t → X0 0)
def spLook (K : PySem.W.Frag) (C : Addr) (cl : Nat → Addr) : Sp := fun vs H Q E => ∃ F p y os t, vs = [.ref p, .int t] ∧ YOk K F H C y p os ∧ ((0 ≤ t ∧ t < y.tr.length) → Q .non H) ∧ (¬ (0 ≤ t ∧ t < y.tr.length) → E (.ref (cl 0)) none H)
/-- the making of a yard -/
def spMake (K : PySem.W.Frag) (C : Addr) : Sp := fun vs H Q E => ∃ F p dx a b va vb da db, Ex F H ∧ vs = [.ref p, .ref a, .ref b] ∧ F p = none ∧ H p = some (.ins C dx []) ∧ a ≠ p ∧ b ≠ p ∧ H a = some (.lst va) ∧ H b = some (.lst vb) ∧ RepL K F va da ∧ RepL K F vb db ∧ da.length ≤ 1000000 ∧
  ∀ F' H' os, Ex F F' → Ex F' H' → (∀ a, F a = none → F' a ≠ none → H a = none) → (∀ a, a ≠ p → ∀ o, H a = some o → H' a = some o) → (∀ a ∈ os, F' a = none ∧ (a = p ∨ H a = none)) → os.Nodup → YOk K F' H' C ⟨da, db, da.map fun _ => [], []⟩ p os → Q .non H'
/-- what the class tells -/
structure YTab (K : PySem.W.Frag) (mg : Str → Option Value) (C : Addr) : Prop where
  c : Cls K C
  nK : NoAttr K C "kinds"
  nR : NoAttr K C "rest"
  nT : NoAttr K C "tracks"
  nG : NoAttr K C "departed"
theorem yf_k (k r t g : Addr) : (yf k r t g).lookup ("kinds" : Str) = some (.ref k) := rfl
theorem yf_r (k r t g : Addr) : (yf k r t g).lookup ("rest" : Str) = some (.ref r) := rfl
theorem yf_t (k r t g : Addr) : (yf k r t g).lookup ("tracks" : Str) = some (.ref t) := rfl
theorem yf_g (k r t g : Addr) : (yf k r t g).lookup ("departed" : Str) = some (.ref g) := rfl
theorem yf_look (k r t g : Addr) : (yf k r t g).lookup ("look" : Str) = none := rfl
theorem yf_enter (k r t g : Addr) : (yf k r t g).lookup ("enter" : Str) = none := rfl
theorem yf_leave (k r t g : Addr) : (yf k r t g).lookup ("leave" : Str) = none := rfl
theorem yf_waiting (k r t g : Addr) : (yf k r t g).lookup ("waiting" : Str) = none := rfl
theorem yf_standing (k r t g : Addr) : (yf k r t g).lookup ("standing" : Str) = none := rfl
theorem yf_gone (k r t g : Addr) : (yf k r t g).lookup ("gone" : Str) = none := rfl
theorem yf_putR (k r t g m : Addr) : putF "rest" (.ref m) (yf k r t g) = yf k m t g := rfl
theorem yf_made (k r t g : Addr) : putF "departed" (.ref g) (putF "tracks" (.ref t) (putF "rest" (.ref r) (putF "kinds" (.ref k) []))) = yf k r t g := rfl
theorem RepL.strs_inv {K : PySem.W.Frag} {H : Hp} : ∀ {ns : List Str} {vs : List V}, RepL K H vs (ns.map D.str) → vs = ns.map V.str
  | [], _, h => by cases h; rfl
  | n :: ns, _, h => by
    cases h with
    | cons h1 h2 =>
      cases h1
      rw [RepL.strs_inv h2]
      rfl
theorem trk {K : PySem.W.Frag} {F H : Hp} {st : PY} {t : Int} {as : List Addr} (ht : st.has t) (g7 : OwnLs K F H as (st.tr.map fun l => l.map D.int)) (n : as.Nodup) : ∃ b, L2.atI (as.map V.ref) t = some (.ref b) ∧ b ∈ as ∧ H b = some (.lst ((st.at t).map V.int)) ∧
    ∀ ns : List Int, OwnLs K F (upd H b (.lst (ns.map V.int))) as ((st.tr.set t.toNat ns).map fun l => l.map D.int) := by
  have hl : t.toNat < st.tr.length := by have := ht.1; have := ht.2; omega
  have e : (st.tr.map fun l => l.map D.int)[t.toNat]? = some ((st.at t).map D.int) := by
    unfold PY.at
    rw [List.getElem?_map, List.getD_eq_getElem?_getD, List.getElem?_eq_getElem hl]
    rfl
  obtain ⟨b, vs, e1, e2, e3, e4, g⟩ := g7.at e n
  obtain rfl := e4.ints_inv
  have hla := g7.len
  rw [List.length_map] at hla
  refine ⟨b, ?_, e2, e3, fun ns => ?_⟩
  · exact atI_map ht.1 e1
  · rw [List.map_set]
    exact g _ _ (RepL.ints ns)
theorem told_ok {α : Type} {r : Except Nat α} {a : α} {Q : α → Prop} {X0 : Nat → Prop} (h : told r Q X0) (e : r = .ok a) : Q a := by rw [e] at h; exact h
theorem told_er {α : Type} {r : Except Nat α} {c : Nat} {Q : α → Prop} {X0 : Nat → Prop} (h : told r Q X0) (e : r = .error c) : X0 c := by rw [e] at h; exact h
theorem PY.inn_no {s : PY} {t : Int} (h : ¬ s.has t) : s.inn t = .error 0 := by unfold PY.inn; rw [if_neg h]
theorem PY.out_no {s : PY} {t : Int} (h : ¬ s.has t) : s.out t = .error 0 := by unfold PY.out; rw [if_neg h]
theorem PY.out_nil {s : PY} {t : Int} (h : s.has t) (e : s.at t = []) : s.out t = .error 2 := by unfold PY.out; rw [if_pos h, if_pos e]
theorem PY.out_ok {s : PY} {t : Int} (h : s.has t) (e : ¬ s.at t = []) : s.out t = .ok { s with tr := s.tr.set t.toNat ((s.at t).eraseIdx (s.place t)), go := s.go ++ [(s.at t).getD (s.place t) 0] } := by unfold PY.out; rw [if_pos h, if_neg e]
theorem PY.inn_nil {s : PY} {t : Int} (h : s.has t) (e : s.rest = []) : s.inn t = .error 1 := by unfold PY.inn; rw [if_pos h, e]
theorem PY.inn_ok {s : PY} {t : Int} {w : Int} {r : List Int} (h : s.has t) (e : s.rest = w :: r) : s.inn t = .ok { s with rest := r, tr := s.tr.set t.toNat (s.at t ++ [w]) } := by unfold PY.inn; rw [if_pos h, e]
theorem cutV_tail (v : V) (vs : List V) : cutV (v :: vs) (some 1) none = vs := by
  unfold cutV HT.sIx
  simp
theorem PY.has_y {s : PY} {t : Int} : s.has t ↔ 0 ≤ t ∧ t < (s.y.tr.length : Int) := by
  unfold PY.has PY.y
  rw [List.length_map]
theorem PY.at_mem {s : PY} {t : Int} (h : s.has t) : s.at t ∈ s.tr := by
  have hl : t.toNat < s.tr.length := by have := h.1; have := h.2; omega
  unfold PY.at
  rw [List.getD_eq_getElem?_getD, List.getElem?_eq_getElem hl]
  exact List.getElem_mem hl
theorem PY.at_len {s : PY} {t : Int} {n : Nat} (h : s.has t) (f : s.fit n) : (s.at t).length ≤ n := f.2.2.1 _ (PY.at_mem h)
theorem map_eraseIdx' {α β : Type} (f : α → β) : ∀ (xs : List α) (i : Nat), (xs.map f).eraseIdx i = (xs.eraseIdx i).map f
  | [], _ => rfl
  | _ :: _, 0 => rfl
  | x :: xs, i + 1 => by
    show f x :: (xs.map f).eraseIdx i = f x :: (xs.eraseIdx i).map f
    rw [map_eraseIdx' f xs i]
end DL

/-! YD C: yards at names -/
namespace DL
open PySem L2
section
variable {K : PySem.W.Frag} {F H F2 H2 : Hp} {C p : Addr} {y : Yrd} {os : List Addr}
theorem OwnLs.dom {a : Addr} : ∀ {as : List Addr} {dss : List (List D)}, OwnLs K F H as dss → a ∈ as → H a ≠ none
  | _, _, .nil, h => by cases h
  | _, _, .cons q1 _ q3, h => by
    rcases List.mem_cons.mp h with rfl | h
    · rw [q1]; simp
    · exact OwnLs.dom q3 h
theorem YOk.dom (h : YOk K F H C y p os) {a : Addr} (ha : a ∈ os) : H a ≠ none := by
  cases h with
  | mk g1 _ _ _ _ g6 g7 g8 _ =>
    rcases List.mem_cons.mp ha with rfl | ha
    · rw [g1]; simp
    rcases List.mem_cons.mp ha with rfl | ha
    · rw [g6]; simp
    rcases List.mem_cons.mp ha with rfl | ha
    · rw [g8]; simp
    · exact g7.dom ha
theorem YOk.ins (h : YOk K F H C y p os) : ∃ dx k r t g, H p = some (.ins C dx (yf k r t g)) := by
  cases h with
  | mk g1 _ _ _ _ _ _ _ _ => exact ⟨_, _, _, _, _, g1⟩
end
/-- return e, nothing frozen -/
def dRetT (de : DE) : DS := fun P ρ => de ρ P.rt
def dRetL (dl : DA) : DS := fun P ρ => dl ρ fun ds => P.rt (.lst ds)
def dMake (i : Nat) (C : Addr) (d1 d2 : DA) : DS := fun P ρ => d1 ρ fun a => d2 ρ fun b => a.length ≤ 1000000 ∧ P.nx (put ρ i (.ob C ⟨a, b, a.map fun _ => [], []⟩))
def dMethX (i : Nat) (C : Addr) (sp : MSp) (X0 : Nat → Prop) (da : DA) : DS := fun P ρ => match nth ρ i with
  | .ob C' y => C' = C ∧ da ρ fun ds => sp y ds (fun y' => P.nx (put ρ i (.ob C y'))) X0
  | _ => False
def dMethL (i : Nat) (C : Addr) (sp : LSp) (da : DA) : DA := fun ρ Q => match nth ρ i with
  | .ob C' y => C' = C ∧ da ρ fun ds => sp y ds Q (fun _ => False)
  | _ => False
section
variable {X : Cx} {H0 : Hp} {pos pos' : Pos} {e f : Expr} {es : List Expr} {te tf tl : TE} {de : DE} {dl dm : DA} {ta : TA} {da : DA} {body : List Stmt} {tb : TS} {db : DS}
theorem qs_retT (h : QE true X e te de) : QSt X (.Return (some e) pos) (tRet te) (dRetT de) := ⟨ps_ret h.pe, fun H0 F0 F H ρ σ P E r q g =>
  h.se H0 F0 F H _ σ P.rt E.rt r q fun v d F3 H3 s hv hq => by
    have r3 := r.step s
    exact g.rt F3 H3 v d r3.f0 r3.fh r3.h0 r3.nw hv hq⟩
theorem qs_retL (h : QL X e te dl) : QSt X (.Return (some e) pos) (tRet te) (dRetL dl) := ⟨ps_ret h.pe, fun H0 F0 F H ρ σ P E r q g =>
  h.sl H0 F0 F H _ σ _ _ r q fun p vs ds F2 H2 s hp hf h2 hv hq => by
    have r3 := r.step (Stp.own s hp hf h2)
    exact g.rt _ H2 _ _ r3.f0 r3.fh r3.h0 r3.nw (.lst upd_same (hv.up (Ex.new hf))) hq⟩
theorem qyx_forL {x : Str} {px : Pos} {j : Nat} (hp : PassesOwn (model X.prog X.w) X.A X.env X.xe) (hc : X.calm = true) (hN : X.N.Nodup) (hi : X.N[j]? = some x) (hx : Loc X.env.scope x) (h : QF X e te dl) (hb : QSx X H0 body tb db)
    (hf : X.fn x = true ∨ X.env.scope.names.lookup x = some .local := by first | exact .inl rfl | exact .inr rfl | assumption)
    (hfs : ∀ x, foldedSetIterable e X.env x = pure x := by intro _; rfl) : QYx X H0 (.For (.Name x px) e body [] pos) (tFor (iList X.K te) (gName j) tb) (dFor dl j db) :=
  ⟨ps_for hp hc (pi_list h.pe) (pg_name hN hi hx hf) hb.ps hfs, fun F0 F1 H1 ρ1 σ1 P E r1 q g1 => h.sf H0 F0 F1 H1 ρ1 σ1 _ _ r1 q fun a vs ds F H s hs hv q => by
  have r := r1.step s
  have g := g1.base r
  refine ⟨a, rfl, ⟨vs, r.fh.seq hs⟩, for_list (K := X.K) (a := a) (xs := vs) (g := gName j) (fun k σ H => ∃ F' ρ', Rel X.K H0 F F' H ρ' σ ∧ dForG db j P (ds.drop k) ρ') ⟨F, ρ1, r.base, q⟩ (fun k σ H _ ⟨F', ρ', r', _⟩ => (r'.f0.trans r'.fh).seq hs) ?_ ?_⟩
  · rintro k x σ H hx ⟨F', ρ', r', q⟩
    have hk : k < ds.length := by
      have := (List.getElem?_eq_some_iff.mp hx).1
      rw [hv.len] at this
      exact this
    obtain ⟨v, e1, e2⟩ := hv.get (List.getElem?_eq_getElem hk)
    obtain rfl : v = x := Option.some.inj (e1.symm.trans hx)
    rw [List.drop_eq_getElem_cons hk] at q
    exact hb.sx F F' H _ _ _ _ (r'.putFz j (e2.up r'.f0)) q ⟨fun F2 H2 ρ2 σ2 r2 q2 => ⟨F2, ρ2, r2, q2⟩, g.rt, g.nx, fun F2 H2 ρ2 σ2 r2 q2 => ⟨F2, ρ2, r2, q2⟩⟩
  · rintro σ H ⟨F', ρ', r', q⟩
    rw [hv.len, List.drop_length] at q
    exact g.nx F' H ρ' σ r' q⟩
/-- x = Yard(e, f) -/
theorem qs_make {C fI : Addr} {fd : FuncData} {k i : Nat} {x : Str} {p pn : Pos} (M : Mk X.K C fI) (G : FnOk X.prog X.w X.K X.mg X.base (L2.CX X.prog X.w) k fI fd ["self", "kinds", "row"] (spMake X.K C)) (hr : Room (k + 1) X.A) (hm : X.mg "Yard" = some (.ref C)) (hb : Binds X.K fd ["self", "kinds", "row"] [])
    (h : QX true X e te dl) (h2 : QX true X f tf dm) (hN : X.N.Nodup) (hi : X.N[i]? = some x) (hx : Loc X.env.scope x) (hg : Gl X "Yard" := by rfl)
    (he : starEach [e, f] X.env = (false, eval e X.env) :: starEach [f] X.env := by rfl) (he2 : starEach [f] X.env = (false, eval f X.env) :: starEach [] X.env := by rfl) (hpl : (backTo pos (starEach [f] X.env)).any (·.1) = false := by rfl)
    (hs : swapsWith (.Call (.Name "Yard" p) [e, f] [] pos) (some (.Name x pn)) pos'.line X.env = pure false := by rfl)
    (hf : X.fn x = true ∨ X.env.scope.names.lookup x = some .local := by first | exact .inl rfl | exact .inr rfl | assumption) :
    QSt X (.Assign [.Name x pn] (.Call (.Name "Yard" p) [e, f] [] pos) pos') (tAsg (tMake C (spMake X.K C) [] (fun _ _ _ => False) (tCons te (tCons tf tNil))) (gName i)) (dMake i C dl dm) :=
  ⟨ps_set hN hi hx (pe_make M G hr hg hm hb .nil (fun pins σ H s e s' I c => passAt takes0 σ pins H s e s' I c) (pa_cons h.pe (pa_cons h2.pe pa_nil he2) he) (by decide) he hpl) hs hf, fun H0 F0 F H ρ σ P E r q g =>
    h.sx H0 F0 F H ρ σ _ _ r q fun a va da F2 H2 s ha ra q => h2.sx H0 F0 F2 H2 ρ σ _ _ (r.step s) q fun b vb db F3 H3 s3 hb rb q => fun x dx nx ndx ne => by
      have r3 := (r.step s).step s3
      have fx : F3 x = none := r3.fh.back nx
      have e4 : Ex H3 (upd (upd H3 dx (.own x)) x (.ins C dx [])) := fun z o h => by
        rw [upd_ne (ne_of_none h nx), upd_ne (ne_of_none h ndx)]
        exact h
      refine ⟨F3, x, dx, a, b, va, vb, da, db, r3.fh.trans e4, rfl, fx, upd_same, ne_of_none (s3.hH _ _ ha) nx, ne_of_none hb nx, e4 _ _ (s3.hH _ _ ha), e4 _ _ hb, ra.up s3.fF, rb, q.1, fun F' H' os e1 e2 nw kp ho hn hY => ⟨rfl, ?_⟩⟩
      have z : ∀ a, H3 a = none → a = x ∨ a = dx ∨ upd (upd H3 dx (.own x)) x (.ins C dx []) a = none := fun a h => by
        by_cases q1 : a = x
        · exact .inl q1
        by_cases q2 : a = dx
        · exact .inr (.inl q2)
        · exact .inr (.inr (by rw [upd_ne q1, upd_ne q2]; exact h))
      have back : ∀ a, upd (upd H3 dx (.own x)) x (.ins C dx []) a = none → H3 a = none := fun a h => e4.back h
      have st : Stp F3 H3 F' H' := ⟨e1, fun a o h => kp a (ne_of_none h nx) o (e4 _ _ h), e2, fun a h1 h2 => back a (nw a h1 h2)⟩
      refine g.nx F' H' _ _ (r3.setOwn st i (.ob hY) hn fun a ha => ⟨(ho a ha).1, ?_⟩) q.2
      rcases (ho a ha).2 with rfl | h
      · exact nx
      · exact back a h⟩
/-- x.m(..), a statement -/
theorem qyx_meth {C g : Addr} {fd : FuncData} {k i : Nat} {x m : Str} {ps : List Str} {cl : Nat → Addr} {sp : MSp} {E : XK} {X0 : Nat → Prop} {p1 apos : Pos} {pl : Sem Bool} (c : Cls X.K C) (hm : Meth X.K C m g) (G : FnOk X.prog X.w X.K X.mg X.base (L2.CX X.prog X.w) k g fd ps (liftM X.K C cl sp)) (hr : Room k X.A) (hb : Binds X.K fd ps [])
    (hx : ∀ σ : St, PassesAt (L2.CX X.prog X.w) X σ E) (hE : ExOk cl H0 E X0) (hv : PE X (.Name x p1) (tVar i)) (h : QA true X (e :: es) ta da) (hlk : ∀ k r t g, (yf k r t g).lookup m = none)
    (hst : starEach (e :: es) X.env = (false, eval e X.env) :: starEach es X.env := by rfl) (hpl : (backTo pos (starEach es X.env)).any (·.1) = false := by rfl)
    (ht : eval (.Call (.Attribute (.Name x p1) m apos) (e :: es) [] pos) X.env = (do
      let ov ← eval (.Name x p1) X.env
      standAt apos.atName
      let (f, first) ← holding [ov] (getMethod ov m pl)
      callWith pos f first (backTo pos (starEach (e :: es) X.env)) (backToKw pos (keywordEach [] X.env))) := by rfl)
    (hs : swapsWith (.Call (.Attribute (.Name x p1) m apos) (e :: es) [] pos) none pos'.line X.env = pure false := by rfl) :
    QYx X H0 (.Expr (.Call (.Attribute (.Name x p1) m apos) (e :: es) [] pos) pos') (tDrop (tMeth C m (liftM X.K C cl sp) [] E (tVar i) ta)) (dMethX i C sp X0 da) :=
  ⟨ps_expr (pe_meth hv c hm G hr hb .nil (fun pins σ H s e s' I c => hx σ pins H s e s' I c) h.pa hst hpl ht) hs, fun F0 F H ρ σ P En r q gd => by
    unfold dMethX at q
    split at q
    · rename_i C' y hi
      obtain ⟨rfl, q⟩ := q
      have hu : nth ρ i ≠ .un := by rw [hi]; exact Sl.noConfusion
      obtain ⟨v, o, e1, e2, _, _, _⟩ := r.mutate i hu
      rw [hi] at e2
      cases e2 with
      | @ob _ p _ _ hy =>
      obtain ⟨dx, kA, rA, tA, gA, g1⟩ := hy.ins
      refine ⟨_, e1, p, dx, _, rfl, g1, hlk .., h.sa H0 F0 F H ρ σ _ _ r q fun vs ds F2 H2 s hv hq => ?_⟩
      have r2 := r.step s
      obtain ⟨v', o', e1', e2', n', ho', k⟩ := r2.mutate i hu
      rw [hi] at e2'
      cases e1.symm.trans e1'
      cases e2' with
      | ob hy' =>
      rw [List.append_nil]
      refine ⟨F2, p, y, o', vs, ds, _, X0, s.fh, rfl, hv, hy', n', fun a ha => (ho' a ha).1, hq, fun y' F3 H3 hq' e3 f3 nw kp hY => ?_, fun c H3 hc e => hE c H3 hc (r2.h0.trans e)⟩
      refine gd.nx F3 H3 _ σ (k F3 H3 (.ob C' y') o' e3 f3 (fun a o ha => kp a (fun z => by rw [(ho' a z).2] at ha; cases ha) o (r2.h0 _ _ ha)) (fun a h1 h2 => ?_) kp (.ob hY) n' (fun a ha => ⟨?_, (ho' a ha).2, .inl ha⟩) (fun a ha h1 => ?_)) hq'
      · by_cases z : F2 a = none
        · exact r2.h0.back (nw a z h2)
        · exact r2.nw a h1 z
      · cases z : F3 a with
        | none => rfl
        | some o => exact absurd (nw a (ho' a ha).1 (by rw [z]; simp)) (hy'.dom ha)
      · by_cases z : F2 a = none
        · exact .inr (nw a z h1)
        · exact .inl z
    · exact q.elim⟩
/-- x.m(), a new list -/
theorem ql_meth0 {C g : Addr} {fd : FuncData} {k i : Nat} {x m : Str} {ps : List Str} {cl : Nat → Addr} {sp : LSp} {p1 apos : Pos} {pl : Sem Bool} (c : Cls X.K C) (hm : Meth X.K C m g) (G : FnOk X.prog X.w X.K X.mg X.base (L2.CX X.prog X.w) k g fd ps (liftL X.K C cl sp)) (hr : Room k X.A) (hb : Binds X.K fd ps [])
    (hv : PE X (.Name x p1) (tVar i)) (hlk : ∀ k r t g, (yf k r t g).lookup m = none)
    (ht : eval (.Call (.Attribute (.Name x p1) m apos) [] [] pos) X.env = (do
      let ov ← eval (.Name x p1) X.env
      standAt apos.atName
      let (f, first) ← holding [ov] (getMethod ov m pl)
      callWith pos f first (backTo pos (starEach [] X.env)) (backToKw pos (keywordEach [] X.env))) := by rfl) :
    QL X (.Call (.Attribute (.Name x p1) m apos) [] [] pos) (tMeth C m (liftL X.K C cl sp) [] (fun _ _ _ => False) (tVar i) tNil) (dMethL i C sp dNil) :=
  ⟨pe_meth0 hv c hm G hr hb .nil (fun pins σ H s e s' I c => passAt takes0 σ pins H s e s' I c) ht, fun H0 F0 F H ρ σ Q R r q k => by
    unfold dMethL at q
    split at q
    · rename_i C' y hi
      obtain ⟨rfl, q⟩ := q
      have hu : nth ρ i ≠ .un := by rw [hi]; exact Sl.noConfusion
      obtain ⟨v, o, e1, e2, n2, _, _⟩ := r.mutate i hu
      rw [hi] at e2
      cases e2 with
      | @ob _ p _ _ hy =>
      obtain ⟨dx, kA, rA, tA, gA, g1⟩ := hy.ins
      refine ⟨_, e1, p, dx, _, rfl, g1, hlk .., ?_⟩
      exact ⟨F, p, y, o, [], [], Q, fun _ => False, r.fh, rfl, .nil, hy, n2, q, fun q ws es H' hq e hn hq2 hr => k q ws es F H' (Stp.grow r.fh e) hn (r.fh.back hn) hq2 hr hq, fun _ _ h => h.elim⟩
    · exact q.elim⟩
end
end DL

/-! YD D: plans run in a yard; a step of the law's own yard -/
namespace DL
open PySem L2
theorem dirS_dec (b : Bool) : (decide (dirS b = "in")) = b := by cases b <;> decide
def PY.step (s : PY) (d : Deed) : Except Nat PY := if d.1 = true then s.inn d.2 else s.out d.2
def PY.run (s : PY) : List Deed → Except Nat PY
  | [] => .ok s
  | d :: ds => match s.step d with
    | .ok s' => s'.run ds
    | .error c => .error c
def PY.new (kk : List Str) (row : List Int) : PY := ⟨kk, row, kk.map fun _ => [], []⟩
theorem PY.fit_new (kk : List Str) (row : List Int) : (PY.new kk row).fit kk.length := by
  refine ⟨by show (kk.map _).length = _; rw [List.length_map]; rfl, Nat.le_refl _, fun l h => ?_, Nat.zero_le _⟩
  obtain ⟨_, _, rfl⟩ := List.mem_map.mp h
  exact Nat.zero_le _
theorem PY.fit_le {s : PY} {n m : Nat} (h : s.fit n) (l : n ≤ m) : s.fit m := ⟨h.1, Nat.le_trans h.2.1 l, fun x hx => Nat.le_trans (h.2.2.1 x hx) l, Nat.le_trans h.2.2.2 l⟩
theorem PY.fit_inn {s s' : PY} {t : Int} {n : Nat} (h : s.fit n) (e : s.inn t = .ok s') : s'.fit (n + 1) := by
  by_cases ht : s.has t
  · cases hr : s.rest with
    | nil => rw [PY.inn_nil ht hr] at e; cases e
    | cons w r =>
      rw [PY.inn_ok ht hr] at e
      cases e
      refine ⟨by show (s.tr.set _ _).length = _; rw [List.length_set]; exact h.1, Nat.le_succ_of_le h.2.1, fun l hl => ?_, Nat.le_succ_of_le h.2.2.2⟩
      rcases List.mem_or_eq_of_mem_set hl with hl | rfl
      · exact Nat.le_succ_of_le (h.2.2.1 l hl)
      · rw [List.length_append]
        exact Nat.add_le_add (PY.at_len ht h) (Nat.le_refl 1)
  · rw [PY.inn_no ht] at e; cases e
theorem PY.fit_out {s s' : PY} {t : Int} {n : Nat} (h : s.fit n) (e : s.out t = .ok s') : s'.fit (n + 1) := by
  by_cases ht : s.has t
  · by_cases hr : s.at t = []
    · rw [PY.out_nil ht hr] at e; cases e
    · rw [PY.out_ok ht hr] at e
      cases e
      refine ⟨by show (s.tr.set _ _).length = _; rw [List.length_set]; exact h.1, Nat.le_succ_of_le h.2.1, fun l hl => ?_, ?_⟩
      · rcases List.mem_or_eq_of_mem_set hl with hl | rfl
        · exact Nat.le_succ_of_le (h.2.2.1 l hl)
        · have := PY.at_len ht h
          have := List.length_eraseIdx_le (s.at t) (s.place t)
          omega
      · show (s.go ++ [_]).length ≤ _
        rw [List.length_append]
        exact Nat.add_le_add h.2.2.2 (Nat.le_refl 1)
  · rw [PY.out_no ht] at e; cases e
theorem PY.fit_step {s s' : PY} {d : Deed} {n : Nat} (h : s.fit n) (e : s.step d = .ok s') : s'.fit (n + 1) := by
  unfold PY.step at e
  split at e
  · exact PY.fit_inn h e
  · exact PY.fit_out h e
/-! ### run -/
def sp_run : DSpX := fun ds Q X0 => ∃ (kk : List Str) (row : List Int) (plan : List Deed), ds = [.lst (kk.map D.str), .lst (row.map D.int), .lst (plan.map deedD)] ∧ kk.length + plan.length < 1000000 ∧ told ((PY.new kk row).run plan) (fun s => Q (.lst (s.go.map D.int))) X0
def d_run_1 (C : Addr) (X0 : Nat → Prop) : DS := dIfS (dT (dOp (oEq false) (dIx (dIv false 4) (dC (.int 0))) (dC (.str "in")))) (dMethX 3 C sp_enter X0 (dCons (dIx (dIv true 4) (dC (.int 1))) dNil)) (dMethX 3 C sp_leave X0 (dCons (dIx (dIv true 4) (dC (.int 1))) dNil))
def d_run (C : Addr) (X0 : Nat → Prop) : DS := dSeq (dMake 3 C (dXv true 0) (dXv true 1)) (dSeq (dFor (dS (dVar true 2)) 4 (d_run_1 C X0)) (dRetL (dMethL 3 C sp_gone dNil)))
theorem ln_run : ∀ ds Q X0, sp_run ds Q X0 → ds.length = 3 := by
  rintro ds Q X0 ⟨_, _, _, rfl, _⟩
  rfl
theorem yrun_loop {C : Addr} {X0 : Nat → Prop} {Q : D → Prop} {a b c : Sl} {P : DEnds} (hP : P.nx = fun ρ => dRetL (dMethL 3 C sp_gone dNil) (dEnds Q) ρ) : ∀ (plan : List Deed) (s : PY) (n : Nat) (e : Sl), s.fit n → n + plan.length < 1000000 → told (s.run plan) (fun s => Q (.lst (s.go.map D.int))) X0 →
    dForG (d_run_1 C X0) 4 P (plan.map deedD) [a, b, c, .ob C s.y, e]
  | [], s, n, e, _, _, q => by
    show P.nx _
    rw [hP]
    exact ⟨rfl, rfl, q⟩
  | d :: plan, s, n, e, hf, hl, q => by
    simp only [List.length_cons] at hl
    have e1 : atI [D.str (dirS d.1), D.int d.2] 0 = some (.str (dirS d.1)) := atI_nat (Int.le_refl 0) rfl
    have e2 : atI [D.str (dirS d.1), D.int d.2] 1 = some (.int d.2) := atI_nat (by decide) rfl
    show d_run_1 C X0 _ [a, b, c, .ob C s.y, .fz (deedD d)]
    refine ⟨_, e1, ?_⟩
    show ((false ^^ decide (dirS d.1 = "in")) = true → _) ∧ ((false ^^ decide (dirS d.1 = "in")) = false → _)
    rw [dirS_dec, Bool.false_xor]
    have fin : ∀ r : Except Nat PY, s.step d = r → told r (fun s' => dForG (d_run_1 C X0) 4 P (plan.map deedD) [a, b, c, .ob C s'.y, .fz (deedD d)]) X0 := fun r hr => by
      cases r with
      | error c =>
        unfold PY.run at q
        rw [hr] at q
        exact q
      | ok s' =>
        unfold PY.run at q
        rw [hr] at q
        exact yrun_loop hP plan s' (n + 1) _ (PY.fit_step hf hr) (by omega) q
    refine ⟨fun hb => ?_, fun hb => ?_⟩
    · refine ⟨rfl, _, e2, s, d.2, n, rfl, rfl, hf, by omega, ?_⟩
      exact fin _ (if_pos hb)
    · refine ⟨rfl, _, e2, s, d.2, n, rfl, rfl, hf, by omega, ?_⟩
      exact fin _ (if_neg (by rw [hb]; decide))
theorem th_run (C : Addr) : ∀ ds Q X0, sp_run ds Q X0 → d_run C X0 (dEnds Q) (dstart 5 ds) := by
  rintro ds Q X0 ⟨kk, row, plan, rfl, hl, hq⟩
  refine ⟨by rw [List.length_map]; omega, ?_⟩
  have e : (⟨kk.map D.str, row.map D.int, (kk.map D.str).map fun _ => [], []⟩ : Yrd) = (PY.new kk row).y := by
    unfold PY.new PY.y
    simp
  rw [e]
  exact yrun_loop rfl plan (PY.new kk row) kk.length .un (PY.fit_new kk row) hl hq
end DL

/-! YD E: a step of the law's own yard, its lists handed over -/
namespace DL
open PySem L2
def stepS (s : PY) (d : Deed) : PY × Str := match s.step d with
  | .ok s' => (s', "done")
  | .error 0 => (s, "track")
  | .error 1 => (s, "waiting")
  | .error _ => (s, "empty")
def PY.ys (s : PY) : List (List D) := s.tr.map fun l => l.map D.int
def spStep (K : PySem.W.Frag) : Sp := fun vs H Q _ => ∃ (F : Hp) (kA rA tA gA : Addr) (dv : V) (as : List Addr) (s : PY) (d : Deed) (n : Nat), vs = [.ref kA, .ref rA, .ref tA, .ref gA, dv] ∧ Ex F H ∧ F kA = some (.lst (s.kk.map V.str)) ∧
  H rA = some (.lst (s.rest.map V.int)) ∧ H tA = some (.lst (as.map V.ref)) ∧ OwnLs K F H as s.ys ∧ H gA = some (.lst (s.go.map V.int)) ∧ Rep K F dv (deedD d) ∧ (rA :: tA :: gA :: as).Nodup ∧ (∀ a ∈ rA :: tA :: gA :: as, F a = none) ∧ s.fit n ∧ n < 1000000 ∧
  ∀ H', (∀ a, a ∉ rA :: tA :: gA :: as → ∀ o, H a = some o → H' a = some o) → H' rA = some (.lst ((stepS s d).1.rest.map V.int)) → H' tA = some (.lst (as.map V.ref)) → OwnLs K F H' as (stepS s d).1.ys → H' gA = some (.lst ((stepS s d).1.go.map V.int)) → Q (.str (stepS s d).2) H'
section
variable {K : PySem.W.Frag} {H0 F0 F H : Hp} {ρ : Env} {σ : St}
theorem Rel.three (r : Rel K H0 F0 F H ρ σ) {i j k : Nat} {rs gs : List D} {ts : List (List D)} (ij : i ≠ j) (jk : j ≠ k) (ik : i ≠ k) (hi : nth ρ i = .l1 rs) (hj : nth ρ j = .l2 ts) (hk : nth ρ k = .l1 gs) :
    ∃ (rA tA gA : Addr) (rv gv : List V) (as : List Addr), σ[i]? = some (some (.ref rA)) ∧ σ[j]? = some (some (.ref tA)) ∧ σ[k]? = some (some (.ref gA)) ∧ H rA = some (.lst rv) ∧ RepL K F rv rs ∧ H tA = some (.lst (as.map V.ref)) ∧ OwnLs K F H as ts ∧ H gA = some (.lst gv) ∧ RepL K F gv gs ∧
      (rA :: tA :: gA :: as).Nodup ∧ (∀ a ∈ rA :: tA :: gA :: as, F a = none) ∧
      ∀ (H' : Hp) (rv' gv' : List V) (rs' gs' : List D) (ts' : List (List D)), (∀ a, a ∉ rA :: tA :: gA :: as → ∀ o, H a = some o → H' a = some o) → H' rA = some (.lst rv') → RepL K F rv' rs' → H' tA = some (.lst (as.map V.ref)) → OwnLs K F H' as ts' → H' gA = some (.lst gv') → RepL K F gv' gs' →
        Rel K H0 F0 F H' (put (put (put ρ i (.l1 rs')) j (.l2 ts')) k (.l1 gs')) σ := by
  obtain ⟨rA, rv, e1, e2, e3, k1⟩ := r.l1 hi
  obtain ⟨gA, gv, g1, g2, g3, _⟩ := r.l1 hk
  obtain ⟨v, o, t1, t2, t3, t4, _⟩ := r.mutate j (by rw [hj]; exact Sl.noConfusion)
  obtain ⟨v5, o5, u1, u2, u3, u4, _⟩ := r.mutate i (by rw [hi]; exact Sl.noConfusion)
  obtain ⟨v6, o6, w1, w2, w3, w4, _⟩ := r.mutate k (by rw [hk]; exact Sl.noConfusion)
  rw [hi] at u2
  rw [hk] at w2
  cases e1.symm.trans u1
  cases g1.symm.trans w1
  cases u2
  cases w2
  rw [hj] at t2
  cases t2 with
  | @l2 tA as _ y1 y2 =>
  obtain ⟨s1, s2⟩ := r.sep12 ij.symm hj hi t1 y1 e1
  obtain ⟨s3, s4⟩ := r.sep12 jk hj hk t1 y1 g1
  have s5 : rA ≠ gA := by
    obtain ⟨a1, b1, a2, b2, x1, x2, x3, x4, x5⟩ := r.sep ik (by rw [hi]; exact Sl.noConfusion) (by rw [hk]; exact Sl.noConfusion)
    rw [hi] at x2
    rw [hk] at x4
    cases e1.symm.trans x1
    cases g1.symm.trans x3
    cases x2
    cases x4
    exact fun z => x5 rA (List.mem_singleton.mpr rfl) (z ▸ List.mem_singleton.mpr rfl)
  obtain ⟨n1, n2⟩ := List.nodup_cons.mp t3
  have fr : F rA = none := (u4 rA (List.mem_singleton.mpr rfl)).1
  have fg : F gA = none := (w4 gA (List.mem_singleton.mpr rfl)).1
  refine ⟨rA, tA, gA, rv, gv, as, e1, t1, g1, e2, e3, y1, y2, g2, g3, ?_, ?_, fun H' rv' gv' rs' gs' ts' kp hr rr ht own hg rg => ?_⟩
  · simp only [List.nodup_cons, List.mem_cons, not_or]
    exact ⟨⟨s1.symm, s5, s2⟩, ⟨s3, n1⟩, s4, n2⟩
  · intro a ha
    rcases List.mem_cons.mp ha with rfl | ha
    · exact fr
    rcases List.mem_cons.mp ha with rfl | ha
    · exact (t4 _ (List.mem_cons_self ..)).1
    rcases List.mem_cons.mp ha with rfl | ha
    · exact fg
    · exact (t4 _ (List.mem_cons_of_mem _ ha)).1
  have r1 := k1 rv' rs' rr
  have hj1 : nth (put ρ i (.l1 rs')) j = .l2 ts := by rw [nth_put_ne ij.symm]; exact hj
  obtain ⟨v', o', t1', t2', t3', t4', k2⟩ := r1.mutate j (by rw [hj1]; exact Sl.noConfusion)
  rw [hj1] at t2'
  cases t1.symm.trans t1'
  cases t2' with
  | @l2 _ as' _ y1' y2' =>
  have ea : as' = as := by
    rw [upd_ne s1, y1] at y1'
    exact (map_ref_inj (HO.lst.inj (Option.some.inj y1'))).symm
  subst ea
  have r2 := k2 F (fun a => if a ∈ as' then H' a else upd H rA (.lst rv') a) (.l2 ts') (tA :: as') (Ex.refl F) (fun a o h => by
      show (if a ∈ as' then H' a else upd H rA (.lst rv') a) = some o
      rw [if_neg fun z => by rw [(t4' a (List.mem_cons_of_mem _ z)).1] at h; cases h]
      exact r1.fh a o h) (fun a o h => by
      show (if a ∈ as' then H' a else upd H rA (.lst rv') a) = some o
      rw [if_neg fun z => by rw [(t4' a (List.mem_cons_of_mem _ z)).2] at h; cases h]
      exact r1.h0 a o h) r1.nw (fun a ha o h => by
      show (if a ∈ as' then H' a else upd H rA (.lst rv') a) = some o
      rw [if_neg fun z => ha (List.mem_cons_of_mem _ z)]
      exact h) (.l2 (by
      show (if tA ∈ as' then H' tA else upd H rA (.lst rv') tA) = _
      rw [if_neg n1]
      exact y1') (own.keep (Ex.refl F) fun a ha o h => by
      show (if a ∈ as' then H' a else upd H rA (.lst rv') a) = some o
      rw [if_pos ha]
      exact h)) t3' (fun a ha => ⟨(t4' a ha).1, (t4' a ha).2, .inl ha⟩) (fun a _ n => .inl n)
  have hk2 : nth (put (put ρ i (.l1 rs')) j (.l2 ts')) k = .l1 gs := by rw [nth_put_ne jk.symm, nth_put_ne ik.symm]; exact hk
  obtain ⟨gA', gv2, g1', g2', g3', k3⟩ := r2.l1 hk2
  cases g1.symm.trans g1'
  have r3 := k3 gv' gs' rg
  refine r3.step (Stp.grow r3.fh fun a o h => ?_)
  by_cases q1 : a = gA
  · subst q1
    rw [upd_same] at h
    rw [hg]
    exact h
  rw [upd_ne q1] at h
  by_cases q2 : a ∈ as'
  · rw [if_pos q2] at h
    exact h
  rw [if_neg q2] at h
  by_cases q3 : a = rA
  · subst q3
    rw [upd_same] at h
    rw [hr]
    exact h
  rw [upd_ne q3] at h
  by_cases q4 : a = tA
  · subst q4
    rw [y1] at h
    rw [ht]
    exact h
  exact kp a (by simp only [List.mem_cons, not_or]; exact ⟨q3, q4, q1, q2⟩) o h
end
theorem stepS_no {s : PY} {d : Deed} (h : ¬ s.has d.2) : stepS s d = (s, ("track" : Str)) := by
  unfold stepS PY.step
  by_cases b : d.1 = true
  · rw [if_pos b, PY.inn_no h] <;> rfl
  · rw [if_neg b, PY.out_no h] <;> rfl
theorem stepS_wait {s : PY} {d : Deed} (h : s.has d.2) (b : d.1 = true) (e : s.rest = []) : stepS s d = (s, ("waiting" : Str)) := by
  unfold stepS PY.step
  rw [if_pos b, PY.inn_nil h e] <;> rfl
theorem stepS_in {s : PY} {d : Deed} {w : Int} {r : List Int} (h : s.has d.2) (b : d.1 = true) (e : s.rest = w :: r) : stepS s d = ({ s with rest := r, tr := s.tr.set d.2.toNat (s.at d.2 ++ [w]) }, ("done" : Str)) := by
  unfold stepS PY.step
  rw [if_pos b, PY.inn_ok h e] <;> rfl
theorem stepS_empty {s : PY} {d : Deed} (h : s.has d.2) (b : ¬ d.1 = true) (e : s.at d.2 = []) : stepS s d = (s, ("empty" : Str)) := by
  unfold stepS PY.step
  rw [if_neg b, PY.out_nil h e] <;> rfl
theorem stepS_out {s : PY} {d : Deed} (h : s.has d.2) (b : ¬ d.1 = true) (e : ¬ s.at d.2 = []) : stepS s d = ({ s with tr := s.tr.set d.2.toNat ((s.at d.2).eraseIdx (s.place d.2)), go := s.go ++ [(s.at d.2).getD (s.place d.2) 0] }, ("done" : Str)) := by
  unfold stepS PY.step
  rw [if_neg b, PY.out_ok h e] <;> rfl
def HasR (P : Program) (w : World) (K : PySem.W.Frag) (mg : Str → Option Value) (base : Heap) (k : Nat) (x : Str) (ps : List Str) (sp : Sp) : Prop :=
  ∃ (fa : Addr) (fd : FuncData), FnOk P w K mg base CX0 k fa fd ps sp ∧ mg x = some (.ref fa) ∧ PySem.W.keepIn K (.ref fa) = true ∧ Binds K fd ps []
theorem hasR_mk {P : Program} {w : World} {K : PySem.W.Frag} {mg : Str → Option Value} {base : Heap} {k : Nat} {x qual : Str} {st : Stmt} {fa : Addr} {fd : FuncData} {ps : List Str} {sp : Sp} (F : Fun K x qual st fa fd) (G : FnOk P w K mg base CX0 k fa fd ps sp) (hm : mg x = some (.ref fa))
    (hb : Binds K fd ps []) : HasR P w K mg base k x ps sp := ⟨fa, fd, G, hm, F.kp, hb⟩
/-- x = step(kinds, rest, tracks, behind, deed) -/
def dStep (i ik ir it ib id : Nat) : DS := fun P ρ => ∃ (s : PY) (d : Deed) (n : Nat), nth ρ ik = .fz (.lst (s.kk.map D.str)) ∧ nth ρ ir = .l1 (s.rest.map D.int) ∧ nth ρ it = .l2 s.ys ∧ nth ρ ib = .l1 (s.go.map D.int) ∧ nth ρ id = .fz (deedD d) ∧ s.fit n ∧ n < 1000000 ∧ ir ≠ it ∧ it ≠ ib ∧ ir ≠ ib ∧
  P.nx (put (put (put (put ρ ir (.l1 ((stepS s d).1.rest.map D.int))) it (.l2 (stepS s d).1.ys)) ib (.l1 ((stepS s d).1.go.map D.int))) i (.fz (.str (stepS s d).2)))
theorem Rel.fzAt {K : PySem.W.Frag} {H0 F0 F H : Hp} {ρ : Env} {σ : St} (r : Rel K H0 F0 F H ρ σ) {i : Nat} {d : D} (hi : nth ρ i = .fz d) : ∃ v, σ[i]? = some (some v) ∧ Rep K F v d := by
  obtain ⟨v, o, e1, e2, _⟩ := r.mutate i (by rw [hi]; exact Sl.noConfusion)
  rw [hi] at e2
  cases e2 with
  | fz h => exact ⟨_, e1, h⟩
section
variable {X : Cx} {pos pos' : Pos} {e : Expr} {es : List Expr}
theorem qs_step {fa : Addr} {fd : FuncData} {k i ik ir it ib id : Nat} {x f : Str} {p pn : Pos} {ps : List Str} (G : FnOk X.prog X.w X.K X.mg X.base CX0 k fa fd ps (spStep X.K)) (hr : Room k X.A) (hm : X.mg f = some (.ref fa)) (hk : PySem.W.keepIn X.K (.ref fa) = true) (hb : Binds X.K fd ps [])
    (h : PA X (e :: es) (tCons (tVar ik) (tCons (tVar ir) (tCons (tVar it) (tCons (tVar ib) (tCons (tVar id) tNil)))))) (hN : X.N.Nodup) (hi : X.N[i]? = some x) (hx : Loc X.env.scope x) (hg : Gl X f := by rfl) (hdb : (f == ("__debug__" : Str)) = false := by decide)
    (he : starEach (e :: es) X.env = (false, eval e X.env) :: starEach es X.env := by rfl) (hpl : (backTo pos (starEach es X.env)).any (·.1) = false := by rfl)
    (hs : swapsWith (.Call (.Name f p) (e :: es) [] pos) (some (.Name x pn)) pos'.line X.env = pure false := by rfl)
    (hf : X.fn x = true ∨ X.env.scope.names.lookup x = some .local := by first | exact .inl rfl | exact .inr rfl | assumption) :
    QSt X (.Assign [.Name x pn] (.Call (.Name f p) (e :: es) [] pos) pos') (tAsg (tCall (spStep X.K) [] E0 (tCons (tVar ik) (tCons (tVar ir) (tCons (tVar it) (tCons (tVar ib) (tCons (tVar id) tNil)))))) (gName i)) (dStep i ik ir it ib id) :=
  ⟨ps_set hN hi hx (pe_call G hr hg hm hk hb .nil pass0 h hdb he hpl) hs hf, fun H0 F0 F H ρ σ P E r q g => by
    obtain ⟨s, d, n, q1, q2, q3, q4, q5, q6, q7, q8, q9, q10, q⟩ := q
    obtain ⟨rA, tA, gA, rv, gv, as, t1, t2, t3, t4, t5, t6, t7, t8, t9, t10, t11, kk⟩ := r.three q8 q9 q10 q2 q3 q4
    obtain ⟨kv, e1, e2⟩ := r.fzAt q1
    obtain ⟨dv, f1, f2⟩ := r.fzAt q5
    obtain rfl := t5.ints_inv
    obtain rfl := t9.ints_inv
    cases e2 with
    | @lst kA kvs _ y1 y2 =>
    obtain rfl := y2.strs_inv
    refine ⟨_, e1, _, t1, _, t2, _, t3, _, f1, ?_⟩
    refine ⟨F, kA, rA, tA, gA, dv, as, s, d, n, rfl, r.fh, y1, t4, t6, t7, t8, f2, t10, t11, q6, q7, fun H' kp h1 h2 h3 h4 => ?_⟩
    exact g.nx F H' _ _ ((kk H' _ _ _ _ _ kp h1 (RepL.ints _) h2 h3 h4 (RepL.ints _)).putFz i (.str _)) q⟩
end
end DL

/-! M13: shapes of data that is compared -/
namespace DL
open PySem L2
local macro_rules | `(tactic| walk_at "w") => `(tactic| conv => whnf)
local macro_rules | `(tactic| walk_at "side") => `(tactic| first | omega | decide | exact Nat.le_of_ble_eq_true rfl | exact ⟨by decide, by decide⟩ | exact Or.inl ⟨by omega, by omega⟩ | exact Or.inr ⟨by omega, by omega⟩ | (show (_ : Int) ≠ 0; omega) | exact ⟨by omega, by omega⟩ | (rw [List.length_map]; omega) | (simp only [List.length_map, List.length_append, List.length_cons, List.length_nil]; omega))
local macro_rules | `(tactic| walk_at "go") => `(tactic| ((repeat ((conv => whnf); first | (refine And.intro ?_ ?_; · walk_at "side") | refine And.intro (fun h => Bool.noConfusion (show false = true from h)) (fun _ => ?_) | refine And.intro (fun _ => ?_) (fun h => Bool.noConfusion (show true = false from h)))); (conv => whnf)))
local macro_rules | `(tactic| walk_at "if") => `(tactic| refine ⟨fun hc => ?_, fun hc => ?_⟩)
theorem shp_bools (bs : List Bool) : (D.lst (bs.map D.bl)).shp := by
  have h1 : ∀ bs : List Bool, D.plainAll (bs.map D.bl) = true := fun bs => by
    induction bs with
    | nil => rfl
    | cons n ns ih => exact ih
  have h2 : ∀ bs : List Bool, PyData.canLayAll0 (D.pyAll (bs.map D.bl)) = true := fun bs => by
    induction bs with
    | nil => rfl
    | cons n ns ih =>
      show (PyData.canLay0 (.bool n) && PyData.canLayAll0 (D.pyAll (ns.map D.bl))) = true
      rw [ih]
      simp [PyData.canLay0]
  have h3 : ∀ bs : List Bool, PyData.depthAll (D.pyAll (bs.map D.bl)) = 0 := fun bs => by
    induction bs with
    | nil => rfl
    | cons n ns ih =>
      show max (PyData.depth (.bool n)) (PyData.depthAll (D.pyAll (ns.map D.bl))) = 0
      rw [ih]
      simp [PyData.depth]
  refine ⟨h1 bs, ?_⟩
  unfold SeqAt.shaped
  show (PyData.canLayAll0 (D.pyAll (bs.map D.bl)) && decide (PyData.depthAll (D.pyAll (bs.map D.bl)) + 1 ≤ 64)) = true
  rw [h2, h3]
  decide
theorem eqv_bools (ns ms : List Bool) : PyData.eqv (D.lst (ns.map D.bl)).py (D.lst (ms.map D.bl)).py = decide (ns = ms) := by
  show PyData.eqvAll (D.pyAll (ns.map D.bl)) (D.pyAll (ms.map D.bl)) = decide (ns = ms)
  induction ns generalizing ms with
  | nil =>
    cases ms with
    | nil => rfl
    | cons m ms => rfl
  | cons n ns ih =>
    cases ms with
    | nil => rfl
    | cons m ms =>
      show (PyData.eqv (.bool n) (.bool m) && PyData.eqvAll (D.pyAll (ns.map D.bl)) (D.pyAll (ms.map D.bl))) = _
      rw [ih]
      show ((n == m) && decide (ns = ms)) = _
      rw [Bool.eq_iff_iff]
      simp
theorem shp_deedsL (ps : List Deed) : (D.lst (ps.map deedD)).shp := by
  have h1 : ∀ ns : List Deed, D.plainAll (ns.map deedD) = true := fun ns => by
    induction ns with
    | nil => rfl
    | cons n ns ih => exact ih
  have h2 : ∀ ns : List Deed, PyData.canLayAll0 (D.pyAll (ns.map deedD)) = true := fun ns => by
    induction ns with
    | nil => rfl
    | cons n ns ih =>
      show (PyData.canLay0 (deedD n).py && PyData.canLayAll0 (D.pyAll (ns.map deedD))) = true
      rw [ih]
      obtain ⟨b, k⟩ := n
      have : PyData.canLay0 (deedD (b, k)).py = (PyData.canLay0 (.str (dirS b)) && (PyData.canLay0 (.int k) && true)) := rfl
      rw [this]
      cases b <;> simp [PyData.canLay0] <;> decide +kernel
  have h3 : ∀ ns : List Deed, PyData.depthAll (D.pyAll (ns.map deedD)) ≤ 1 := fun ns => by
    induction ns with
    | nil => decide
    | cons n ns ih =>
      show max (PyData.depth (deedD n).py) (PyData.depthAll (D.pyAll (ns.map deedD))) ≤ 1
      have : PyData.depth (deedD n).py = 1 := rfl
      omega
  refine ⟨h1 ps, ?_⟩
  unfold SeqAt.shaped
  show (PyData.canLayAll0 (D.pyAll (ps.map deedD)) && decide (PyData.depthAll (D.pyAll (ps.map deedD)) + 1 ≤ 64)) = true
  have := h3 ps
  rw [h2, decide_eq_true (by omega)]
  rfl
theorem eqv_deedsL (ps : List Deed) : PyData.eqv (D.lst (ps.map deedD)).py (D.lst (ps.map deedD)).py = true := by
  show PyData.eqvAll (D.pyAll (ps.map deedD)) (D.pyAll (ps.map deedD)) = true
  induction ps with
  | nil => rfl
  | cons p ps ih =>
    show (PyData.eqv (deedD p).py (deedD p).py && PyData.eqvAll (D.pyAll (ps.map deedD)) (D.pyAll (ps.map deedD))) = true
    rw [ih]
    have : PyData.eqv (deedD p).py (deedD p).py = ((dirS p.1 == dirS p.1) && ((p.2 == p.2) && true)) := rfl
    rw [this]
    simp
end DL

/-! F26: the law's yard: kinds, a plan and what is due -/
namespace DL
open PySem L2 TL
local macro_rules | `(tactic| walk_at "w") => `(tactic| conv => whnf)
local macro_rules | `(tactic| walk_at "side") => `(tactic| first | omega | decide | exact Nat.le_of_ble_eq_true rfl | exact ⟨by decide, by decide⟩ | exact Or.inl ⟨by omega, by omega⟩ | exact Or.inr ⟨by omega, by omega⟩ | (show (_ : Int) ≠ 0; omega) | exact ⟨by omega, by omega⟩ | (rw [List.length_map]; omega) | (simp only [List.length_map, List.length_append, List.length_cons, List.length_nil]; omega))
local macro_rules | `(tactic| walk_at "go") => `(tactic| ((repeat ((conv => whnf); first | (refine And.intro ?_ ?_; · walk_at "side") | refine And.intro (fun h => Bool.noConfusion (show false = true from h)) (fun _ => ?_) | refine And.intro (fun _ => ?_) (fun h => Bool.noConfusion (show true = false from h)))); (conv => whnf)))
local macro_rules | `(tactic| walk_at "if") => `(tactic| refine ⟨fun hc => ?_, fun hc => ?_⟩)
def kindL (bs : List Bool) : List Str := bs.map kindS
def sp_law_kinds : DSp := fun ds Q => ∃ ns : List Int, ds = [.scr ns] ∧ ∀ bs : List Bool, bs.length ≤ 60 → Q (.lst ((kindL bs).map D.str))
def d_law_kinds_1 : DS := (dApp 4 (dIx (dLst (dCons (dC (.str "lane")) (dCons (dC (.str "stub")) dNil))) (dOp oMod (dOp oAdd (dOp oDiv (dVar false 3) (dOp oAdd (dVar false 5) (dC (.int 1)))) (dVar false 5)) (dC (.int 2)))))
def d_law_kinds_t1 : DS := (dRet (dVar true 4))
def d_law_kinds : DS := (dSeq (dSet 1 (dCall sp_law_cell_at (dCons (dVar true 0) (dCons (dC (.int 0)) dNil))))
  (dSeq (dSet 2 (dOp oMod (dVar false 1) (dC (.int 5))))
  (dJoin (dIfS (dT (dOp (oEq false) (dOp oMod (dOp oDiv (dVar false 1) (dC (.int 5))) (dC (.int 5))) (dC (.int 1)))) (dSet 2 (dOp oAdd (dC (.int 5)) (dOp oMod (dOp oDiv (dVar false 1) (dC (.int 25))) (dC (.int 56))))) dNext)
  (dSeq (dSet 3 (dOp oMod (dCall sp_law_cell_at (dCons (dVar false 0) (dCons (dC (.int 1)) dNil))) (dC (.int 1000000007))))
  (dSeq (dSetL 4 (dLst dNil))
  (dSeq (dFor (dRng1 (dCons (dVar false 2) dNil)) 5 d_law_kinds_1)
  d_law_kinds_t1))))))
theorem ln_law_kinds : ∀ ds Q, sp_law_kinds ds Q → ds.length = 1 := by
  rintro ds Q ⟨_, rfl, _⟩
  rfl
theorem kind_at (i : Int) (h : 0 ≤ i ∧ i < 2) : ∃ b, atI [D.str "lane", D.str "stub"] i = some (.str (kindS b)) := by
  have : i = 0 ∨ i = 1 := by omega
  rcases this with rfl | rfl
  · exact ⟨true, rfl⟩
  · exact ⟨false, rfl⟩
theorem dir_at (i : Int) (h : 0 ≤ i ∧ i < 2) : ∃ b, atI [D.str "in", D.str "out"] i = some (.str (dirS b)) := by
  have : i = 0 ∨ i = 1 := by omega
  rcases this with rfl | rfl
  · exact ⟨true, rfl⟩
  · exact ⟨false, rfl⟩
theorem kinds_loop {P : DEnds} {a b : Sl} {bits count : Int} (hc : count ≤ 60) (g : ∀ (bs : List Bool) s5, bs.length ≤ 60 → P.nx [a, b, .fz (.int count), .fz (.int bits), .l1 ((kindL bs).map D.str), s5]) :
    ∀ (n : Nat) (k : Int) (bs : List Bool) (s5 : Sl), 0 ≤ k → k ≤ count → count - k ≤ n → (bs.length : Int) = k →
    dForG d_law_kinds_1 5 P (rangeD k count) [a, b, .fz (.int count), .fz (.int bits), .l1 ((kindL bs).map D.str), s5]
  | 0, k, bs, s5, k0, k1, hn, hp => by
    rw [rangeD_nil (by omega)]
    exact g bs s5 (by omega)
  | n + 1, k, bs, s5, k0, k1, hn, hp => by
    by_cases hk : k < count
    · rw [rangeD_cons hk]
      have f2 := fmod_rng (bits.fdiv (k + 1) + k) (show (0 : Int) < 2 by decide)
      obtain ⟨b', hb⟩ := kind_at _ f2
      walk_at "go"
      refine ⟨_, hb, ?_⟩
      have ih := kinds_loop (P := P) (a := a) (b := b) (bits := bits) hc g n (k + 1) (bs ++ [b']) (.fz (.int k)) (by omega) (by omega) (by omega) (by rw [List.length_append, List.length_singleton]; omega)
      unfold kindL at ih ⊢
      rw [List.map_append, List.map_append] at ih
      exact ⟨by rw [List.length_map, List.length_map]; omega, ih⟩
    · rw [rangeD_nil (by omega)]
      exact g bs s5 (by omega)
theorem th_law_kinds : ∀ ds Q, sp_law_kinds ds Q → d_law_kinds (dEnds Q) (dstart 6 ds) := by
  rintro ds Q ⟨ns, rfl, hq⟩
  walk_at "w"
  refine ⟨ns, 0, rfl, by decide, ?_⟩
  walk_at "go"
  generalize cellAt ns 0 = head
  have f1 := fmod_rng head (show (0 : Int) < 5 by decide)
  refine ⟨fun ρ => ∃ count : Int, 0 ≤ count ∧ count ≤ 60 ∧ ρ = [.fz (.scr ns), .fz (.int head), .fz (.int count), .un, .un, .un], ?_, ?_⟩
  · walk_at "go"
    have f2 := fmod_rng (head.fdiv 25) (show (0 : Int) < 56 by decide)
    refine ⟨fun _ => ?_, fun _ => ⟨_, f1.1, by omega, rfl⟩⟩
    walk_at "go"
    exact ⟨_, by omega, by omega, rfl⟩
  rintro ρ ⟨count, c0, c1, rfl⟩
  walk_at "go"
  refine ⟨ns, 1, rfl, by decide, ?_⟩
  walk_at "go"
  refine kinds_loop (P := _) c1 (fun bs s5 hb => ?_) count.toNat 0 [] .un (by omega) c0 (by omega) rfl
  exact hq bs hb
/-! ### a plan and what is due -/
def nm (c : Nat) : Str := match c with
  | 0 => "track"
  | 1 => "waiting"
  | _ => "empty"
theorem nm_done (c : Nat) : decide (nm c = "done") = false := by
  unfold nm
  split <;> decide +kernel
theorem PY.step_er {s : PY} {d : Deed} {c : Nat} (h : s.step d = .error c) : c < 3 := by
  unfold PY.step PY.inn PY.out at h
  split at h
  · split at h
    · split at h <;> cases h
      decide
    · cases h
      decide
  · split at h
    · split at h <;> cases h
      decide
    · cases h
      decide
theorem stepS_ok {s s' : PY} {d : Deed} (h : s.step d = .ok s') : stepS s d = (s', ("done" : Str)) := by
  unfold stepS
  rw [h]
theorem stepS_er {s : PY} {d : Deed} {c : Nat} (h : s.step d = .error c) : stepS s d = (s, nm c) := by
  unfold stepS
  rw [h]
  match c with
  | 0 => rfl
  | 1 => rfl
  | n + 2 => rfl
theorem PY.run_append (s : PY) : ∀ (p q : List Deed), s.run (p ++ q) = match s.run p with
    | .ok s' => s'.run q
    | .error c => .error c
  | [], q => rfl
  | d :: p, q => by
    show (match s.step d with | .ok s' => s'.run (p ++ q) | .error c => .error c) = match (match s.step d with | .ok s' => s'.run p | .error c => .error c) with | .ok s' => s'.run q | .error c => .error c
    cases s.step d with
    | error c => rfl
    | ok s' => exact PY.run_append s' p q
theorem PY.run_snoc {s r : PY} {p : List Deed} {d : Deed} (h : s.run p = .ok r) : s.run (p ++ [d]) = r.step d := by
  rw [PY.run_append, h]
  show (match r.step d with | .ok s' => Except.ok s' | .error c => .error c) = r.step d
  cases r.step d <;> rfl
theorem PY.run_er {s : PY} {c : Nat} {p : List Deed} {d : Deed} (h : s.run p = .error c) : s.run (p ++ [d]) = .error c := by
  rw [PY.run_append, h]
def dueD (r : Except Nat PY) : D := match r with
  | .ok s => .lst (s.go.map D.int)
  | .error c => .str (nm c)
def sp_law_plan_and_due : DSp := fun ds Q => ∃ (ns : List Int) (bs : List Bool) (row : List Int), ds = [.scr ns, .lst ((kindL bs).map D.str), .lst (row.map D.int)] ∧ bs.length ≤ 60 ∧ ns.length ≤ 63 ∧ ∀ plan : List Deed, plan.length ≤ 190 → Q (.tup [.lst (plan.map deedD), dueD ((PY.new (kindL bs) row).run plan)])
def d_law_plan_and_due_1 : DS := (dSeq (dSet 11 (dTup (dCons (dIx (dLst (dCons (dC (.str "in")) (dCons (dC (.str "out")) dNil))) (dOp oMod (dVar false 10) (dC (.int 2)))) (dCons (dOp oMod (dOp oDiv (dVar false 10) (dC (.int 2))) (dI2 gMax (dCons (dC (.int 1)) (dCons (dLen (dIv false 1)) dNil)))) dNil))))
  (dJoin (dIfS (dT (dVar false 9)) (dSet 11 (dTup (dCons (dIx (dIv true 11) (dC (.int 0))) (dCons (dOp oSub (dOp oMod (dOp oDiv (dVar false 10) (dC (.int 2))) (dC (.int 180))) (dC (.int 90))) dNil)))) dNext)
  (dSeq (dIfS (dT (dOp (oEq true) (dVar false 7) (dC (.str "done")))) (dSeq (dApp 6 (dVar true 11))
  dCont) dNext)
  (dSeq (dStep 12 1 3 4 5 11)
  (dIfS (dOr (dT (dOp (oEq false) (dVar false 12) (dC (.str "done")))) (dNot (dT (dVar false 8)))) (dSeq (dApp 6 (dVar true 11))
  (dSet 7 (dVar true 12))) dNext)))))
def d_law_plan_and_due_t1 : DS := (dSeq (dIfS (dT (dOp (oEq false) (dVar false 7) (dC (.str "done")))) (dRet (dTup (dCons (dVar true 6) (dCons (dVar true 5) dNil)))) dNext)
  (dRet (dTup (dCons (dVar true 6) (dCons (dVar true 7) dNil)))))
def d_law_plan_and_due : DS := (dSeq (dSetL 3 (dIv true 2))
  (dSeq (dSet2 4 (dS (dVar true 1)))
  (dSeq (dSetL 5 (dLst dNil))
  (dSeq (dSetL 6 (dLst dNil))
  (dSeq (dSet 7 (dC (.str "done")))
  (dSeq (dSet 8 (dOp (oEq false) (dOp oMod (dOp oDiv (dCall sp_law_cell_at (dCons (dVar false 0) (dCons (dC (.int 2)) dNil))) (dC (.int 3))) (dC (.int 2))) (dC (.int 1))))
  (dSeq (dSet 9 (dOp (oEq false) (dOp oMod (dOp oDiv (dCall sp_law_cell_at (dCons (dVar false 0) (dCons (dC (.int 2)) dNil))) (dC (.int 6))) (dC (.int 8))) (dC (.int 1))))
  (dSeq (dFor (dCut (dSv true 0) (dOSome (dC (.int 3))) (dOSome (dC (.int 193)))) 10 d_law_plan_and_due_1)
  d_law_plan_and_due_t1))))))))
theorem ln_law_plan_and_due : ∀ ds Q, sp_law_plan_and_due ds Q → ds.length = 3 := by
  rintro ds Q ⟨_, _, _, rfl, _⟩
  rfl
/-- between two cells -/
def Due (bs : List Bool) (row : List Int) (s : PY) (plan : List Deed) (due : Str) : Prop :=
  (due = "done" ∧ (PY.new (kindL bs) row).run plan = .ok s) ∨ ∃ c, c < 3 ∧ due = nm c ∧ (PY.new (kindL bs) row).run plan = .error c
theorem PY.step_kk {s s' : PY} {d : Deed} (h : s.step d = .ok s') : s'.kk = s.kk := by
  unfold PY.step PY.inn PY.out at h
  split at h
  · split at h
    · split at h <;> cases h
      rfl
    · cases h
  · split at h
    · split at h <;> cases h
      rfl
    · cases h
def dueRho (ns : List Int) (bs : List Bool) (row : List Int) (tidy odd : Bool) (s : PY) (plan : List Deed) (due : Str) (s10 s11 s12 : Sl) : Env :=
  [.fz (.scr ns), .fz (.lst ((kindL bs).map D.str)), .fz (.lst (row.map D.int)), .l1 (s.rest.map D.int), .l2 s.ys, .l1 (s.go.map D.int), .l1 (plan.map deedD), .fz (.str due), .fz (.bl tidy), .fz (.bl odd), s10, s11, s12, .un]
theorem gMax_pos (n : Nat) : gMax 1 (n : Int) ≠ 0 := by
  unfold gMax
  split <;> omega
theorem due_loop {P : DEnds} {ns : List Int} {bs : List Bool} {row : List Int} {tidy odd : Bool} (hb : bs.length ≤ 60) (g : ∀ s plan due s10 s11 s12, plan.length ≤ 190 → Due bs row s plan due → P.nx (dueRho ns bs row tidy odd s plan due s10 s11 s12)) :
    ∀ (cells : List Int) (s : PY) (plan : List Deed) (due : Str) (n : Nat) (s10 s11 s12 : Sl), s.fit n → n + cells.length < 1000000 → plan.length + cells.length ≤ 190 → Due bs row s plan due → s.kk = kindL bs →
      dForG d_law_plan_and_due_1 10 P (cells.map D.int) (dueRho ns bs row tidy odd s plan due s10 s11 s12)
  | [], s, plan, due, n, s10, s11, s12, _, _, hp, hd, _ => g s plan due s10 s11 s12 (by simpa using hp) hd
  | cell :: cells, s, plan, due, n, s10, s11, s12, hf, hn, hp, hd, hk => by
    simp only [List.length_cons] at hn hp
    unfold dueRho
    have f2 := fmod_rng cell (show (0 : Int) < 2 by decide)
    obtain ⟨b, hb1⟩ := dir_at _ f2
    walk_at "go"
    refine ⟨_, hb1, ?_⟩
    walk_at "go"
    refine ⟨gMax_pos _, ?_⟩
    walk_at "go"
    refine ⟨fun ρ => ∃ t : Int, ρ = [.fz (.scr ns), .fz (.lst ((kindL bs).map D.str)), .fz (.lst (row.map D.int)), .l1 (s.rest.map D.int), .l2 s.ys, .l1 (s.go.map D.int), .l1 (plan.map deedD), .fz (.str due), .fz (.bl tidy), .fz (.bl odd), .fz (.int cell), .fz (deedD (b, t)), s12, .un], ?_, ?_⟩
    · walk_at "w"
      refine ⟨fun _ => ?_, fun _ => ⟨_, rfl⟩⟩
      walk_at "w"
      refine ⟨.str (dirS b), rfl, ?_⟩
      walk_at "go"
      exact ⟨_, rfl⟩
    rintro ρ ⟨t, rfl⟩
    walk_at "w"
    rcases hd with ⟨rfl, hr⟩ | ⟨c, c3, rfl, hr⟩
    · have dd : decide (("done" : Str) = "done") = true := decide_eq_true rfl
      rw [dd]
      refine ⟨fun h => Bool.noConfusion h, fun _ => ?_⟩
      walk_at "w"
      refine ⟨s, (b, t), n, by rw [hk]; rfl, rfl, rfl, rfl, rfl, hf, by omega, by decide, by decide, by decide, ?_⟩
      cases e : s.step (b, t) with
      | ok s' =>
        rw [stepS_ok e]
        walk_at "w"
        rw [dd]
        refine ⟨fun _ => ?_, fun h => Bool.noConfusion h⟩
        walk_at "w"
        refine ⟨fun _ => ?_, fun h => Bool.noConfusion h⟩
        have ih := due_loop (tidy := tidy) (odd := odd) hb g cells s' (plan ++ [(b, t)]) "done" (n + 1) (.fz (.int cell)) (.fz (deedD (b, t))) (.fz (.str "done")) (PY.fit_step hf e) (by omega) (by rw [List.length_append, List.length_singleton]; omega)
          (.inl ⟨rfl, by rw [PY.run_snoc hr]; exact e⟩) (by rw [PY.step_kk e]; exact hk)
        unfold dueRho at ih
        rw [List.map_append] at ih
        walk_at "w"
        exact ⟨by rw [List.length_map]; omega, ih⟩
      | error c =>
        have c3 := PY.step_er e
        rw [stepS_er e]
        walk_at "w"
        rw [nm_done]
        refine ⟨fun h => Bool.noConfusion h, fun _ => ?_⟩
        walk_at "w"
        cases tidy with
        | true =>
          refine ⟨fun h => Bool.noConfusion h, fun _ => ?_⟩
          exact due_loop (odd := odd) hb g cells s plan "done" n (.fz (.int cell)) (.fz (deedD (b, t))) (.fz (.str (nm c))) hf (by omega) (by omega) (.inl ⟨rfl, hr⟩) hk
        | false =>
          refine ⟨fun _ => ?_, fun h => Bool.noConfusion h⟩
          have ih := due_loop (odd := odd) hb g cells s (plan ++ [(b, t)]) (nm c) n (.fz (.int cell)) (.fz (deedD (b, t))) (.fz (.str (nm c))) hf (by omega) (by rw [List.length_append, List.length_singleton]; omega) (.inr ⟨c, c3, rfl, by rw [PY.run_snoc hr]; exact e⟩) hk
          unfold dueRho at ih
          rw [List.map_append] at ih
          walk_at "w"
          exact ⟨by rw [List.length_map]; omega, ih⟩
    · rw [nm_done]
      refine ⟨fun _ => ?_, fun h => Bool.noConfusion h⟩
      have ih := due_loop (tidy := tidy) (odd := odd) hb g cells s (plan ++ [(b, t)]) (nm c) n (.fz (.int cell)) (.fz (deedD (b, t))) s12 hf (by omega) (by rw [List.length_append, List.length_singleton]; omega) (.inr ⟨c, c3, rfl, PY.run_er hr⟩) hk
      unfold dueRho at ih
      rw [List.map_append] at ih
      walk_at "w"
      exact ⟨by rw [List.length_map]; omega, ih⟩
theorem th_law_plan_and_due : ∀ ds Q, sp_law_plan_and_due ds Q → d_law_plan_and_due (dEnds Q) (dstart 14 ds) := by
  rintro ds Q ⟨ns, bs, row, rfl, hb, hn, hq⟩
  have el : ((kindL bs).map D.str).length = bs.length := by unfold kindL; rw [List.length_map, List.length_map]
  walk_at "w"
  refine ⟨by rw [el]; omega, ?_⟩
  walk_at "go"
  refine ⟨ns, 2, rfl, by decide, ?_⟩
  walk_at "go"
  refine ⟨ns, 2, rfl, by decide, ?_⟩
  walk_at "go"
  have ey : (PY.new (kindL bs) row).ys = List.replicate ((kindL bs).map D.str).length [] := by
    show ((kindL bs).map fun _ => ([] : List Int)).map (fun l => l.map D.int) = _
    rw [List.map_map, List.length_map, ← List.map_const']
    rfl
  rw [← ey]
  have fit : (PY.new (kindL bs) row).fit bs.length := by
    have := PY.fit_new (kindL bs) row
    unfold kindL at this ⊢
    rw [List.length_map] at this
    exact this
  have hc := cutI_len ns (some 3) (some 193)
  show dForG _ 10 _ (cutD (ns.map D.int) (some 3) (some 193)) _
  rw [cutD_map]
  refine due_loop hb (fun s plan due s10 s11 s12 hp hd => ?_) (cutI ns (some 3) (some 193)) (PY.new (kindL bs) row) [] "done" bs.length .un .un .un fit (by omega) (by simp only [List.length_nil]; omega) (.inl ⟨rfl, rfl⟩) rfl
  have q := hq plan hp
  rcases hd with ⟨rfl, hr⟩ | ⟨c, c3, rfl, hr⟩
  · have dd : decide (("done" : Str) = "done") = true := decide_eq_true rfl
    walk_at "w"
    rw [dd]
    refine ⟨fun _ => ?_, fun h => Bool.noConfusion h⟩
    walk_at "go"
    rw [hr] at q
    exact q
  · walk_at "w"
    rw [nm_done]
    refine ⟨fun h => Bool.noConfusion h, fun _ => ?_⟩
    walk_at "go"
    rw [hr] at q
    exact q
end DL

/-! F27: what run answers -/
namespace DL
open PySem L2 TL
local macro_rules | `(tactic| walk_at "w") => `(tactic| conv => whnf)
local macro_rules | `(tactic| walk_at "side") => `(tactic| first | omega | decide | exact Nat.le_of_ble_eq_true rfl | exact ⟨by decide, by decide⟩ | exact Or.inl ⟨by omega, by omega⟩ | exact Or.inr ⟨by omega, by omega⟩ | (show (_ : Int) ≠ 0; omega) | exact ⟨by omega, by omega⟩ | (rw [List.length_map]; omega) | (simp only [List.length_map, List.length_append, List.length_cons, List.length_nil]; omega))
local macro_rules | `(tactic| walk_at "go") => `(tactic| ((repeat ((conv => whnf); first | (refine And.intro ?_ ?_; · walk_at "side") | refine And.intro (fun h => Bool.noConfusion (show false = true from h)) (fun _ => ?_) | refine And.intro (fun _ => ?_) (fun h => Bool.noConfusion (show true = false from h)))); (conv => whnf)))
local macro_rules | `(tactic| walk_at "if") => `(tactic| refine ⟨fun hc => ?_, fun hc => ?_⟩)
theorem PY.run_lt : ∀ {p : List Deed} {s : PY} {c : Nat}, s.run p = .error c → c < 3
  | [], s, c, h => by cases h
  | d :: p, s, c, h => by
    have h' : (match s.step d with | .ok s' => s'.run p | .error c => .error c) = Except.error c := h
    cases e : s.step d with
    | ok s' =>
      rw [e] at h'
      exact PY.run_lt (p := p) h'
    | error c' =>
      rw [e] at h'
      cases h'
      exact PY.step_er e
def ansD (r : Except Nat PY) : D := match r with
  | .ok s => .tup [.str "left", .lst (s.go.map D.int)]
  | .error c => .tup [.str "refused", .str (nm c)]
def sp_law_answer : DSp := fun ds Q => ∃ (kk : List Str) (row : List Int) (plan : List Deed), ds = [.lst (kk.map D.str), .lst (row.map D.int), .lst (plan.map deedD)] ∧ kk.length + plan.length < 1000000 ∧ Q (ansD ((PY.new kk row).run plan))
def d_law_answer_1 : DS := (dIfS (dT (dOp (oEqD false) (dVar false 4) (dL (dLst (dCons (dOp (oEq false) (dVar false 7) (dC (.int 0))) (dCons (dOp (oEq false) (dVar false 7) (dC (.int 1))) (dCons (dOp (oEq false) (dVar false 7) (dC (.int 2))) (dCons (dC (.bl false)) (dCons (dC (.bl false)) dNil))))))))) (dRet (dTup (dCons (dC (.str "refused")) (dCons (dIx (dIv true 6) (dVar false 7)) dNil)))) dNext)
def d_law_answer_t1 : DS := (dRet (dTup (dCons (dC (.str "refused")) (dCons (dC (.str "other")) dNil))))
def d_law_answer : DS := (dSeq (dSet 3 (dC .non))
  (dSeq (dSet 4 (dL (dLst dNil)))
  (dSeq (dTry 3 5 4 sp_run (dCons (dVar true 0) (dCons (dVar true 1) (dCons (dVar true 2) dNil))) mk34)
  (dSeq (dIfS (dT (dOp (oEqD false) (dVar false 4) (dL (dLst dNil)))) (dRet (dTup (dCons (dC (.str "left")) (dCons (dVar true 3) dNil)))) dNext)
  (dSeq (dSet 6 (dL (dLst (dCons (dC (.str "track")) (dCons (dC (.str "waiting")) (dCons (dC (.str "empty")) dNil))))))
  (dSeq (dFor (dRng1 (dCons (dC (.int 3)) dNil)) 7 d_law_answer_1)
  d_law_answer_t1))))))
theorem ln_law_answer : ∀ ds Q, sp_law_answer ds Q → ds.length = 3 := by
  rintro ds Q ⟨_, _, _, rfl, _⟩
  rfl
def mkB (c : Nat) : List Bool := [decide (c = 0), decide (c = 1), decide (c = 2), decide (c = 3), false]
def ksB (k : Nat) : List Bool := [false ^^ decide ((0 : Int) + (k : Nat) = 0), false ^^ decide ((0 : Int) + (k : Nat) = 1), false ^^ decide ((0 : Int) + (k : Nat) = 2), false, false]
theorem mk_ks {c k : Nat} (hc : c < 3) (hk : k < 3) : decide (mkB c = ksB k) = decide (k = c) := by
  have h1 : c = 0 ∨ c = 1 ∨ c = 2 := by omega
  have h2 : k = 0 ∨ k = 1 ∨ k = 2 := by omega
  rcases h1 with rfl | rfl | rfl <;> rcases h2 with rfl | rfl | rfl <;> decide +kernel
theorem nm_at {k : Nat} (hk : k < 3) : atI [D.str "track", D.str "waiting", D.str "empty"] ((0 : Int) + (k : Nat)) = some (.str (nm k)) := by
  have h2 : k = 0 ∨ k = 1 ∨ k = 2 := by omega
  rcases h2 with rfl | rfl | rfl <;> rfl
theorem ans_loop {Q : D → Prop} {P : DEnds} {c : Nat} (hc : c < 3) (hq : Q (.tup [.str "refused", .str (nm c)])) (hP : P.rt = Q) {a0 a1 a2 a3 s5 : Sl} :
    ∀ (ks : List Nat) (s7 : Sl), c ∈ ks → (∀ k ∈ ks, k < 3) → dForG d_law_answer_1 7 P (ks.map fun i => D.int (0 + (i : Nat))) [a0, a1, a2, a3, .fz (.lst ((mkB c).map D.bl)), s5, .fz (.lst [D.str "track", D.str "waiting", D.str "empty"]), s7]
  | [], _, h, _ => by cases h
  | k :: ks, s7, h, hk => by
    have k3 := hk k (List.mem_cons_self ..)
    have sm := shp_bools (mkB c)
    have sk := shp_bools (ksB k)
    have em := eqv_bools (mkB c) (ksB k)
    rw [mk_ks hc k3] at em
    walk_at "w"
    refine ⟨Nat.le_of_ble_eq_true rfl, sm, sk, ?_⟩
    show ((false ^^ PyData.eqv (D.lst ((mkB c).map D.bl)).py (D.lst ((ksB k).map D.bl)).py) = true → _) ∧ ((false ^^ PyData.eqv (D.lst ((mkB c).map D.bl)).py (D.lst ((ksB k).map D.bl)).py) = false → _)
    rw [em, Bool.false_xor]
    refine ⟨fun h => ?_, fun h => ?_⟩
    · have hk := of_decide_eq_true h
      subst hk
      walk_at "w"
      refine ⟨_, nm_at k3, Nat.le_of_ble_eq_true rfl, ?_⟩
      show P.rt _
      rw [hP]
      exact hq
    · have hk' := of_decide_eq_false h
      have hm : c ∈ ks := by
        rcases List.mem_cons.mp ‹c ∈ k :: ks› with rfl | z
        · exact absurd rfl hk'
        · exact z
      exact ans_loop hc hq hP ks _ hm (fun j hj => hk j (List.mem_cons_of_mem _ hj))
theorem th_law_answer : ∀ ds Q, sp_law_answer ds Q → d_law_answer (dEnds Q) (dstart 8 ds) := by
  rintro ds Q ⟨kk, row, plan, rfl, hl, hq⟩
  walk_at "w"
  refine ⟨Nat.zero_le _, kk, row, plan, rfl, hl, ?_⟩
  have s0 := shp_bools []
  cases e : (PY.new kk row).run plan with
  | ok s =>
    rw [e] at hq
    have e0 : PyData.eqv (D.lst []).py (D.lst []).py = true := eqv_bools [] []
    walk_at "w"
    refine ⟨Nat.zero_le _, s0, s0, ?_⟩
    show ((false ^^ PyData.eqv (D.lst []).py (D.lst []).py) = true → _) ∧ _
    rw [e0]
    refine ⟨fun _ => ?_, fun h => Bool.noConfusion h⟩
    walk_at "w"
    exact ⟨Nat.le_of_ble_eq_true rfl, hq⟩
  | error c =>
    rw [e] at hq
    have c3 := PY.run_lt e
    refine ⟨by omega, (by decide : (5:Nat) ≠ 4), Nat.le_of_ble_eq_true rfl, Nat.le_of_ble_eq_true rfl, ?_⟩
    have sm := shp_bools [decide (c = 0), decide (c = 1), decide (c = 2), decide (c = 3), false]
    have em : PyData.eqv (D.lst ([decide (c = 0), decide (c = 1), decide (c = 2), decide (c = 3), false].map D.bl)).py (D.lst []).py = false := eqv_bools _ []
    walk_at "w"
    refine ⟨Nat.zero_le _, sm, s0, ?_⟩
    show ((false ^^ PyData.eqv (D.lst ([decide (c = 0), decide (c = 1), decide (c = 2), decide (c = 3), false].map D.bl)).py (D.lst []).py) = true → _) ∧ _
    rw [em]
    refine ⟨fun h => Bool.noConfusion h, fun _ => ?_⟩
    walk_at "w"
    refine ⟨Nat.le_of_ble_eq_true rfl, ?_⟩
    walk_at "w"
    refine ⟨⟨by decide, by decide⟩, ?_⟩
    exact ans_loop (Q := Q) (c := c) c3 hq rfl [0, 1, 2] .un (by simp only [List.mem_cons, List.not_mem_nil, or_false]; omega) (fun k hk => by simp only [List.mem_cons, List.not_mem_nil, or_false] at hk; omega)
end DL

/-! M14: kinds and answers compared -/
namespace DL
open PySem L2
local macro_rules | `(tactic| walk_at "w") => `(tactic| conv => whnf)
local macro_rules | `(tactic| walk_at "side") => `(tactic| first | omega | decide | exact Nat.le_of_ble_eq_true rfl | exact ⟨by decide, by decide⟩ | exact Or.inl ⟨by omega, by omega⟩ | exact Or.inr ⟨by omega, by omega⟩ | (show (_ : Int) ≠ 0; omega) | exact ⟨by omega, by omega⟩ | (rw [List.length_map]; omega) | (simp only [List.length_map, List.length_append, List.length_cons, List.length_nil]; omega))
local macro_rules | `(tactic| walk_at "go") => `(tactic| ((repeat ((conv => whnf); first | (refine And.intro ?_ ?_; · walk_at "side") | refine And.intro (fun h => Bool.noConfusion (show false = true from h)) (fun _ => ?_) | refine And.intro (fun _ => ?_) (fun h => Bool.noConfusion (show true = false from h)))); (conv => whnf)))
local macro_rules | `(tactic| walk_at "if") => `(tactic| refine ⟨fun hc => ?_, fun hc => ?_⟩)
theorem shp_kinds (bs : List Bool) : (D.lst ((kindL bs).map D.str)).shp := by
  unfold kindL
  rw [List.map_map]
  have h1 : ∀ bs : List Bool, D.plainAll (bs.map (D.str ∘ kindS)) = true := fun bs => by
    induction bs with
    | nil => rfl
    | cons n ns ih => exact ih
  have h2 : ∀ bs : List Bool, PyData.canLayAll0 (D.pyAll (bs.map (D.str ∘ kindS))) = true := fun bs => by
    induction bs with
    | nil => rfl
    | cons n ns ih =>
      show (PyData.canLay0 (.str (kindS n)) && PyData.canLayAll0 (D.pyAll (ns.map (D.str ∘ kindS)))) = true
      rw [ih]
      cases n <;> simp [PyData.canLay0] <;> decide +kernel
  have h3 : ∀ bs : List Bool, PyData.depthAll (D.pyAll (bs.map (D.str ∘ kindS))) = 0 := fun bs => by
    induction bs with
    | nil => rfl
    | cons n ns ih =>
      show max (PyData.depth (.str (kindS n))) (PyData.depthAll (D.pyAll (ns.map (D.str ∘ kindS)))) = 0
      rw [ih]
      simp [PyData.depth]
  refine ⟨h1 bs, ?_⟩
  unfold SeqAt.shaped
  show (PyData.canLayAll0 (D.pyAll (bs.map (D.str ∘ kindS))) && decide (PyData.depthAll (D.pyAll (bs.map (D.str ∘ kindS))) + 1 ≤ 64)) = true
  rw [h2, h3]
  decide
theorem eqv_strs (zs : List Str) : PyData.eqv (D.lst (zs.map D.str)).py (D.lst (zs.map D.str)).py = true := by
  show PyData.eqvAll (D.pyAll (zs.map D.str)) (D.pyAll (zs.map D.str)) = true
  induction zs with
  | nil => rfl
  | cons n ns ih =>
    show (PyData.eqv (.str n) (.str n) && PyData.eqvAll (D.pyAll (ns.map D.str)) (D.pyAll (ns.map D.str))) = true
    rw [ih]
    show ((n == n) && true) = true
    simp
theorem shp_refused (c : Nat) : (D.tup [.str "refused", .str (nm c)]).shp := by
  unfold nm
  split <;> exact ⟨rfl, by decide +kernel⟩
theorem eqv_refused (c : Nat) : PyData.eqv (D.tup [.str "refused", .str (nm c)]).py (D.tup [.str "refused", .str (nm c)]).py = true := by
  show ((("refused" : Str) == "refused") && ((nm c == nm c) && true)) = true
  simp
theorem dLcG_filtI {j : Nat} {dt : DT} {de : DE} {ρ : Env} {Q : List D → Prop} {p : Int → Bool} (hdt : ∀ (x : Int) (R : Bool → Prop), R (p x) → dt (put ρ j (.fz (.int x))) R) (hde : ∀ (x : Int) (R : D → Prop), R (.int x) → de (put ρ j (.fz (.int x))) R) :
    ∀ (xs acc : List Int), Q ((acc ++ xs.filter p).map D.int) → dLcG j dt de ρ Q (xs.map D.int) (acc.map D.int)
  | [], acc, h => by
    rw [List.filter_nil, List.append_nil] at h
    exact h
  | x :: xs, acc, h => by
    refine hdt x _ ⟨fun hc => ?_, fun hc => ?_⟩
    · refine hde x _ ?_
      have e : acc.map D.int ++ [D.int x] = (acc ++ [x]).map D.int := by rw [List.map_append]; rfl
      rw [e]
      refine dLcG_filtI hdt hde xs (acc ++ [x]) ?_
      rw [List.filter_cons_of_pos hc] at h
      simpa using h
    · refine dLcG_filtI hdt hde xs acc ?_
      rw [List.filter_cons_of_neg (by rw [hc]; decide)] at h
      exact h
end DL

/-! YD H: a deed told by the yard: the try around it; promises of the law's helpers -/
namespace DL
open PySem L2
def tMethE (C : Addr) (m : Str) (sp : Sp) (E : St → XK) (ta : TE) (t : TA) : TE := fun σ H Q => ta σ H fun x H1 => ∃ a dx fs, x = .ref a ∧ H1 a = some (.ins C dx fs) ∧ fs.lookup m = none ∧ t σ H1 fun vs H2 => sp (x :: vs) H2 Q (E σ)
section
variable {X : Cx} {CX : CXT} {k : Nat} {f C : Addr} {fd : FuncData} {ps : List Str} {sp : Sp} {E : St → XK} {m : Str} {pos apos : Pos} {e o : Expr} {es : List Expr} {ta : TE} {t : TA}
theorem pe_methE {pl : Sem Bool} (he : PE X o ta) (c : Cls X.K C) (hm : Meth X.K C m f) (F : FnOk X.prog X.w X.K X.mg X.base CX k f fd ps sp) (hr : Room k X.A) (hb : Binds X.K fd ps []) (hx : ∀ σ, PassesAt CX X σ (E σ)) (ha : PA X (e :: es) t)
    (hst : starEach (e :: es) X.env = (false, eval e X.env) :: starEach es X.env := by rfl) (hpl : (backTo pos (starEach es X.env)).any (·.1) = false := by rfl)
    (ht : eval (.Call (.Attribute o m apos) (e :: es) [] pos) X.env = (do
      let ov ← eval o X.env
      standAt apos.atName
      let (f, first) ← holding [ov] (getMethod ov m pl)
      callWith pos f first (backTo pos (starEach (e :: es) X.env)) (backToKw pos (keywordEach [] X.env))) := by rfl) :
    PE X (.Call (.Attribute o m apos) (e :: es) [] pos) (tMethE C m sp E ta t) := by
  refine ⟨fun pins s σ H Q I h => ?_⟩
  refine PySem.W.methodCall_KW (pl := pl) (thn (he.run pins s σ H _ I h) fun u s1 ⟨x, H1, I1, rx, a, dx, fs, ex, ea, l, q⟩ => ?_) ht
  subst ex
  obtain rfl : u = Value.ref a := rx
  refine getmeth_ok I1 ea c hm l ?_
  refine PySem.W.callWith_K (first := [.ref a]) (h₀ := X.base) I.ok.mod.kin hm.kp (thn (ha.run pos pins s1 σ H1 _ I1 q) fun us s2 ⟨vs, H2, I2, r, q2⟩ => ⟨I2.kIn, ?_⟩) hst hpl
  exact run_fnS (us := .ref a :: us) (vs := .ref a :: vs) F hr hb (hx σ) I2 (.cons rfl r) q2
end
def dTold (C : Addr) (iy id y n m : Nat) : DS := fun P ρ => ∃ (s : PY) (d : Deed) (k : Nat), nth ρ iy = .ob C s.y ∧ nth ρ id = .fz (deedD d) ∧ s.fit k ∧ k < 1000000 ∧ n ≠ m ∧ n < ρ.length ∧ m < ρ.length ∧
  told (s.step d) (fun s' => P.nx (put (put ρ iy (.ob C s'.y)) y (.fz .non))) (fun c => P.nx (put (put (put (put ρ n .un) m (.fz (.lst [.bl (mk34 c).1, .bl (mk34 c).2.1, .bl (mk34 c).2.2.1]))) m (.fz (.lst [.bl (mk34 c).1, .bl (mk34 c).2.1, .bl (mk34 c).2.2.1, .bl (mk34 c).2.2.2.1, .bl (mk34 c).2.2.2.2]))) n .un))
section
variable {K : PySem.W.Frag} {mg : Str → Option Value} {cl : Nat → Addr} {cY C : Addr}
abbrev tToldE (K : PySem.W.Frag) (C : Addr) (cl : Nat → Addr) (W : WX) (iy id : Nat) : TE := tIf (tTest (tOp rEq (tOp (rIx K) (tVar id) (tC (.int 0))) (tC (.str "in"))))
  (tMethE C "enter" (liftM K C cl sp_enter) (WE W) (tVar iy) (tCons (tOp (rIx K) (tVar id) (tC (.int 1))) tNil))
  (tMethE C "leave" (liftM K C cl sp_leave) (WE W) (tVar iy) (tCons (tOp (rIx K) (tVar id) (tC (.int 1))) tNil))
theorem ss_told {y n m iy id : Nat} (T : ErrTab K mg cl cY) :
    SSt K (fun D σ H => tAsg (tToldE K C cl (wAs K (.ref cY) n (tSuite m (i34 K cl n)) (fun _ _ _ _ => False) D) iy id) (gName y) D σ H) (dTold C iy id y n m) := fun H0 F0 F H ρ σ P En r q g => by
  obtain ⟨s, d, k, hi, hd, hfit, hk, nm, hn, hm, q⟩ := q
  have hI := marks34 T n
  have len : σ.length = ρ.length := by
    obtain ⟨os, h1, _⟩ := r.sl
    exact h1.lenEq
  have hu : nth ρ iy ≠ .un := by rw [hi]; exact Sl.noConfusion
  obtain ⟨dv, f1, f2⟩ := r.fzAt hd
  cases f2 with
  | @tup dA _ _ d1 d2 =>
  cases d2 with
  | cons d3 d4 =>
  cases d4 with
  | cons d5 d6 =>
  cases d6
  cases d3
  cases d5
  have hdT : SqT K H dA [.str (dirS d.1), .int d.2] := .inl (.inl (r.fh _ _ d1))
  have a0 : L2.atI [V.str (dirS d.1), V.int d.2] 0 = some (.str (dirS d.1)) := atI_nat (Int.le_refl 0) rfl
  have a1 : L2.atI [V.str (dirS d.1), V.int d.2] 1 = some (.int d.2) := atI_nat (by decide) rfl
  have hdir : (decide (V.str (dirS d.1) = V.str "in") = true) ↔ d.1 = true := by
    rw [decide_eq_true_iff]
    cases d.1 <;> decide
  obtain ⟨v, o, e1, e2, n', ho', kk⟩ := r.mutate iy hu
  rw [hi] at e2
  cases e2 with
  | @ob _ p _ _ hy =>
  obtain ⟨dx, kA, rA, tA, gA, g1⟩ := hy.ins
  have succ : ∀ y' F3 H3, (∃ s', y' = s'.y ∧ s.step d = .ok s') → Ex F F3 → Ex F3 H3 → (∀ a, F a = none → F3 a ≠ none → H a = none) → (∀ a, a ∉ o → ∀ o, H a = some o → H3 a = some o) → YOk K F3 H3 C y' p o → En.nx (σ.set y (some .non)) H3 := fun y' F3 H3 hs e3 f3 nw kp hY => by
    obtain ⟨s', rfl, hs⟩ := hs
    have r3 := kk F3 H3 (.ob C s'.y) o e3 f3 (fun a o ha => kp a (fun z => by rw [(ho' a z).2] at ha; cases ha) o (r.h0 _ _ ha)) (fun a h1 h2 => ?_) kp (.ob hY) n' (fun a ha => ⟨?_, (ho' a ha).2, .inl ha⟩) (fun a ha h1 => ?_)
    · have hq := told_ok q hs
      exact g.nx F3 H3 _ _ (r3.putFz y .non) hq
    · by_cases z : F a = none
      · exact r.h0.back (nw a z h2)
      · exact r.nw a h1 z
    · cases z : F3 a with
      | none => rfl
      | some o => exact absurd (nw a (ho' a ha).1 (by rw [z]; simp)) (hy.dom ha)
    · by_cases z : F a = none
      · exact .inr (nw a z h1)
      · exact .inl z
  have fail : ∀ c H3, s.step d = .error c → Ex H H3 → wAs K (.ref cY) n (tSuite m (i34 K cl n)) (fun _ _ _ _ => False) En (.ref (cl c)) none σ H3 := fun c H3 hc e => by
    have c4 : c < 4 := Nat.lt_succ_of_lt (PY.step_er hc)
    have hq := told_er q hc
    refine ⟨true, T.exm c4, fun _ a hA => ?_, fun z => Bool.noConfusion z⟩
    obtain ⟨i1, i2, i3, i4, i5⟩ := hI.ev c c4 a
    have r3 := r.step (Stp.grow r.fh e)
    have r4 := r3.putUn n (some (.ref a))
    refine marks_run i1 i2 i3 i4 i5 nm (by rw [List.length_set, len]; exact hm) (List.getElem?_set_self (by rw [len]; exact hn)) r4 fun F5 H5 σ5 r5 => ?_
    exact g.nx _ _ _ _ (r5.putUn n none) hq
  refine ⟨_, f1, .inr (.inl ⟨dA, _, 0, _, rfl, rfl, hdT, a0, rfl, _, rfl, ?_⟩)⟩
  refine ite2 (fun hz => ?_) (fun hz => ?_)
  · have es : s.step d = s.inn d.2 := if_pos (hdir.mp hz)
    refine ⟨_, e1, p, dx, _, rfl, g1, yf_enter .., _, f1, .inr (.inl ⟨dA, _, 1, .int d.2, rfl, rfl, hdT, a1, ?_⟩)⟩
    refine ⟨F, p, s.y, o, [.int d.2], [.int d.2], fun y' => ∃ s', y' = s'.y ∧ s.step d = .ok s', fun c => s.step d = .error c, r.fh, rfl, .one (.int _), hy, n', fun a ha => (ho' a ha).1, ⟨s, d.2, k, rfl, rfl, hfit, hk, ?_⟩, fun y' F3 H3 hs e3 f3 nw kp hY => succ y' F3 H3 hs e3 f3 nw kp hY, fun c H3 hc e => fail c H3 hc e⟩
    rw [es]
    cases s.inn d.2 with
    | ok s' => exact ⟨s', rfl, rfl⟩
    | error c => exact rfl
  · have es : s.step d = s.out d.2 := if_neg fun z => hz (hdir.mpr z)
    refine ⟨_, e1, p, dx, _, rfl, g1, yf_leave .., _, f1, .inr (.inl ⟨dA, _, 1, .int d.2, rfl, rfl, hdT, a1, ?_⟩)⟩
    refine ⟨F, p, s.y, o, [.int d.2], [.int d.2], fun y' => ∃ s', y' = s'.y ∧ s.step d = .ok s', fun c => s.step d = .error c, r.fh, rfl, .one (.int _), hy, n', fun a ha => (ho' a ha).1, ⟨s, d.2, k, rfl, rfl, hfit, hk, ?_⟩, fun y' F3 H3 hs e3 f3 nw kp hY => succ y' F3 H3 hs e3 f3 nw kp hY, fun c H3 hc e => fail c H3 hc e⟩
    rw [es]
    cases s.out d.2 with
    | ok s' => exact ⟨s', rfl, rfl⟩
    | error c => exact rfl
end
/-- _law_told(yard, deed) -/
def spTold (K : PySem.W.Frag) (C : Addr) : Sp := fun vs H Q _ => ∃ (F : Hp) (p : Addr) (dv : V) (os : List Addr) (s : PY) (d : Deed) (n : Nat), vs = [.ref p, dv] ∧ Ex F H ∧ Rep K F dv (deedD d) ∧ YOk K F H C s.y p os ∧ os.Nodup ∧ (∀ a ∈ os, F a = none) ∧ s.fit n ∧ n < 1000000 ∧
  ∀ F' H', Ex F F' → Ex F' H' → (∀ a, F a = none → F' a ≠ none → H a = none) → (∀ a, a ∉ os → ∀ o, H a = some o → H' a = some o) → YOk K F' H' C (stepS s d).1.y p os → Q (.str (stepS s d).2) H'
/-- _law_seen(found, due): alike -/
def spSeen : Sp := fun vs H Q _ => ∃ (q a : Addr) (ns : List Int), vs = [.ref q, .ref a] ∧ q ≠ a ∧ H q = some (.lst (ns.map V.int)) ∧ H a = some (.lst (ns.map V.int)) ∧ ns.length < 1000000 ∧ ∀ H', (∀ x, x ≠ q → ∀ o, H x = some o → H' x = some o) → Q (.bl true) H'
/-- _law_refused_look(yard, track): refused -/
def spRef (K : PySem.W.Frag) (C : Addr) : Sp := fun vs H Q _ => ∃ (F : Hp) (p : Addr) (os : List Addr) (s : PY) (t : Int), vs = [.ref p, .int t] ∧ Ex F H ∧ YOk K F H C s.y p os ∧ os.Nodup ∧ ¬ s.has t ∧ ∀ H', Ex H H' → Q (.bl true) H'
end DL

/-! YD J: what is told, seen: readings and walks; a deed by a cell -/
namespace DL
open PySem L2 TL
local macro_rules | `(tactic| walk_at "w") => `(tactic| conv => whnf)
local macro_rules | `(tactic| walk_at "side") => `(tactic| first | omega | decide | exact Nat.le_of_ble_eq_true rfl | exact ⟨by decide, by decide⟩ | exact Or.inl ⟨by omega, by omega⟩ | exact Or.inr ⟨by omega, by omega⟩ | (show (_ : Int) ≠ 0; omega) | exact ⟨by omega, by omega⟩ | (rw [List.length_map]; omega) | (simp only [List.length_map, List.length_append, List.length_cons, List.length_nil]; omega))
local macro_rules | `(tactic| walk_at "go") => `(tactic| ((repeat ((conv => whnf); first | (refine And.intro ?_ ?_; · walk_at "side") | refine And.intro (fun h => Bool.noConfusion (show false = true from h)) (fun _ => ?_) | refine And.intro (fun _ => ?_) (fun h => Bool.noConfusion (show true = false from h)))); (conv => whnf)))
local macro_rules | `(tactic| walk_at "if") => `(tactic| refine ⟨fun hc => ?_, fun hc => ?_⟩)
def d_told_1 : DS := (dIfS (dT (dOp (oEqD false) (dVar false 3) (dL (dLst (dCons (dOp (oEq false) (dVar false 6) (dC (.int 0))) (dCons (dOp (oEq false) (dVar false 6) (dC (.int 1))) (dCons (dOp (oEq false) (dVar false 6) (dC (.int 2))) (dCons (dC (.bl false)) (dCons (dC (.bl false)) dNil))))))))) (dRet (dIx (dIv true 5) (dVar false 6))) dNext)
def d_told_rest : DS := (dSeq (dIfS (dAnd (dT (dOp (oEqD false) (dVar false 3) (dL (dLst dNil)))) (dT (dOp (oIsN false) (dVar false 2) (dC .non)))) (dRet (dC (.str "done"))) dNext)
  (dSeq (dSet 5 (dL (dLst (dCons (dC (.str "track")) (dCons (dC (.str "waiting")) (dCons (dC (.str "empty")) dNil))))))
  (dSeq (dFor (dRng1 (dCons (dC (.int 3)) dNil)) 6 d_told_1)
  (dRet (dC (.str "other"))))))
theorem told_loop {Q : D → Prop} {P : DEnds} {c : Nat} (hc : c < 3) (hq : Q (.str (nm c))) (hP : P.rt = Q) {a0 a1 a2 s4 : Sl} :
    ∀ (ks : List Nat) (s6 : Sl), c ∈ ks → (∀ k ∈ ks, k < 3) → dForG d_told_1 6 P (ks.map fun i => D.int (0 + (i : Nat))) [a0, a1, a2, .fz (.lst ((mkB c).map D.bl)), s4, .fz (.lst [D.str "track", D.str "waiting", D.str "empty"]), s6]
  | [], _, h, _ => by cases h
  | k :: ks, s6, h, hk => by
    have k3 := hk k (List.mem_cons_self ..)
    have sm := shp_bools (mkB c)
    have sk := shp_bools (ksB k)
    have em := eqv_bools (mkB c) (ksB k)
    rw [mk_ks hc k3] at em
    walk_at "w"
    refine ⟨Nat.le_of_ble_eq_true rfl, sm, sk, ?_⟩
    show ((false ^^ PyData.eqv (D.lst ((mkB c).map D.bl)).py (D.lst ((ksB k).map D.bl)).py) = true → _) ∧ ((false ^^ PyData.eqv (D.lst ((mkB c).map D.bl)).py (D.lst ((ksB k).map D.bl)).py) = false → _)
    rw [em, Bool.false_xor]
    refine ⟨fun h => ?_, fun h => ?_⟩
    · have hk := of_decide_eq_true h
      subst hk
      walk_at "w"
      refine ⟨_, nm_at k3, ?_⟩
      show P.rt _
      rw [hP]
      exact hq
    · have hk' := of_decide_eq_false h
      have hm : c ∈ ks := by
        rcases List.mem_cons.mp ‹c ∈ k :: ks› with rfl | z
        · exact absurd rfl hk'
        · exact z
      exact told_loop hc hq hP ks _ hm (fun j hj => hk j (List.mem_cons_of_mem _ hj))
theorem th_told_done {Q : D → Prop} {a0 a1 : Sl} (hq : Q (.str "done")) : d_told_rest (dEnds Q) [a0, a1, .fz .non, .fz (.lst []), .un, .un, .un] := by
  have s0 := shp_bools []
  have e0 : PyData.eqv (D.lst []).py (D.lst []).py = true := eqv_bools [] []
  walk_at "w"
  refine ⟨Nat.zero_le _, s0, s0, ?_⟩
  show ((false ^^ PyData.eqv (D.lst []).py (D.lst []).py) = true → _) ∧ _
  rw [e0]
  refine ⟨fun _ => ?_, fun h => Bool.noConfusion h⟩
  walk_at "w"
  refine ⟨fun _ => ?_, fun h => Bool.noConfusion h⟩
  walk_at "w"
  exact hq
theorem th_told_er {Q : D → Prop} {a0 a1 a2 : Sl} {c : Nat} (c3 : c < 3) (hq : Q (.str (nm c))) : d_told_rest (dEnds Q) [a0, a1, a2, .fz (.lst ((mkB c).map D.bl)), .un, .un, .un] := by
  have s0 := shp_bools []
  have sm := shp_bools (mkB c)
  have em : PyData.eqv (D.lst ((mkB c).map D.bl)).py (D.lst []).py = false := eqv_bools (mkB c) []
  walk_at "w"
  refine ⟨Nat.zero_le _, sm, s0, ?_⟩
  show ((false ^^ PyData.eqv (D.lst ((mkB c).map D.bl)).py (D.lst []).py) = true → _) ∧ ((false ^^ PyData.eqv (D.lst ((mkB c).map D.bl)).py (D.lst []).py) = false → _)
  rw [em]
  refine ⟨fun h => Bool.noConfusion h, fun _ => ?_⟩
  walk_at "w"
  refine ⟨fun h => Bool.noConfusion h, fun _ => ?_⟩
  walk_at "w"
  refine ⟨Nat.le_of_ble_eq_true rfl, ?_⟩
  walk_at "w"
  refine ⟨⟨by decide, by decide⟩, ?_⟩
  exact told_loop (Q := Q) (c := c) c3 hq rfl [0, 1, 2] .un (by simp only [List.mem_cons, List.not_mem_nil, or_false]; omega) (fun k hk => by simp only [List.mem_cons, List.not_mem_nil, or_false] at hk; omega)
/-! ### seen -/
def d_seen : DS := (dSeq (dIfS (dOr (dNot (dT (dCall sp_law_wagons (dCons (dVar false 0) dNil)))) (dT (dOp (oEqD true) (dVar false 0) (dVar false 1)))) (dRet (dC (.bl false))) dNext)
  (dSeq (dApp 0 (dC (.int 7)))
  (dRet (dC (.bl true)))))
theorem th_seen {Q : D → Prop} {ns : List Int} (hl : ns.length < 1000000) (hq : Q (.bl true)) : d_seen (dEnds Q) [.l1 (ns.map D.int), .fz (.lst (ns.map D.int))] := by
  have es := eqv_self ns
  unfold dints at es
  walk_at "w"
  refine ⟨ns, rfl, ?_⟩
  walk_at "w"
  refine ⟨fun h => Bool.noConfusion h, fun _ => ?_⟩
  walk_at "w"
  refine ⟨shp_ints ns, shp_ints ns, ?_⟩
  rw [es]
  refine ⟨fun h => Bool.noConfusion h, fun _ => ?_⟩
  walk_at "w"
  exact ⟨by rw [List.length_map]; exact hl, hq⟩
/-! ### a deed by a cell -/
def sp_law_deed : DSp := fun ds Q => ∃ cell count : Int, ds = [.int cell, .int count] ∧ 0 ≤ count ∧ ∀ d : Deed, Q (deedD d)
def d_law_deed : DS := (dSeq (dSet 2 (dIx (dLst (dCons (dC (.str "in")) (dCons (dC (.str "out")) dNil))) (dOp oMod (dVar false 0) (dC (.int 2)))))
  (dSeq (dIfS (dT (dOp (oEq false) (dOp oMod (dOp oDiv (dVar false 0) (dC (.int 2))) (dC (.int 7))) (dC (.int 3)))) (dRet (dTup (dCons (dVar true 2) (dCons (dIx (dLst (dCons (dNeg (dC (.int 1))) (dCons (dVar true 1) (dCons (dOp oAdd (dOp oAdd (dVar false 1) (dC (.int 1))) (dOp oMod (dOp oDiv (dVar false 0) (dC (.int 14))) (dC (.int 900000)))) (dCons (dOp oSub (dNeg (dC (.int 1))) (dOp oMod (dOp oDiv (dVar false 0) (dC (.int 14))) (dC (.int 900000)))) dNil))))) (dOp oMod (dOp oDiv (dVar false 0) (dC (.int 14))) (dC (.int 4)))) dNil)))) dNext)
  (dSeq (dIfS (dT (dOp (oEq false) (dVar false 1) (dC (.int 0)))) (dRet (dTup (dCons (dVar true 2) (dCons (dC (.int 0)) dNil)))) dNext)
  (dRet (dTup (dCons (dVar true 2) (dCons (dOp oMod (dOp oDiv (dVar false 0) (dC (.int 14))) (dVar false 1)) dNil)))))))
theorem ln_law_deed : ∀ ds Q, sp_law_deed ds Q → ds.length = 2 := by
  rintro ds Q ⟨_, _, rfl, _⟩
  rfl
theorem at4 (a b c d i : Int) (h : 0 ≤ i ∧ i < 4) : ∃ t, atI [D.int a, D.int b, D.int c, D.int d] i = some (.int t) := by
  have : i = 0 ∨ i = 1 ∨ i = 2 ∨ i = 3 := by omega
  rcases this with rfl | rfl | rfl | rfl
  · exact ⟨a, rfl⟩
  · exact ⟨b, rfl⟩
  · exact ⟨c, rfl⟩
  · exact ⟨d, rfl⟩
theorem th_law_deed : ∀ ds Q, sp_law_deed ds Q → d_law_deed (dEnds Q) (dstart 3 ds) := by
  rintro ds Q ⟨cell, count, rfl, hc, hq⟩
  have f2 := fmod_rng cell (show (0 : Int) < 2 by decide)
  obtain ⟨b, hb1⟩ := dir_at _ f2
  walk_at "go"
  refine ⟨_, hb1, ?_⟩
  walk_at "go"
  refine ⟨fun _ => ?_, fun _ => ?_⟩
  · walk_at "go"
    have f4 := fmod_rng (cell.fdiv 14) (show (0 : Int) < 4 by decide)
    obtain ⟨t, ht⟩ := at4 (-1) count (count + 1 + (cell.fdiv 14).fmod 900000) (-1 - (cell.fdiv 14).fmod 900000) _ f4
    refine ⟨_, ht, ?_⟩
    walk_at "go"
    exact hq (b, t)
  · walk_at "w"
    refine ⟨fun _ => ?_, fun h => ?_⟩
    · walk_at "go"
      exact hq (b, 0)
    · have h' : ¬ count = 0 := of_decide_eq_false (by simpa using h)
      walk_at "go"
      exact hq (b, _)
end DL

/-! YD B: the methods, walked -/
namespace DL
open PySem L2
def ytop : Stmt := PySem.Challenge.pw_shuntyard_k03_a_yard_deed_by_deed.main.body.getD 7 (.Pass ⟨0, 0, 0, 0⟩)
abbrev y_told : Stmt := PySem.Challenge.pw_shuntyard_k03_a_yard_deed_by_deed.main.body.getD 12 (.Pass ⟨0, 0, 0, 0⟩)
abbrev y_step : Stmt := PySem.Challenge.pw_shuntyard_k03_a_yard_deed_by_deed.main.body.getD 13 (.Pass ⟨0, 0, 0, 0⟩)
abbrev y_seen : Stmt := PySem.Challenge.pw_shuntyard_k03_a_yard_deed_by_deed.main.body.getD 14 (.Pass ⟨0, 0, 0, 0⟩)
abbrev y_refused : Stmt := PySem.Challenge.pw_shuntyard_k03_a_yard_deed_by_deed.main.body.getD 15 (.Pass ⟨0, 0, 0, 0⟩)
abbrev y_init : Stmt := inClass ytop 0
abbrev y_look : Stmt := inClass ytop 1
abbrev y_enter : Stmt := inClass ytop 2
abbrev y_leave : Stmt := inClass ytop 3
abbrev y_waiting : Stmt := inClass ytop 4
abbrev y_standing : Stmt := inClass ytop 5
abbrev y_gone : Stmt := inClass ytop 6
section
variable {P : Program} {w : World} {K : PySem.W.Frag} {mg : Str → Option Value} {base : Heap} {C : Addr} {cl : Nat → Addr} {cY : Addr}
theorem sc_look : FnScope ["self", "track"] ["self", "track"] (defScope y_look) := ⟨rfl, rfl, rfl, by decide +kernel, rfl, by decide +kernel, by decide +kernel⟩
theorem ok_look (T : ErrTab K mg cl cY) (M : Bt mg) (Y : YTab K mg C) {fa : Addr} {fd : FuncData} (F : Fun K "look" "Yard.look" y_look fa fd) : FnOk P w K mg base (L2.CX P w) 1 fa fd ["self", "track"] (spLook K C cl) := by
  refine F.okX sc_look (fun vs H Q E h => ?_) (fun cdv A outer s H vs Q E hr h => ?_)
  · obtain ⟨_, _, _, _, _, rfl, _⟩ := h
    rfl
  obtain ⟨F', p, y, os, t, rfl, hy, k, kx⟩ := h
  cases hy with
  | @mk _ dx kA rA tA gA kv rv gv as ks rest go tr g1 g2 g3 g4 g5 g6 g7 g8 g9 =>
  refine ⟨_, pss_one (ps_if (PW.pt (pw_or (pt_cmpR op_lt (pv 1) pe_int (nomark _)) (pw_or1 (pt_cmpR op_ge (pv 1) (pe_callB call_len_seq (by rfl) M.len PySem.boot_len (pa_cons (pe_fld (pv 0) rfl) pa_nil)) (nomark _)))))
    (pss_one (ps_raise rfl (takes_of rfl rfl rfl rfl) (pmk_own PySem.F.excBase_ValueError (T.t 0 (by decide)).xC (T.t 0 (by decide)).gC (T.t 0 (by decide)).kC (raises_own (T.t 0 (by decide)).bC (T.t 0 (by decide)).tC) (by rfl) (by decide)))) pss_nil), ?_⟩
  refine ⟨_, rfl, _, _, rfl, rfl, _, rfl, ?_⟩
  refine ite2 (fun h => ?_) (fun h => ?_)
  · show E (.ref (cl 0)) none H
    have h' : t < 0 := of_decide_eq_true h
    exact kx fun z => absurd z.1 (by omega)
  refine ⟨_, rfl, _, rfl, p, C, dx, _, _, rfl, g1, Y.c, Y.nT, yf_t .., tA, _, rfl, .inl (SqL.of g6), _, _, rfl, rfl, _, rfl, ?_⟩
  rw [List.length_map, g7.len]
  refine ite2 (fun h2 => ?_) (fun h2 => ?_)
  · have h2' : (tr.length : Int) ≤ t := of_decide_eq_true h2
    exact kx fun z => absurd z.2 (by show ¬ t < (tr.length : Int); omega)
  · have h' : ¬ t < 0 := fun z => h (decide_eq_true z)
    have h2' : ¬ (tr.length : Int) ≤ t := fun z => h2 (decide_eq_true z)
    exact k ⟨by omega, by show t < (tr.length : Int); omega⟩
theorem sc_gone : FnScope ["self"] ["self"] (defScope y_gone) := ⟨rfl, rfl, rfl, by decide +kernel, rfl, by decide +kernel, by decide +kernel⟩
theorem ok_gone (M : Bt mg) (Y : YTab K mg C) {fa : Addr} {fd : FuncData} (F : Fun K "gone" "Yard.gone" y_gone fa fd) : FnOk P w K mg base (L2.CX P w) 1 fa fd ["self"] (liftL K C cl sp_gone) := by
  refine F.okX sc_gone (fun vs H Q E h => ?_) (fun cdv A outer s H vs Q E hr h => ?_)
  · obtain ⟨_, _, _, _, us, _, _, _, _, rfl, hv, _, _, ⟨rfl, _⟩, _⟩ := h
    cases hv
    rfl
  obtain ⟨F', p, y, os, us, ds, Q0, X0, e, rfl, hv, hy, _, ⟨rfl, hq⟩, k, kx⟩ := h
  cases hv
  cases hy with
  | @mk _ dx kA rA tA gA kv rv gv as ks rest go tr g1 g2 g3 g4 g5 g6 g7 g8 g9 =>
  refine ⟨_, pss_one (ps_ret (pe_callTy call_list_of (by rfl) M.list (by decide +kernel) (pa_cons (pe_fld (pv 0) rfl) pa_nil) (by decide) (by decide))), ?_⟩
  exact ⟨_, rfl, p, C, dx, _, _, rfl, g1, Y.c, Y.nG, yf_g .., gA, gv, rfl, .inl (SqL.of g8), fun l hl => k l gv go _ hq (Ex.new hl) hl upd_same g9⟩
theorem sc_enter : FnScope ["self", "track"] ["self", "track"] (defScope y_enter) := ⟨rfl, rfl, rfl, by decide +kernel, rfl, by decide +kernel, by decide +kernel⟩
theorem ok_enter (T : ErrTab K mg cl cY) (M : Bt mg) (Y : YTab K mg C) {fl : Addr} {fdl : FuncData} (GL : FnOk P w K mg base (L2.CX P w) 1 fl fdl ["self", "track"] (spLook K C cl)) (mL : Meth K C "look" fl) (bL : Binds K fdl ["self", "track"] [])
    {fa : Addr} {fd : FuncData} (F : Fun K "enter" "Yard.enter" y_enter fa fd) : FnOk P w K mg base (L2.CX P w) 2 fa fd ["self", "track"] (liftM K C cl sp_enter) := by
  refine F.okX sc_enter (fun vs H Q E h => ?_) (fun cdv A outer s H vs Q E hr h => ?_)
  · obtain ⟨_, _, _, _, us, _, _, _, _, rfl, hv, _, _, _, ⟨_, _, _, _, rfl, _⟩, _⟩ := h
    cases hv with
    | cons _ h => cases h; rfl
  obtain ⟨F', p, y, os, us, ds, Q0, X0, e, rfl, hv, hy, hn, ho, ⟨st, t, n, rfl, rfl, hfit, hn', hq⟩, k, kx⟩ := h
  cases hv with
  | cons h1 h2 =>
  cases h2
  cases h1
  have hy' := hy
  obtain ⟨kk, rest, tr, go⟩ := st
  cases hy with
  | @mk _ dx kA rA tA gA kv rv gv as _ _ _ _ g1 g2 g3 g4 g5 g6 g7 g8 g9 =>
  obtain rfl := g5.ints_inv
  refine ⟨_, pss_cons (ps_expr (pe_meth (pv 0) Y.c mL GL (hr.mono (by decide)) bL .nil (fun pins σ H s e s' I c => passE (takes_of rfl rfl rfl rfl) σ pins H s e s' I c) (pa_cons (pv 1) pa_nil)))
    (pss_cons (ps_if (pt_cmpR op_eq (pe_callB call_len_seq (by rfl) M.len PySem.boot_len (pa_cons (pe_fld (pv 0) rfl) pa_nil)) pe_int (nomark _))
      (pss_one (ps_raise rfl (takes_of rfl rfl rfl rfl) (pmk_own PySem.F.excBase_ValueError (T.t 1 (by decide)).xC (T.t 1 (by decide)).gC (T.t 1 (by decide)).kC (raises_own (T.t 1 (by decide)).bC (T.t 1 (by decide)).tC) (by rfl) (by decide)))) pss_nil)
    (pss_cons (ps_expr (pe_bm PySem.F.plainAttrs_list PySem.F.slot_list_append PySem.F.type_list_append mt_append (pe_ix ix_seq (pe_fld (pv 0) rfl) (pv 1) (fun _ _ => rfl)) (pa_cons (pe_ix ix_seq (pe_fld (pv 0) rfl) pe_int (fun _ _ => rfl)) pa_nil)))
    (pss_one (ps_fld (pv 0) (pe_slice sl_list (pe_fld (pv 0) rfl) (po_some pe_int) po_none) rfl)))), ?_⟩
  refine ⟨_, rfl, p, dx, _, rfl, g1, yf_look .., _, rfl, F', p, _, _, t, rfl, hy', fun hin => ?_, fun hout => ?_⟩
  case refine_2 => exact kx 0 H (told_er hq (PY.inn_no fun z => hout (PY.has_y.mp z))) (Ex.refl H)
  have hin' : PY.has ⟨kk, rest, tr, go⟩ t := PY.has_y.mpr hin
  refine ⟨_, rfl, p, C, dx, _, _, rfl, g1, Y.c, Y.nR, yf_r .., rA, _, rfl, .inl (SqL.of (e _ _ g4)), rfl, _, rfl, ?_⟩
  refine ite2 (fun hz => ?_) (fun hz => ?_)
  · have hz' : rest = [] := by simpa using hz
    exact kx 1 H (told_er hq (PY.inn_nil hin' hz')) (Ex.refl H)
  cases rest with
  | nil => exact absurd rfl hz
  | cons w0 rest =>
  have hq' := told_ok hq (PY.inn_ok hin' rfl)
  simp only [List.nodup_cons, List.mem_cons, not_or] at hn
  obtain ⟨⟨npt, npg, npa⟩, ⟨ntg, nta⟩, nga, nas⟩ := hn
  obtain ⟨b, b1, b2, b3, b4⟩ := trk hin' g7 nas
  have rfr : H rA = some (.lst ((w0 :: rest).map V.int)) := e _ _ g4
  have npb : p ≠ b := fun z => npa (z ▸ b2)
  have fb : F' b = none := ho b (by simp [b2])
  refine ⟨_, rfl, p, C, dx, _, _, rfl, g1, Y.c, Y.nT, yf_t .., _, rfl, .inl ⟨tA, _, t, _, rfl, rfl, SqL.of g6, b1, st_slot b3, _, rfl, p, C, dx, _, _, rfl, g1, Y.c, Y.nR, yf_r .., .inl ⟨rA, _, 0, .int w0, rfl, rfl, SqL.of rfr, atI_nat (Int.le_refl 0) rfl, b, _, .int w0, rfl, rfl, b3, ?_, ?_⟩⟩⟩
  · rw [List.length_map]
    exact sz_lt (Nat.lt_of_le_of_lt (PY.at_len hin' hfit) hn')
  refine ⟨_, rfl, p, C, dx, _, _, rfl, Eq.trans (upd_ne npb) g1, Y.c, Y.nR, yf_r .., 1, rfl, rA, _, rfl, SqL.of (Eq.trans (upd_ne (ne_of_none g4 fb)) rfr), fun m hm => ?_⟩
  have nbm : b ≠ m := fun z => by rw [z, upd_same] at hm; cases hm
  have hm0 : H m = none := by rw [upd_ne nbm.symm] at hm; exact hm
  have npm : p ≠ m := ne_of_none g1 hm0
  refine ⟨_, rfl, p, C, dx, _, rfl, Eq.trans (upd_ne npm) (Eq.trans (upd_ne npb) g1), Y.c, Y.nR, (by show 4 < 1000; decide), ?_⟩
  have fm : F' m = none := e.back hm0
  have out : ∀ a, a ≠ p → a ≠ m → a ≠ b → ∀ o, H a = some o → upd (upd (upd H b (.lst ((PY.at ⟨kk, w0 :: rest, tr, go⟩ t).map V.int ++ [.int w0]))) m (.lst (cutV ((w0 :: rest).map V.int) (some 1) none))) p (.ins C dx (putF "rest" (.ref m) (yf kA rA tA gA))) a = some o := fun a h1 h2 h3 o ho => by
    rw [upd_ne h1, upd_ne h2, upd_ne h3]
    exact ho
  have own := b4 (PY.at ⟨kk, w0 :: rest, tr, go⟩ t ++ [w0])
  rw [List.map_append] at own
  refine k _ (upd F' m (.lst (rest.map V.int))) _ hq' (Ex.new fm) (fun a o ha => ?_) (fun a h1 h2 => ?_) (fun a ha o h => ?_) (.mk upd_same (Eq.trans (upd_ne (ne_of_none g2 fm)) g2) (g3.up (Ex.new fm)) upd_same (RepL.ints rest) ?_ (own.keep (Ex.new fm) fun a ha o h => ?_) ?_ (g9.up (Ex.new fm)))
  · by_cases z : a = m
    · subst z
      rw [upd_same] at ha
      rw [upd_ne npm.symm, upd_same]
      show some (HO.lst (cutV (V.int w0 :: rest.map V.int) (some 1) none)) = some o
      rw [cutV_tail]
      exact ha
    · rw [upd_ne z] at ha
      exact out a (fun q => by rw [q, ho p (by simp)] at ha; cases ha) z (ne_of_none ha fb) o (e _ _ ha)
  · by_cases z : a = m
    · exact z ▸ hm0
    · rw [upd_ne z] at h2
      exact absurd h1 h2
  · exact out a (fun q => ha (by simp [q])) (ne_of_none h hm0) (fun q => ha (by simp [q, b2])) o h
  · exact out tA (Ne.symm npt) (ne_of_none g6 hm0) (fun q => nta (q ▸ b2)) _ g6
  · have nam : a ≠ m := ne_of_none h hm
    have nap : a ≠ p := fun q => npa (q ▸ ha)
    rw [upd_ne nap, upd_ne nam]
    exact h
  · exact out gA (Ne.symm npg) (ne_of_none g8 hm0) (fun q => nga (q ▸ b2)) _ g8
theorem sc_leave : FnScope ["self", "track", "place"] ["self", "track"] (defScope y_leave) := ⟨rfl, rfl, rfl, by decide +kernel, rfl, by decide +kernel, by decide +kernel⟩
theorem ok_leave (T : ErrTab K mg cl cY) (M : Bt mg) (Y : YTab K mg C) {fl : Addr} {fdl : FuncData} (GL : FnOk P w K mg base (L2.CX P w) 1 fl fdl ["self", "track"] (spLook K C cl)) (mL : Meth K C "look" fl) (bL : Binds K fdl ["self", "track"] [])
    {fa : Addr} {fd : FuncData} (F : Fun K "leave" "Yard.leave" y_leave fa fd) : FnOk P w K mg base (L2.CX P w) 2 fa fd ["self", "track"] (liftM K C cl sp_leave) := by
  refine F.okX sc_leave (fun vs H Q E h => ?_) (fun cdv A outer s H vs Q E hr h => ?_)
  · obtain ⟨_, _, _, _, us, _, _, _, _, rfl, hv, _, _, _, ⟨_, _, _, _, rfl, _⟩, _⟩ := h
    cases hv with
    | cons _ h => cases h; rfl
  obtain ⟨F', p, y, os, us, ds, Q0, X0, e, rfl, hv, hy, hn, ho, ⟨st, t, n, rfl, rfl, hfit, hn', hq⟩, k, kx⟩ := h
  cases hv with
  | cons h1 h2 =>
  cases h2
  cases h1
  have hy' := hy
  cases hy with
  | @mk _ dx kA rA tA gA kv rv gv as _ _ _ _ g1 g2 g3 g4 g5 g6 g7 g8 g9 =>
  obtain rfl := g9.ints_inv
  obtain rfl := g3.strs_inv
  refine ⟨_, pss_cons (ps_expr (pe_meth (pv 0) Y.c mL GL (hr.mono (by decide)) bL .nil (fun pins σ H s e s' I c => passE (takes_of rfl rfl rfl rfl) σ pins H s e s' I c) (pa_cons (pv 1) pa_nil)))
    (pss_cons (ps_if (pt_cmpR op_eq (pe_callB call_len_seq (by rfl) M.len PySem.boot_len (pa_cons (pe_ix ix_seq (pe_fld (pv 0) rfl) (pv 1) (fun _ _ => rfl)) pa_nil)) pe_int (nomark _))
      (pss_one (ps_raise rfl (takes_of rfl rfl rfl rfl) (pmk_own PySem.F.excBase_ValueError (T.t 2 (by decide)).xC (T.t 2 (by decide)).gC (T.t 2 (by decide)).kC (raises_own (T.t 2 (by decide)).bC (T.t 2 (by decide)).tC) (by rfl) (by decide)))) pss_nil)
    (pss_cons (ps_set (i := 2) sc_leave.nd rfl (Or.inl rfl) pe_int)
    (pss_cons (ps_if (pt_cmpR op_eq (pe_ix ix_seq (pe_fld (pv 0) rfl) (pv 1) (fun _ _ => rfl)) pe_str (nomark _))
      (pss_one (ps_set (i := 2) sc_leave.nd rfl (Or.inl rfl) (pe_op op_sub (pe_callB call_len_seq (by rfl) M.len PySem.boot_len (pa_cons (pe_ix ix_seq (pe_fld (pv 0) rfl) (pv 1) (fun _ _ => rfl)) pa_nil)) pe_int))) pss_nil)
    (pss_cons (ps_expr (pe_bm PySem.F.plainAttrs_list PySem.F.slot_list_append PySem.F.type_list_append mt_append (pe_fld (pv 0) rfl) (pa_cons (pe_ix ix_seq (pe_ix ix_seq (pe_fld (pv 0) rfl) (pv 1) (fun _ _ => rfl)) (pv 2) (fun _ _ => rfl)) pa_nil)))
    (pss_one (ps_expr (pe_bm PySem.F.plainAttrs_list PySem.F.slot_list_pop PySem.F.type_list_pop mt_popAt (pe_ix ix_seq (pe_fld (pv 0) rfl) (pv 1) (fun _ _ => rfl)) (pa_cons (pv 2) pa_nil)))))))), ?_⟩
  refine ⟨_, rfl, p, dx, _, rfl, g1, yf_look .., _, rfl, F', p, _, _, t, rfl, hy', fun hin => ?_, fun hout => ?_⟩
  case refine_2 => exact kx 0 H (told_er hq (PY.out_no fun z => hout (PY.has_y.mp z))) (Ex.refl H)
  have hin' : st.has t := PY.has_y.mpr hin
  simp only [List.nodup_cons, List.mem_cons, not_or] at hn
  obtain ⟨⟨npt, npg, npa⟩, ⟨ntg, nta⟩, nga, nas⟩ := hn
  obtain ⟨b, b1, b2, b3, b4⟩ := trk hin' g7 nas
  have npb : p ≠ b := fun z => npa (z ▸ b2)
  have ngb : gA ≠ b := fun z => nga (z ▸ b2)
  have ntb : tA ≠ b := fun z => nta (z ▸ b2)
  refine ⟨_, rfl, p, C, dx, _, _, rfl, g1, Y.c, Y.nT, yf_t .., _, rfl, .inl ⟨tA, _, t, _, rfl, rfl, SqL.of g6, b1, b, _, rfl, .inl (SqL.of b3), rfl, _, rfl, ?_⟩⟩
  refine ite2 (fun hz => ?_) (fun hz => ?_)
  · have hz' : st.at t = [] := by simpa using hz
    exact kx 2 H (told_er hq (PY.out_nil hin' hz')) (Ex.refl H)
  have hne : st.at t ≠ [] := fun z => hz (by rw [z]; rfl)
  have hq' := told_ok hq (PY.out_ok hin' hne)
  have hlen : (st.at t).length ≤ n := PY.at_len hin' hfit
  have hpos : 0 < (st.at t).length := List.length_pos_iff.mpr hne
  have hkl : t.toNat < st.kk.length := by have := hin'.1; have := hin'.2; have := hfit.1; omega
  have hkat : L2.atI (st.kk.map V.str) t = some (V.str (st.kk.getD t.toNat "")) := atI_map hin'.1 (by rw [List.getD_eq_getElem?_getD, List.getElem?_eq_getElem hkl]; rfl)
  have hplt : st.place t < (st.at t).length := by unfold PY.place; split <;> omega
  have com : ∀ i : Int, i = (st.place t : Int) → L2.atI ((st.at t).map V.int) i = some (V.int ((st.at t).getD (st.place t) 0)) ∧ seqIndex? i ((st.at t).map V.int).length = some (st.place t) ∧ -(2 ^ 63) ≤ i ∧ i < 2 ^ 63 := fun i hi => by
    subst hi
    refine ⟨atI_map (by omega) (by rw [Int.toNat_natCast, List.getD_eq_getElem?_getD, List.getElem?_eq_getElem hplt]; rfl), ?_, by omega, by omega⟩
    have z1 : ¬ ((st.place t : Nat) : Int) < 0 := by omega
    have z2 : st.place t < ((st.at t).map V.int).length := by rw [List.length_map]; exact hplt
    simp [seqIndex?, z1]
    omega
  refine ⟨_, rfl, p, C, dx, _, _, rfl, g1, Y.c, Y.nK, yf_k .., _, rfl, .inl ⟨kA, _, t, _, rfl, rfl, SqL.of (e _ _ g2), hkat, rfl, _, rfl, ?_⟩⟩
  refine ite2 (fun hz => ?g1) (fun hz => ?g2)
  case' g1 =>
    have hp : st.place t = (st.at t).length - 1 := by unfold PY.place; rw [if_pos (V.str.inj (of_decide_eq_true hz))]
    refine ⟨_, rfl, p, C, dx, _, _, rfl, g1, Y.c, Y.nT, yf_t .., _, rfl, .inl ⟨tA, _, t, _, rfl, rfl, SqL.of g6, b1, b, _, rfl, .inl (SqL.of b3), _, _, rfl, rfl, ?_⟩⟩
    have hx := com ((((st.at t).map V.int).length : Int) - 1) (by rw [List.length_map, hp]; omega)
  case' g2 =>
    have hp : st.place t = 0 := by unfold PY.place; rw [if_neg fun z => hz (by rw [z]; exact decide_eq_true rfl)]
    have hx := com 0 (by rw [hp]; rfl)
  all_goals
    obtain ⟨x1, x2, x3, x4⟩ := hx
    have fg : F' gA = none := ho gA (by simp)
    have fb : F' b = none := ho b (by simp [b2])
    refine ⟨_, rfl, p, C, dx, _, _, rfl, g1, Y.c, Y.nG, yf_g .., st_slot g8, _, rfl, p, C, dx, _, _, rfl, g1, Y.c, Y.nT, yf_t .., _, rfl, .inl ⟨tA, _, t, _, rfl, rfl, SqL.of g6, b1, _, rfl, .inl ⟨b, _, _, _, rfl, rfl, SqL.of b3, x1, gA, _, _, rfl, rfl, g8, by rw [List.length_map]; exact sz_lt (Nat.lt_of_le_of_lt hfit.2.2.2 hn'), ?_⟩⟩⟩
    refine ⟨_, rfl, p, C, dx, _, _, rfl, Eq.trans (upd_ne npg) g1, Y.c, Y.nT, yf_t .., _, rfl, .inl ⟨tA, _, t, _, rfl, rfl, SqL.of (Eq.trans (upd_ne ntg) g6), b1, st_slot (Eq.trans (upd_ne ngb.symm) b3), _, rfl, b, _, _, _, _, rfl, rfl, Eq.trans (upd_ne ngb.symm) b3, x3, x4, x2, (by rw [List.getElem?_map, List.getElem?_eq_getElem hplt]; rfl), ?_⟩⟩
    have ee : ((st.at t).map V.int).eraseIdx (st.place t) = ((st.at t).eraseIdx (st.place t)).map V.int := map_eraseIdx' ..
    rw [ee]
    have out : ∀ a, a ≠ gA → a ≠ b → ∀ o, H a = some o → upd (upd H gA (.lst ((st.go).map V.int ++ [.int ((st.at t).getD (st.place t) 0)]))) b (.lst (((st.at t).eraseIdx (st.place t)).map V.int)) a = some o := fun a h1 h2 o ho => by
      rw [upd_ne h2, upd_ne h1]
      exact ho
    have own := b4 ((st.at t).eraseIdx (st.place t))
    refine k _ F' _ hq' (Ex.refl F') (fun a o ha => out a (ne_of_none ha fg) (ne_of_none ha fb) o (e _ _ ha)) (fun a h1 h2 => absurd h1 h2) (fun a ha o h => out a (fun q => ha (by simp [q])) (fun q => ha (by simp [q, b2])) o h)
      (.mk (out p npg npb _ g1) g2 g3 g4 g5 (out tA ntg ntb _ g6) (own.keep (Ex.refl F') fun a ha o h => ?_) (Eq.trans (upd_ne ngb) upd_same) ?_)
    · by_cases z : a = b
      · subst z
        rw [upd_same] at h ⊢
        exact h
      · rw [upd_ne z] at h
        exact out a (fun q => nga (q ▸ ha)) z o h
    · show RepL K F' _ ((st.go ++ [(st.at t).getD (st.place t) 0]).map D.int)
      rw [List.map_append]
      exact (RepL.ints _).append (.one (.int _))
theorem sc_init : FnScope ["self", "kinds", "row", "kind"] ["self", "kinds", "row"] (defScope y_init) := ⟨rfl, rfl, rfl, by decide +kernel, rfl, by decide +kernel, by decide +kernel⟩
theorem ok_init (M : Bt mg) (Y : YTab K mg C) {fa : Addr} {fd : FuncData} (F : Fun K "__init__" "Yard.__init__" y_init fa fd) : FnOk P w K mg base (L2.CX P w) 1 fa fd ["self", "kinds", "row"] (spMake K C) := by
  refine F.okX sc_init (fun vs H Q E h => ?_) (fun cdv A outer s H vs Q E hr h => ?_)
  · obtain ⟨_, _, _, _, _, _, _, _, _, _, rfl, _⟩ := h
    rfl
  obtain ⟨F', p, dx, a, b, va, vb, da, db, e, rfl, fp, hp, nap, nbp, ha, hb, ra, rb, hl, k⟩ := h
  refine ⟨_, pss_cons (ps_fld (pv 0) (pe_callTy call_list_of (by rfl) M.list (by decide +kernel) (pa_cons (pv 1) pa_nil) (by decide) (by decide)) rfl)
    (pss_cons (ps_fld (pv 0) (pe_callTy call_list_of (by rfl) M.list (by decide +kernel) (pa_cons (pv 2) pa_nil) (by decide) (by decide)) rfl)
    (pss_cons (ps_fld (pv 0) (pe_lc (own := [("kind", 3)]) rfl sc_init.nd (pi_list (pe_fld (pv 0) rfl)) (blkOk_by (N := ["self", "kinds", "row", "kind"]) (sc := defScope y_init) (by decide +kernel))
      (fun _ _ _ _ _ => pg_name (i := 3) sc_init.nd rfl (Or.inl rfl)) (fun _ _ _ _ _ => pts_nil) (fun _ _ _ _ _ => pe_lst pa_nil)) rfl)
    (pss_one (ps_fld (pv 0) (pe_lst pa_nil) rfl)))), ?_⟩
  have st : ∀ (A : Hp) (z : Addr) (o1 o2 : HO), A z = none → ∀ x, x ≠ p → ∀ o, A x = some o → upd (upd A z o1) p o2 x = some o := fun A z o1 o2 hz x h1 o h => by
    rw [upd_ne h1, upd_ne (ne_of_none h hz)]
    exact h
  have bk : ∀ (A B : Hp), (∀ x, x ≠ p → ∀ o, A x = some o → B x = some o) → B p ≠ none → ∀ x, B x = none → x ≠ p ∧ A x = none := fun A B h h1 x h2 => by
    have xp : x ≠ p := fun z => h1 (z ▸ h2)
    refine ⟨xp, ?_⟩
    cases q : A x with
    | none => rfl
    | some o => rw [h x xp o q] at h2; cases h2
  refine ⟨_, rfl, a, va, rfl, .inl (SqL.of ha), fun kA hk => ⟨_, rfl, p, C, dx, _, rfl, Eq.trans (upd_ne (ne_of_none hp hk)) hp, Y.c, Y.nK, (by show 0 < 1000; decide), ?_⟩⟩
  have s1 := st H kA (.lst va) (.ins C dx (putF "kinds" (.ref kA) [])) hk
  have pk : kA ≠ p := fun z => by rw [z, hp] at hk; cases hk
  have h1p : upd (upd H kA (.lst va)) p (.ins C dx (putF "kinds" (.ref kA) [])) p = some (.ins C dx (putF "kinds" (.ref kA) [])) := upd_same
  have h1k : upd (upd H kA (.lst va)) p (.ins C dx (putF "kinds" (.ref kA) [])) kA = some (.lst va) := Eq.trans (upd_ne pk) upd_same
  generalize upd (upd H kA (.lst va)) p (.ins C dx (putF "kinds" (.ref kA) [])) = H1 at s1 h1p h1k ⊢
  refine ⟨_, rfl, b, vb, rfl, .inl (SqL.of (s1 b nbp _ hb)), fun rA hr => ⟨_, rfl, p, C, dx, _, rfl, Eq.trans (upd_ne (ne_of_none h1p hr)) h1p, Y.c, Y.nR, (by show 1 < 1000; decide), ?_⟩⟩
  have s2 := st H1 rA (.lst vb) (.ins C dx (putF "rest" (.ref rA) (putF "kinds" (.ref kA) []))) hr
  have pr : rA ≠ p := fun z => by rw [z, h1p] at hr; cases hr
  have h2p : upd (upd H1 rA (.lst vb)) p (.ins C dx (putF "rest" (.ref rA) (putF "kinds" (.ref kA) []))) p = some (.ins C dx (putF "rest" (.ref rA) (putF "kinds" (.ref kA) []))) := upd_same
  have h2r : upd (upd H1 rA (.lst vb)) p (.ins C dx (putF "rest" (.ref rA) (putF "kinds" (.ref kA) []))) rA = some (.lst vb) := Eq.trans (upd_ne pr) upd_same
  generalize upd (upd H1 rA (.lst vb)) p (.ins C dx (putF "rest" (.ref rA) (putF "kinds" (.ref kA) []))) = H2 at s2 h2p h2r ⊢
  have h2k := s2 kA pk _ h1k
  refine ⟨_, rfl, p, C, dx, _, _, rfl, h2p, Y.c, Y.nK, rfl, kA, rfl, ⟨va, SqL.of h2k⟩, fun D hD => ?_⟩
  refine lc_list (K := K) (a := kA) (xs := va) (fun k H' => NlW K H2 D k H') (nlw_start hD) (fun k H' _ w => ?_) (fun k x H' hx w => ?_) (fun H' w => ?_)
  · obtain ⟨as, e, _⟩ := w
    exact SqL.of (e _ _ h2k)
  · have := (List.getElem?_eq_some_iff.mp hx).1
    rw [ra.len] at this
    exact nlw_turn x w (Nat.lt_of_lt_of_le this hl)
  obtain ⟨as, e3, _, hD', hal, nd, has⟩ := w
  refine ⟨_, rfl, p, C, dx, _, rfl, e3 _ _ h2p, Y.c, Y.nT, (by show 2 < 1000; decide), ?_⟩
  refine ⟨Nat.zero_le _, fun gA hg => ⟨_, rfl, p, C, dx, _, rfl, Eq.trans (upd_ne (ne_of_none upd_same hg)) upd_same, Y.c, Y.nG, (by show 3 < 1000; decide), ?_⟩⟩
  have pg : gA ≠ p := fun z => by rw [z, upd_same] at hg; cases hg
  have hg' : H' gA = none := by rw [upd_ne pg] at hg; exact hg
  have s4 : ∀ x, x ≠ p → ∀ o, H' x = some o → upd (upd (upd H' p (.ins C dx (putF "tracks" (.ref D) (putF "rest" (.ref rA) (putF "kinds" (.ref kA) []))))) gA (.lst [])) p (.ins C dx (putF "departed" (.ref gA) (putF "tracks" (.ref D) (putF "rest" (.ref rA) (putF "kinds" (.ref kA) []))))) x = some o := fun x h1 o h => by
    rw [upd_ne h1, upd_ne (ne_of_none h hg'), upd_ne h1]
    exact h
  have all : ∀ x, x ≠ p → ∀ o, H x = some o → H2 x = some o := fun x h1 o h => s2 x h1 o (s1 x h1 o h)
  have fr : ∀ x, H2 x = none → x ≠ p ∧ H x = none := bk H H2 all (by rw [h2p]; simp)
  have fk : F' kA = none := e.back hk
  have frA : F' rA = none := e.back (bk H H1 s1 (by rw [h1p]; simp) rA hr).2
  have hrA : H rA = none := (bk H H1 s1 (by rw [h1p]; simp) rA hr).2
  have nkr : kA ≠ rA := ne_of_none h1k hr
  have x1 : Ex F' (upd (upd F' kA (.lst va)) rA (.lst vb)) := (Ex.new fk).trans (Ex.new (by rw [upd_ne nkr.symm]; exact frA))
  have own : ∀ x, H2 x = none → upd (upd F' kA (.lst va)) rA (.lst vb) x = none ∧ (x = p ∨ H x = none) := fun x hx => by
    refine ⟨?_, .inr (fr x hx).2⟩
    rw [upd_ne (fun z => by rw [z, h2r] at hx; cases hx), upd_ne (fun z => by rw [z, h2k] at hx; cases hx)]
    exact e.back (fr x hx).2
  have h2g : H2 gA = none := e3.back hg'
  have hDp := (fr D hD).1
  refine k (upd (upd F' kA (.lst va)) rA (.lst vb)) _ (p :: D :: gA :: as) x1 (fun x o hx => ?_) (fun x h1 h2 => ?_) (fun x h1 o h => ?_) (fun x hx => ?_) ?_
    (.mk upd_same (Eq.trans (upd_ne nkr) upd_same) (ra.up x1) upd_same (rb.up x1) (s4 D hDp _ hD') ?_ (Eq.trans (upd_ne pg) upd_same) .nil)
  · by_cases q1 : x = rA
    · subst q1
      rw [upd_same] at hx
      rw [← hx]
      exact s4 x pr _ (e3 _ _ h2r)
    rw [upd_ne q1] at hx
    by_cases q2 : x = kA
    · subst q2
      rw [upd_same] at hx
      rw [← hx]
      exact s4 x pk _ (e3 _ _ h2k)
    rw [upd_ne q2] at hx
    have xp : x ≠ p := fun z => by rw [z, fp] at hx; cases hx
    exact s4 x xp _ (e3 _ _ (all x xp _ (e _ _ hx)))
  · by_cases q1 : x = rA
    · exact q1 ▸ hrA
    by_cases q2 : x = kA
    · exact q2 ▸ hk
    rw [upd_ne q1, upd_ne q2] at h2
    exact absurd h1 h2
  · exact s4 x h1 _ (e3 _ _ (all x h1 _ h))
  · rcases List.mem_cons.mp hx with rfl | hx
    · exact ⟨by rw [upd_ne pr.symm, upd_ne pk.symm]; exact fp, .inl rfl⟩
    rcases List.mem_cons.mp hx with rfl | hx
    · exact own _ hD
    rcases List.mem_cons.mp hx with rfl | hx
    · exact own _ h2g
    · exact own _ (has x hx).1
  · simp only [List.nodup_cons, List.mem_cons, not_or]
    refine ⟨⟨hDp.symm, pg.symm, fun z => (fr p (has p z).1).1 rfl⟩, ⟨fun z => ?_, fun z => (has D z).2.1 rfl⟩, fun z => ?_, nd⟩
    · rw [z, hg'] at hD'; cases hD'
    · have := (has gA z).2.2
      rw [hg'] at this
      cases this
  · have e2 : da.map (fun _ => ([] : List DL.D)) = List.replicate as.length [] := by rw [List.map_const', hal, ra.len]
    rw [e2]
    exact ownLs_nil fun x hx => s4 x (fr x (has x hx).1).1 _ (has x hx).2.2
end
end DL

/-! YD F: run; a step of the law's own yard, walked -/
namespace DL
open PySem L2
section
variable {P : Program} {w : World} {K : PySem.W.Frag} {mg : Str → Option Value} {base : Heap} {C : Addr} {cl : Nat → Addr} {cY : Addr}
theorem yd_step (M : Bt mg) {x q : Str} {fa : Addr} {fd : FuncData} (F : Fun K x q y_step fa fd) : FnOk P w K mg base CX0 1 fa fd ["kinds", "rest", "tracks", "behind", "deed"] (spStep K) := by
  have sc : FnScope ["kinds", "rest", "tracks", "behind", "deed", "place"] ["kinds", "rest", "tracks", "behind", "deed"] (defScope y_step) := ⟨rfl, rfl, rfl, by decide +kernel, rfl, by decide +kernel, by decide +kernel⟩
  refine F.ok sc (fun vs H Q E h => ?_) (fun cdv A outer s H vs Q E hr h => ?_)
  · obtain ⟨_, _, _, _, _, _, _, _, _, _, rfl, _⟩ := h
    rfl
  obtain ⟨F', kA, rA, tA, gA, dv, as, st, d, n, rfl, e, g2, g4, g6, g7, g8, hd, hn, ho, hfit, hn', k⟩ := h
  cases hd with
  | @tup dA _ _ d1 d2 =>
  cases d2 with
  | cons d3 d4 =>
  cases d4 with
  | cons d5 d6 =>
  cases d6
  cases d3
  cases d5
  have hdT : SqT K H dA [.str (dirS d.1), .int d.2] := .inl (.inl (e _ _ d1))
  have a0 : L2.atI [V.str (dirS d.1), V.int d.2] 0 = some (.str (dirS d.1)) := atI_nat (Int.le_refl 0) rfl
  have a1 : L2.atI [V.str (dirS d.1), V.int d.2] 1 = some (.int d.2) := atI_nat (by decide) rfl
  have fin : ∀ (s' : PY) (x : Str) (H' : Hp), stepS st d = (s', x) → (∀ a, a ∉ rA :: tA :: gA :: as → ∀ o, H a = some o → H' a = some o) → H' rA = some (.lst (s'.rest.map V.int)) → H' tA = some (.lst (as.map V.ref)) → OwnLs K F' H' as s'.ys → H' gA = some (.lst (s'.go.map V.int)) → Q (.str x) H' := fun s' x H' h h1 h2 h3 h4 h5 => by
    have kk := k H'
    rw [h] at kk
    exact kk h1 h2 h3 h4 h5
  have same : ∀ x, stepS st d = (st, x) → Q (.str x) H := fun x h => fin st x H h (fun _ _ _ h => h) g4 g6 g7 g8
  refine ⟨_, pss_cons (ps_if (PW.pt (pw_or (pt_cmpR op_lt (pe_ix ix_seq (pv 4) pe_int (fun _ _ => rfl)) pe_int (nomark _)) (pw_or1 (pt_cmpR op_ge (pe_ix ix_seq (pv 4) pe_int (fun _ _ => rfl)) (pe_callB call_len_seq (by rfl) M.len PySem.boot_len (pa_cons (pv 0) pa_nil)) (nomark _))))) (pss_one (ps_ret pe_str)) pss_nil)
    (pss_cons (ps_if (pt_cmpR op_eq (pe_ix ix_seq (pv 4) pe_int (fun _ _ => rfl)) pe_str (nomark _))
      (pss_cons (ps_if (pt_cmpR op_eq (pe_callB call_len_seq (by rfl) M.len PySem.boot_len (pa_cons (pv 1) pa_nil)) pe_int (nomark _)) (pss_one (ps_ret pe_str)) pss_nil)
      (pss_cons (ps_expr (pe_bm PySem.F.plainAttrs_list PySem.F.slot_list_append PySem.F.type_list_append mt_append (pe_ix ix_seq (pv 2) (pe_ix ix_seq (pv 4) pe_int (fun _ _ => rfl)) (fun _ _ => rfl)) (pa_cons (pe_bm PySem.F.plainAttrs_list PySem.F.slot_list_pop PySem.F.type_list_pop mt_popAt (pv 1) (pa_cons pe_int pa_nil)) pa_nil)))
      (pss_one (ps_ret pe_str)))) pss_nil)
    (pss_cons (ps_if (pt_cmpR op_eq (pe_callB call_len_seq (by rfl) M.len PySem.boot_len (pa_cons (pe_ix ix_seq (pv 2) (pe_ix ix_seq (pv 4) pe_int (fun _ _ => rfl)) (fun _ _ => rfl)) pa_nil)) pe_int (nomark _)) (pss_one (ps_ret pe_str)) pss_nil)
    (pss_cons (ps_set (i := 5) sc.nd rfl (Or.inl rfl) pe_int)
    (pss_cons (ps_if (pt_cmpR op_eq (pe_ix ix_seq (pv 0) (pe_ix ix_seq (pv 4) pe_int (fun _ _ => rfl)) (fun _ _ => rfl)) pe_str (nomark _))
      (pss_one (ps_set (i := 5) sc.nd rfl (Or.inl rfl) (pe_op op_sub (pe_callB call_len_seq (by rfl) M.len PySem.boot_len (pa_cons (pe_ix ix_seq (pv 2) (pe_ix ix_seq (pv 4) pe_int (fun _ _ => rfl)) (fun _ _ => rfl)) pa_nil)) pe_int))) pss_nil)
    (pss_cons (ps_expr (pe_bm PySem.F.plainAttrs_list PySem.F.slot_list_append PySem.F.type_list_append mt_append (pv 3) (pa_cons (pe_bm PySem.F.plainAttrs_list PySem.F.slot_list_pop PySem.F.type_list_pop mt_popAt (pe_ix ix_seq (pv 2) (pe_ix ix_seq (pv 4) pe_int (fun _ _ => rfl)) (fun _ _ => rfl)) (pa_cons (pv 5) pa_nil)) pa_nil)))
    (pss_one (ps_ret pe_str))))))), ?_⟩
  have hfl := hfit.1
  refine ⟨_, rfl, .inr (.inl ⟨dA, _, 1, .int d.2, rfl, rfl, hdT, a1, _, _, rfl, rfl, _, rfl, ?_⟩)⟩
  refine ite2 (fun h => ?_) (fun h => ?_)
  · have h' : d.2 < 0 := of_decide_eq_true h
    exact same "track" (stepS_no fun z => absurd z.1 (by omega))
  have h0 : ¬ d.2 < 0 := fun z => h (decide_eq_true z)
  refine ⟨_, rfl, .inr (.inl ⟨dA, _, 1, .int d.2, rfl, rfl, hdT, a1, _, rfl, kA, _, rfl, .inl (SqL.of (e _ _ g2)), _, _, rfl, rfl, _, rfl, ?_⟩)⟩
  rw [List.length_map]
  refine ite2 (fun h2 => ?_) (fun h2 => ?_)
  · have h2' : (st.kk.length : Int) ≤ d.2 := of_decide_eq_true h2
    exact same "track" (stepS_no fun z => absurd z.2 (by omega))
  have h3 : ¬ (st.kk.length : Int) ≤ d.2 := fun z => h2 (decide_eq_true z)
  have hin' : st.has d.2 := ⟨by omega, by omega⟩
  simp only [List.nodup_cons, List.mem_cons, not_or] at hn
  obtain ⟨⟨nrt, nrg, nra⟩, ⟨ntg, nta⟩, nga, nas⟩ := hn
  obtain ⟨b, b1, b2, b3, b4⟩ := trk hin' g7 nas
  have nrb : rA ≠ b := fun z => nra (z ▸ b2)
  have ngb : gA ≠ b := fun z => nga (z ▸ b2)
  have ntb : tA ≠ b := fun z => nta (z ▸ b2)
  refine ⟨_, rfl, .inr (.inl ⟨dA, _, 0, _, rfl, rfl, hdT, a0, rfl, _, rfl, ?_⟩)⟩
  have hdir : (decide (V.str (dirS d.1) = V.str "in") = true) ↔ d.1 = true := by
    rw [decide_eq_true_iff]
    cases d.1 <;> decide
  refine ite2 (fun hz => ?_) (fun hz => ?_)
  · have hb : d.1 = true := hdir.mp hz
    refine ⟨_, rfl, rA, _, rfl, .inl (SqL.of g4), rfl, _, rfl, ?_⟩
    refine ite2 (fun hz => ?_) (fun hz => ?_)
    · have hz' : st.rest = [] := by simpa using hz
      exact same "waiting" (stepS_wait hin' hb hz')
    obtain ⟨w0, rest, hrest⟩ : ∃ w0 rest, st.rest = w0 :: rest := by
      cases q : st.rest with
      | nil => exact absurd (by rw [q]; rfl) hz
      | cons w0 rest => exact ⟨w0, rest, rfl⟩
    rw [hrest] at g4
    refine ⟨_, rfl, _, rfl, .inr (.inl ⟨dA, _, 1, .int d.2, rfl, rfl, hdT, a1, .inl ⟨tA, _, d.2, _, rfl, rfl, SqL.of g6, b1, st_slot b3, _, rfl, st_slot g4, rA, _, 0, 0, .int w0, rfl, rfl, g4, by decide, by decide, (by first | (simp [seqIndex?]; done) | (simp [seqIndex?]; omega)), rfl, ?_⟩⟩)⟩
    refine ⟨b, _, .int w0, rfl, rfl, Eq.trans (upd_ne nrb.symm) b3, by rw [List.length_map]; exact sz_lt (Nat.lt_of_le_of_lt (PY.at_len hin' hfit) hn'), ?_⟩
    have out : ∀ a, a ≠ rA → a ≠ b → ∀ o, H a = some o → upd (upd H rA (.lst (((w0 :: rest).map V.int).eraseIdx 0))) b (.lst ((st.at d.2).map V.int ++ [.int w0])) a = some o := fun a h1 h2 o ho => by
      rw [upd_ne h2, upd_ne h1]
      exact ho
    have own := b4 (st.at d.2 ++ [w0])
    rw [List.map_append] at own
    refine fin _ "done" _ (stepS_in hin' hb hrest) (fun a ha o h => out a (fun q => ha (by simp [q])) (fun q => ha (by simp [q, b2])) o h) (Eq.trans (upd_ne nrb) upd_same) (out tA (Ne.symm nrt) ntb _ g6) (own.keep (Ex.refl F') fun a ha o h => ?_) (out gA (Ne.symm nrg) ngb _ g8)
    by_cases z : a = b
    · subst z
      rw [upd_same] at h ⊢
      exact h
    · rw [upd_ne z] at h
      exact out a (fun q => nra (q ▸ ha)) z o h
  have hb : ¬ d.1 = true := fun z => hz (hdir.mpr z)
  refine ⟨_, rfl, _, rfl, .inr (.inl ⟨dA, _, 1, .int d.2, rfl, rfl, hdT, a1, .inl ⟨tA, _, d.2, _, rfl, rfl, SqL.of g6, b1, b, _, rfl, .inl (SqL.of b3), rfl, _, rfl, ?_⟩⟩)⟩
  refine ite2 (fun hz => ?_) (fun hz => ?_)
  · have hz' : st.at d.2 = [] := by simpa using hz
    exact same "empty" (stepS_empty hin' hb hz')
  have hne : st.at d.2 ≠ [] := fun z => hz (by rw [z]; rfl)
  have hlen : (st.at d.2).length ≤ n := PY.at_len hin' hfit
  have hpos : 0 < (st.at d.2).length := List.length_pos_iff.mpr hne
  have hkl : d.2.toNat < st.kk.length := by have := hin'.1; have := hin'.2; omega
  have hkat : L2.atI (st.kk.map V.str) d.2 = some (V.str (st.kk.getD d.2.toNat "")) := atI_map hin'.1 (by rw [List.getD_eq_getElem?_getD, List.getElem?_eq_getElem hkl]; rfl)
  have hplt : st.place d.2 < (st.at d.2).length := by unfold PY.place; split <;> omega
  have com : ∀ i : Int, i = (st.place d.2 : Int) → seqIndex? i ((st.at d.2).map V.int).length = some (st.place d.2) ∧ -(2 ^ 63) ≤ i ∧ i < 2 ^ 63 := fun i hi => by
    subst hi
    refine ⟨?_, by omega, by omega⟩
    have z1 : ¬ ((st.place d.2 : Nat) : Int) < 0 := by omega
    have z2 : st.place d.2 < ((st.at d.2).map V.int).length := by rw [List.length_map]; exact hplt
    simp [seqIndex?, z1]
    omega
  refine ⟨_, rfl, _, rfl, .inr (.inl ⟨dA, _, 1, .int d.2, rfl, rfl, hdT, a1, .inl ⟨kA, _, d.2, _, rfl, rfl, SqL.of (e _ _ g2), hkat, rfl, _, rfl, ?_⟩⟩)⟩
  refine ite2 (fun hz => ?g1) (fun hz => ?g2)
  case' g1 =>
    have hp : st.place d.2 = (st.at d.2).length - 1 := by unfold PY.place; rw [if_pos (V.str.inj (of_decide_eq_true hz))]
    refine ⟨_, rfl, _, rfl, .inr (.inl ⟨dA, _, 1, .int d.2, rfl, rfl, hdT, a1, .inl ⟨tA, _, d.2, _, rfl, rfl, SqL.of g6, b1, b, _, rfl, .inl (SqL.of b3), _, _, rfl, rfl, ?_⟩⟩)⟩
    have hx := com ((((st.at d.2).map V.int).length : Int) - 1) (by rw [List.length_map, hp]; omega)
  case' g2 =>
    have hp : st.place d.2 = 0 := by unfold PY.place; rw [if_neg fun z => hz (by rw [z]; exact decide_eq_true rfl)]
    have hx := com 0 (by rw [hp]; rfl)
  all_goals
    obtain ⟨x2, x3, x4⟩ := hx
    refine ⟨_, rfl, st_slot g8, _, rfl, _, rfl, .inr (.inl ⟨dA, _, 1, .int d.2, rfl, rfl, hdT, a1, .inl ⟨tA, _, d.2, _, rfl, rfl, SqL.of g6, b1, st_slot b3, _, rfl, b, _, _, _, .int ((st.at d.2).getD (st.place d.2) 0), rfl, rfl, b3, x3, x4, x2, (by rw [List.getElem?_map, List.getD_eq_getElem?_getD, List.getElem?_eq_getElem hplt]; rfl), ?_⟩⟩)⟩
    have ee : ((st.at d.2).map V.int).eraseIdx (st.place d.2) = ((st.at d.2).eraseIdx (st.place d.2)).map V.int := map_eraseIdx' ..
    rw [ee]
    refine ⟨gA, _, _, rfl, rfl, Eq.trans (upd_ne ngb) g8, by rw [List.length_map]; exact sz_lt (Nat.lt_of_le_of_lt hfit.2.2.2 hn'), ?_⟩
    have out : ∀ a, a ≠ gA → a ≠ b → ∀ o, H a = some o → upd (upd H b (.lst (((st.at d.2).eraseIdx (st.place d.2)).map V.int))) gA (.lst (st.go.map V.int ++ [.int ((st.at d.2).getD (st.place d.2) 0)])) a = some o := fun a h1 h2 o ho => by
      rw [upd_ne h1, upd_ne h2]
      exact ho
    have own := b4 ((st.at d.2).eraseIdx (st.place d.2))
    refine fin _ "done" _ (stepS_out hin' hb hne) (fun a ha o h => out a (fun q => ha (by simp [q])) (fun q => ha (by simp [q, b2])) o h) (out rA nrg nrb _ g4) (out tA ntg ntb _ g6) (own.keep (Ex.refl F') fun a ha o h => ?_) (by rw [upd_same]; show some (HO.lst _) = some (HO.lst ((st.go ++ [_]).map V.int)); rw [List.map_append]; rfl)
    rw [upd_ne (show a ≠ gA from fun q => nga (q ▸ ha))]
    exact h
end
end DL

/-! YD G: waiting, standing -/
namespace DL
open PySem L2
section
variable {P : Program} {w : World} {K : PySem.W.Frag} {mg : Str → Option Value} {base : Heap} {C : Addr} {cl : Nat → Addr} {cY : Addr}
theorem sc_waiting : FnScope ["self"] ["self"] (defScope y_waiting) := ⟨rfl, rfl, rfl, by decide +kernel, rfl, by decide +kernel, by decide +kernel⟩
theorem ok_waiting (M : Bt mg) (Y : YTab K mg C) {fa : Addr} {fd : FuncData} (F : Fun K "waiting" "Yard.waiting" y_waiting fa fd) : FnOk P w K mg base (L2.CX P w) 1 fa fd ["self"] (liftL K C cl sp_waiting) := by
  refine F.okX sc_waiting (fun vs H Q E h => ?_) (fun cdv A outer s H vs Q E hr h => ?_)
  · obtain ⟨_, _, _, _, us, _, _, _, _, rfl, hv, _, _, ⟨rfl, _⟩, _⟩ := h
    cases hv
    rfl
  obtain ⟨F', p, y, os, us, ds, Q0, X0, e, rfl, hv, hy, _, ⟨rfl, hq⟩, k, kx⟩ := h
  cases hv
  cases hy with
  | @mk _ dx kA rA tA gA kv rv gv as ks rest go tr g1 g2 g3 g4 g5 g6 g7 g8 g9 =>
  refine ⟨_, pss_one (ps_ret (pe_callTy call_list_of (by rfl) M.list (by decide +kernel) (pa_cons (pe_fld (pv 0) rfl) pa_nil) (by decide) (by decide))), ?_⟩
  exact ⟨_, rfl, p, C, dx, _, _, rfl, g1, Y.c, Y.nR, yf_r .., rA, rv, rfl, .inl (SqL.of (e _ _ g4)), fun l hl => k l rv rest _ hq (Ex.new hl) hl upd_same g5⟩
theorem sc_standing : FnScope ["self", "track"] ["self", "track"] (defScope y_standing) := ⟨rfl, rfl, rfl, by decide +kernel, rfl, by decide +kernel, by decide +kernel⟩
theorem ok_standing (M : Bt mg) (Y : YTab K mg C) {fl : Addr} {fdl : FuncData} (GL : FnOk P w K mg base (L2.CX P w) 1 fl fdl ["self", "track"] (spLook K C cl)) (mL : Meth K C "look" fl) (bL : Binds K fdl ["self", "track"] [])
    {fa : Addr} {fd : FuncData} (F : Fun K "standing" "Yard.standing" y_standing fa fd) : FnOk P w K mg base (L2.CX P w) 2 fa fd ["self", "track"] (liftL K C cl sp_standing) := by
  refine F.okX sc_standing (fun vs H Q E h => ?_) (fun cdv A outer s H vs Q E hr h => ?_)
  · obtain ⟨_, _, _, _, us, _, _, _, _, rfl, hv, _, _, ⟨_, _, _, rfl, _⟩, _⟩ := h
    cases hv with
    | cons _ h => cases h; rfl
  obtain ⟨F', p, y, os, us, ds, Q0, X0, e, rfl, hv, hy, hn, ⟨st, t, rfl, rfl, hq, hx⟩, k, kx⟩ := h
  cases hv with
  | cons h1 h2 =>
  cases h2
  cases h1
  have hy' := hy
  cases hy with
  | @mk _ dx kA rA tA gA kv rv gv as _ _ _ _ g1 g2 g3 g4 g5 g6 g7 g8 g9 =>
  refine ⟨_, pss_cons (ps_expr (pe_meth (pv 0) Y.c mL GL (hr.mono (by decide)) bL .nil (fun pins σ H s e s' I c => passE (takes_of rfl rfl rfl rfl) σ pins H s e s' I c) (pa_cons (pv 1) pa_nil)))
    (pss_one (ps_ret (pe_callTy call_list_of (by rfl) M.list (by decide +kernel) (pa_cons (pe_ix ix_seq (pe_fld (pv 0) rfl) (pv 1) (fun _ _ => rfl)) pa_nil) (by decide) (by decide)))), ?_⟩
  refine ⟨_, rfl, p, dx, _, rfl, g1, yf_look .., _, rfl, F', p, _, _, t, rfl, hy', fun hin => ?_, fun hout => ?_⟩
  case refine_2 => exact kx 0 H (hx fun z => hout (PY.has_y.mp z)) (Ex.refl H)
  have hin' : st.has t := PY.has_y.mpr hin
  simp only [List.nodup_cons, List.mem_cons, not_or] at hn
  obtain ⟨_, _, _, nas⟩ := hn
  obtain ⟨b, b1, b2, b3, b4⟩ := trk hin' g7 nas
  exact ⟨_, rfl, p, C, dx, _, _, rfl, g1, Y.c, Y.nT, yf_t .., _, rfl, .inl ⟨tA, _, t, _, rfl, rfl, SqL.of g6, b1, b, _, rfl, .inl (SqL.of b3), fun l hl => k l _ _ _ (hq hin') (Ex.new hl) hl upd_same (RepL.ints _)⟩⟩
end
end DL

/-! YD I: the law's helpers, walked -/
namespace DL
open PySem L2
section
variable {P : Program} {w : World} {K : PySem.W.Frag} {mg : Str → Option Value} {base : Heap} {C : Addr} {cl : Nat → Addr} {cY : Addr}
theorem yd_seen (M : Bt mg) (Hw : Has P w K mg base 2 "_law_wagons" ["found"] sp_law_wagons) {x q : Str} {fa : Addr} {fd : FuncData} (F : Fun K x q y_seen fa fd) : FnOk P w K mg base CX0 3 fa fd ["found", "due"] spSeen := by
  have sc : FnScope ["found", "due"] ["found", "due"] (defScope y_seen) := ⟨rfl, rfl, rfl, by decide +kernel, rfl, by decide +kernel, by decide +kernel⟩
  obtain ⟨a_w, fd_w, G_w, m_w, k_w, b_w⟩ := Hw
  refine F.ok sc (fun vs H Q E h => ?_) (fun cdv A outer s H vs Q E hr h => ?_)
  · obtain ⟨_, _, _, rfl, _⟩ := h
    rfl
  obtain ⟨q, a, ns, rfl, nqa, hq, ha, hl, k⟩ := h
  have hu := hu_of hr
  have TERM : ∃ t, QSs (cxOf CX0 P w K mg base ["found", "due"] _ (defScope y_seen) fa cdv A outer s H E).nox (defBody y_seen) t d_seen := ⟨_, (qss_cons (qs_if (QW.qt (qw_or (qt_not (qt_val (qe_call G_w (hr.mono (by decide)) m_w k_w b_w (qa_cons (qv 0) qa_nil)))) (qw_or1 (qt_neD hr.units (qv 0) (qv 1))))) (qss_one (qs_ret qe_bl)) qss_nil)
    (qss_cons (qs_app qe_int (qv 0)) (qss_one (qs_ret qe_bl))))⟩
  obtain ⟨t, ht⟩ := TERM
  refine ⟨t, ht.ps, ?_⟩
  have fa : (fun x => if x = q then none else H x) a = some (HO.lst (ns.map V.int)) := by
    show (if a = q then none else H a) = _
    rw [if_neg (Ne.symm nqa)]
    exact ha
  have fq : (fun x => if x = q then none else H x) q = none := by
    show (if q = q then none else H q) = _
    rw [if_pos rfl]
  have fH : Ex (fun x => if x = q then none else H x) H := fun x o h => by
    have h : (if x = q then none else H x) = some o := h
    by_cases z : x = q
    · rw [if_pos z] at h; cases h
    · rw [if_neg z] at h; exact h
  refine ht.ss (fun x => if x = q then none else H x) (fun x => if x = q then none else H x) (fun x => if x = q then none else H x) H [.l1 (ns.map D.int), .fz (.lst (ns.map D.int))] _ (dEnds fun d => d = .bl true) _
    ⟨⟨[q] ++ ([] ++ []), .cons (.l1 hq (RepL.ints ns)) (.cons (.fz (.lst fa (RepL.ints ns))) .nil), by simp, fun x hx => ?_⟩, Ex.refl _, fH, fH, fun a e n => (n e).elim⟩ (th_seen hl rfl) ⟨?_, ?_, ?_, ?_⟩
  · have : x = q := by simpa using hx
    subst this
    exact ⟨fq, fq⟩
  · intro _ _ _ _ _ z
    cases z
  · intro F2 H2 v d e1 e2 e3 e4 hr z
    subst z
    cases hr
    refine k H2 fun x hx o h => e3 x o ?_
    show (if x = q then none else H x) = some o
    rw [if_neg hx]
    exact h
  · intro _ _ _ _ _ z; exact z.elim
  · intro _ _ _ _ _ z; exact z.elim
theorem yd_refused (T : ErrTab K mg cl cY) (M : Bt mg) (Y : YTab K mg C) {fs : Addr} {fds : FuncData} (GS : FnOk P w K mg base (L2.CX P w) 2 fs fds ["self", "track"] (liftL K C cl sp_standing)) (mS : Meth K C "standing" fs) (bS : Binds K fds ["self", "track"] [])
    {x q : Str} {fa : Addr} {fd : FuncData} (F : Fun K x q y_refused fa fd) : FnOk P w K mg base CX0 3 fa fd ["yard", "track"] (spRef K C) := by
  have sc : FnScope ["yard", "track", "refused"] ["yard", "track"] (defScope y_refused) := ⟨rfl, rfl, rfl, by decide +kernel, rfl, by decide +kernel, by decide +kernel⟩
  refine F.ok sc (fun vs H Q E h => ?_) (fun cdv A outer s H vs Q E hr h => ?_)
  · obtain ⟨_, _, _, _, _, rfl, _⟩ := h
    rfl
  obtain ⟨F', p, os, st, t, rfl, e, hy, hn, hno, k⟩ := h
  obtain ⟨dx, kA, rA, tA, gA, g1⟩ := hy.ins
  refine ⟨_, pss_cons (ps_set (i := 2) sc.nd rfl (Or.inl rfl) pe_bl)
    (pss_cons (ps_try_only (c := .ref (cl 0)) (tb := fun W => tDrop (tMethE C "standing" (liftL K C cl sp_standing) (WE W) (tVar 0) (tCons (tVar 1) tNil))) (ts := fun _ _ _ => tAsg (tC (.bl true)) (gName 2)) (Wout := fun _ _ _ _ => False) rfl rfl ⟨rfl, by decide, .inl (T.t 0 (by decide)).gC⟩ takes0
      (fun W pn xe tk _ => pss_one (ps_expr (pe_methE (pv 0) Y.c mS GS (hr.mono (by decide)) bS (fun σ => passAt tk σ) (pa_cons (pv 1) pa_nil)))) (fun a oe cls d pn hz hf => pss_one (ps_set (i := 2) sc.nd rfl (Or.inl rfl) pe_bl)))
    (pss_one (ps_ret (pv 2)))), ?_⟩
  refine ⟨_, rfl, p, dx, _, rfl, g1, yf_standing .., _, rfl, ?_⟩
  refine ⟨F', p, st.y, os, [.int t], [.int t], fun _ => False, fun c => c = 0, e, rfl, .one (.int _), hy, hn, ⟨st, t, rfl, rfl, fun z => hno z, fun _ => rfl⟩, fun q ws es H' z => z.elim, fun c H' z e2 => ?_⟩
  subst z
  refine ⟨true, T.exmC (by decide) (by decide), fun _ a ha => ?_, fun z => Bool.noConfusion z⟩
  exact ⟨_, rfl, k H' e2⟩
end
end DL

/-! YD K: _law_told, walked -/
namespace DL
open PySem L2
section
variable {P : Program} {w : World} {K : PySem.W.Frag} {mg : Str → Option Value} {base : Heap} {C : Addr} {cl : Nat → Addr} {cY : Addr}
theorem told_rel {F H : Hp} {d : Deed} {dv : V} {m : Addr} {v0 : Option V} (h : Ex F H) (hd : Rep K F dv (deedD d)) (hm : F m = some (.lst [])) :
    Rel K H F F H [.un, .fz (deedD d), .fz .non, .fz (.lst []), .un, .un, .un] [v0, some dv, some .non, some (.ref m), none, none, none] :=
  ⟨⟨[], .cons (o := []) (os := []) (.un _) (.cons (o := []) (os := []) (.fz hd) (.cons (o := []) (os := []) (.fz .non) (.cons (o := []) (os := []) (.fz (.lst hm .nil)) (.cons (o := []) (os := []) (.un _) (.cons (o := []) (os := []) (.un _) (.cons (o := []) (os := []) (.un _) .nil)))))),
    List.nodup_nil, fun a ha => by cases ha⟩, Ex.refl F, h, Ex.refl H, fun a e n => (n e).elim⟩
theorem yd_told (T : ErrTab K mg cl cY) (M : Bt mg) (Y : YTab K mg C) {fE fL : Addr} {dE dL : FuncData}
    (GE : FnOk P w K mg base (L2.CX P w) 2 fE dE ["self", "track"] (liftM K C cl sp_enter)) (mE : Meth K C "enter" fE) (bE : Binds K dE ["self", "track"] [])
    (GL : FnOk P w K mg base (L2.CX P w) 2 fL dL ["self", "track"] (liftM K C cl sp_leave)) (mL : Meth K C "leave" fL) (bL : Binds K dL ["self", "track"] [])
    {x q : Str} {fa : Addr} {fd : FuncData} (F : Fun K x q y_told fa fd) : FnOk P w K mg base CX0 3 fa fd ["yard", "deed"] (spTold K C) := by
  have sc : FnScope ["yard", "deed", "found", "marks", "e", "names", "k"] ["yard", "deed"] (defScope y_told) := ⟨rfl, rfl, rfl, by decide +kernel, rfl, by decide +kernel, by decide +kernel⟩
  refine F.ok sc (fun vs H Q E h => ?_) (fun cdv A outer s H vs Q E hr h => ?_)
  · obtain ⟨_, _, _, _, _, _, _, rfl, _⟩ := h
    rfl
  obtain ⟨F', p, dv, os, st, d, n, rfl, e, hd, hy, hn, ho, hfit, hn', k⟩ := h
  have REST : ∃ t, QSs (cxOf CX0 P w K mg base ["yard", "deed", "found", "marks", "e", "names", "k"] q (defScope y_told) fa cdv A outer s H E).nox ((defBody y_told).drop 3) t d_told_rest := ⟨_, (qss_cons (qs_if (QW.qt (qw_and (qt_eqD hr.units (qv 3) (qe_ofL (ql_lst qa_nil))) (qw_and1 (qt_isN (qv 2) qe_non)))) (qss_one (qs_ret qe_str)) qss_nil)
    (qss_cons (qs_set (i := 5) sc.nd rfl (by first | exact Or.inl rfl | exact Or.inr rfl) (qe_ofL (ql_lst (qa_cons qe_str (qa_cons qe_str (qa_cons qe_str qa_nil))))))
    (qss_cons (qs_forR1 (j := 6) PassesOwn.never rfl sc.nd rfl (by first | exact Or.inl rfl | exact Or.inr rfl) M.range (qa_cons qe_int qa_nil) (qss_one (qs_if (qt_eqD hr.units (qv 3) (qe_ofL (ql_lst (qa_cons (qe_eq (qv 6) qe_int) (qa_cons (qe_eq (qv 6) qe_int) (qa_cons (qe_eq (qv 6) qe_int) (qa_cons qe_bl (qa_cons qe_bl qa_nil)))))))) (qss_one (qs_ret (qe_ix (qi_v 5) (qv 6) (fun _ _ => rfl)))) qss_nil)))
    (qss_one (qs_ret qe_str)))))⟩
  obtain ⟨tr, hrest⟩ := REST
  refine ⟨_, pss_cons (ps_set (i := 2) sc.nd rfl (Or.inl rfl) pe_non)
    (pss_cons (ps_set (i := 3) sc.nd rfl (Or.inl rfl) (pe_lst pa_nil))
    (pss_cons (ps_try_as (i := 4) (c := .ref cY) (tb := fun W => tAsg (tToldE K C cl W 0 1) (gName 2)) (ts := tSuite 3 (i34 K cl 4)) (Wout := fun _ _ _ _ => False) rfl rfl sc.nd rfl rfl ⟨rfl, by decide, .inl T.gY⟩ takes0
      (fun W pn xe tk _ => pss_one (ps_set (i := 2) sc.nd rfl (Or.inl rfl) (pe_ifExp (pt_cmpR op_eq (pe_ix ix_seq (pv 1) pe_int (fun _ _ => rfl)) pe_str (nomark _))
        (pe_methE (pv 0) Y.c mE GE (hr.mono (by decide)) bE (fun σ => passAt tk σ) (pa_cons (pe_ix ix_seq (pv 1) pe_int (fun _ _ => rfl)) pa_nil))
        (pe_methE (pv 0) Y.c mL GL (hr.mono (by decide)) bL (fun σ => passAt tk σ) (pa_cons (pe_ix ix_seq (pv 1) pe_int (fun _ _ => rfl)) pa_nil)))))
      (fun a oe cls d pn hz hf => pss_cons (ps_set (i := 3) sc.nd rfl (Or.inl rfl) (by exact (pe_lst (pa_cons (pe_isC (n := 4) (j := 0) T hz hf (by decide) M.isinstance) (pa_cons (pe_isC (n := 4) (j := 1) T hz hf (by decide) M.isinstance) (pa_cons (pe_isC (n := 4) (j := 2) T hz hf (by decide) M.isinstance) pa_nil)))))) (pss_one (ps_set (i := 3) sc.nd rfl (Or.inl rfl) (by exact (pe_op op_cat (qv (b := false) 3).pe (pe_lst (pa_cons (pe_isC (n := 4) (j := 3) T hz hf (by decide) M.isinstance) (pa_cons (pe_not (pe_isV (n := 4) T hz hf M.isinstance)) pa_nil)))))))))
    hrest.ps)), ?_⟩
  refine ⟨Nat.zero_le _, fun m hm => ?_⟩
  have fm : F' m = none := e.back hm
  have x1 : Ex F' (upd F' m (.lst [])) := Ex.new fm
  have h1 : Ex H (upd H m (.lst [])) := Ex.new hm
  have fh1 := (Stp.cell (o := .lst []) e hm).fh
  have hy1 := hy.keep x1 (fun a _ x e => h1 _ _ e)
  have mos : ∀ a ∈ os, a ≠ m := fun a ha z => hy.dom ha (z ▸ hm)
  have ho1 : ∀ a ∈ os, upd F' m (.lst []) a = none := fun a ha => by rw [upd_ne (mos a ha)]; exact ho a ha
  have f1m : upd F' m (.lst []) m = some (.lst []) := upd_same
  have nw1 : ∀ a, F' a = none → upd F' m (.lst []) a ≠ none → H a = none := fun a h2 h3 => by
    by_cases z : a = m
    · exact z ▸ hm
    · rw [upd_ne z] at h3; exact absurd h2 h3
  generalize upd F' m (.lst []) = F1 at x1 fh1 hy1 ho1 f1m nw1
  generalize upd H m (.lst []) = H1 at h1 fh1 hy1 ⊢
  have hd0 := hd
  have r1 : Rel K H1 F1 F1 H1 [.un, .fz (deedD d), .fz .non, .fz (.lst []), .un, .un, .un] [some (.ref p), some dv, some .non, some (.ref m), none, none, none] := told_rel fh1 (hd0.up x1) f1m
  cases hd with
  | @tup dA _ _ d1 d2 =>
  cases d2 with
  | cons d3 d4 =>
  cases d4 with
  | cons d5 d6 =>
  cases d6
  cases d3
  cases d5
  have hdT : SqT K H1 dA [.str (dirS d.1), .int d.2] := .inl (.inl (fh1 _ _ (x1 _ _ d1)))
  have a0 : L2.atI [V.str (dirS d.1), V.int d.2] 0 = some (.str (dirS d.1)) := atI_nat (Int.le_refl 0) rfl
  have a1 : L2.atI [V.str (dirS d.1), V.int d.2] 1 = some (.int d.2) := atI_nat (by decide) rfl
  have hdir : (decide (V.str (dirS d.1) = V.str "in") = true) ↔ d.1 = true := by
    rw [decide_eq_true_iff]
    cases d.1 <;> decide
  obtain ⟨dx, kA, rA, tA, gA, g1⟩ := hy1.ins
  have succ : ∀ y' F3 H3, (∃ s', y' = s'.y ∧ st.step d = .ok s') → Ex F1 F3 → Ex F3 H3 → (∀ a, F1 a = none → F3 a ≠ none → H1 a = none) → (∀ a, a ∉ os → ∀ o, H1 a = some o → H3 a = some o) → YOk K F3 H3 C y' p os →
      tr { nx := fun _ H' => Q .non H', rt := Q } [some (.ref p), some (.ref dA), some .non, some (.ref m), none, none, none] H3 := fun y' F3 H3 hs e3 f3 nw kp hY => by
    obtain ⟨s', rfl, hs⟩ := hs
    rw [stepS_ok hs] at k
    refine hrest.ss H3 F3 F3 H3 [.un, .fz (deedD d), .fz .non, .fz (.lst []), .un, .un, .un] _ (dEnds fun v => v = .str "done") _ (told_rel f3 (hd0.up (x1.trans e3)) (e3 _ _ f1m)) (th_told_done rfl) ⟨?_, ?_, ?_, ?_⟩
    · intro _ _ _ _ _ z
      cases z
    · intro F4 H4 v dd e1 e2 e4 nw4 hr z
      subst z
      cases hr
      refine k F4 H4 (x1.trans (e3.trans e1)) e2 (fun a z1 z2 => ?_) (fun a ha o h => e4 _ _ (kp a ha o (h1 _ _ h))) (hY.keep e1 fun a _ x h => e4 _ _ h)
      by_cases z3 : F3 a = none
      · have z4 := nw4 a z3 z2
        cases z5 : H a with
        | none => rfl
        | some o =>
          by_cases z6 : a ∈ os
          · exact absurd z4 (hY.dom z6)
          · rw [kp a z6 o (h1 _ _ z5)] at z4
            cases z4
      · by_cases z4 : F1 a = none
        · exact h1.back (nw a z4 z3)
        · exact nw1 a z1 z4
    · intro _ _ _ _ _ z; exact z.elim
    · intro _ _ _ _ _ z; exact z.elim
  have fail : ∀ c H3, st.step d = .error c → Ex H1 H3 → wAs K (.ref cY) 4 (tSuite 3 (i34 K cl 4)) (fun _ _ _ _ => False) { nx := tr { nx := fun _ H' => Q .non H', rt := Q }, rt := Q } (.ref (cl c)) none [some (.ref p), some (.ref dA), some .non, some (.ref m), none, none, none] H3 := fun c H3 hc e5 => by
    have c3 := PY.step_er hc
    have c4 : c < 4 := Nat.lt_succ_of_lt c3
    rw [stepS_er hc] at k
    refine ⟨true, T.exm c4, fun _ a hA => ?_, fun z => Bool.noConfusion z⟩
    obtain ⟨i1, i2, i3, i4, i5⟩ := (marks34 T 4).ev c c4 a
    have r3 := r1.step (Stp.grow r1.fh e5)
    have r4 := r3.putUn 4 (some (.ref a))
    refine marks_run i1 i2 i3 i4 i5 (by decide) (by show 3 < 7; decide) rfl r4 fun F5 H5 σ5 r5 => ?_
    have r6 := r5.putUn 4 none
    refine hrest.ss H1 F1 F5 H5 [.un, .fz (deedD d), .fz .non, .fz (.lst ((mkB c).map D.bl)), .un, .un, .un] _ (dEnds fun v => v = .str (nm c)) _ r6 (th_told_er c3 rfl) ⟨?_, ?_, ?_, ?_⟩
    · intro _ _ _ _ _ z
      cases z
    · intro F6 H6 v dd e1 e2 e4 nw4 hr z
      subst z
      cases hr
      refine k F6 H6 (x1.trans e1) e2 (fun a z1 z2 => ?_) (fun a ha o h => e4 _ _ (h1 _ _ h)) (hy1.keep e1 fun a _ x h => e4 _ _ h)
      by_cases z4 : F1 a = none
      · exact h1.back (nw4 a z4 z2)
      · exact nw1 a z1 z4
    · intro _ _ _ _ _ z; exact z.elim
    · intro _ _ _ _ _ z; exact z.elim
  refine ⟨_, rfl, .inr (.inl ⟨dA, _, 0, _, rfl, rfl, hdT, a0, rfl, _, rfl, ?_⟩)⟩
  refine ite2 (fun hz => ?_) (fun hz => ?_)
  · have es : st.step d = st.inn d.2 := if_pos (hdir.mp hz)
    refine ⟨_, rfl, p, dx, _, rfl, g1, yf_enter .., _, rfl, .inr (.inl ⟨dA, _, 1, .int d.2, rfl, rfl, hdT, a1, ?_⟩)⟩
    refine ⟨F1, p, st.y, os, [.int d.2], [.int d.2], fun y' => ∃ s', y' = s'.y ∧ st.step d = .ok s', fun c => st.step d = .error c, fh1, rfl, .one (.int _), hy1, hn, ho1, ⟨st, d.2, n, rfl, rfl, hfit, hn', ?_⟩, fun y' F3 H3 hs e3 f3 nw kp hY => succ y' F3 H3 hs e3 f3 nw kp hY, fun c H3 hc e => fail c H3 hc e⟩
    rw [es]
    cases st.inn d.2 with
    | ok s' => exact ⟨s', rfl, rfl⟩
    | error c => exact rfl
  · have es : st.step d = st.out d.2 := if_neg fun z => hz (hdir.mpr z)
    refine ⟨_, rfl, p, dx, _, rfl, g1, yf_leave .., _, rfl, .inr (.inl ⟨dA, _, 1, .int d.2, rfl, rfl, hdT, a1, ?_⟩)⟩
    refine ⟨F1, p, st.y, os, [.int d.2], [.int d.2], fun y' => ∃ s', y' = s'.y ∧ st.step d = .ok s', fun c => st.step d = .error c, fh1, rfl, .one (.int _), hy1, hn, ho1, ⟨st, d.2, n, rfl, rfl, hfit, hn', ?_⟩, fun y' F3 H3 hs e3 f3 nw kp hY => succ y' F3 H3 hs e3 f3 nw kp hY, fun c H3 hc e => fail c H3 hc e⟩
    rw [es]
    cases st.out d.2 with
    | ok s' => exact ⟨s', rfl, rfl⟩
    | error c => exact rfl
end
end DL

/-! YD L: rules for the law of a yard, deed by deed -/
namespace DL
open PySem L2
/-! ### a list of two new lists; an item of it -/
def dSet2L (i : Nat) (d1 d2 : DA) : DS := fun P ρ => d1 ρ fun a => d2 ρ fun b => P.nx (put ρ i (.l2 [a, b]))
def dIx2 (i : Nat) (dk : DE) : DA := fun ρ Q => match nth ρ i with
  | .l2 dss => dk ρ fun x => match x with
    | .int k => ∃ n ds, ixN dss.length k = some n ∧ dss[n]? = some ds ∧ Q ds
    | _ => False
  | _ => False
/-- a list that stood before -/
def SD (K : PySem.W.Frag) (te : TE) (dl : DA) : Prop := ∀ (H0 F0 F H F2 H2 : Hp) (ρ : Env) (σ : St) (Q : List D → Prop) (R : VK), Rel K H0 F0 F H ρ σ → Stp F H F2 H2 → dl ρ Q →
  (∀ a vs ds F3 H3, Stp F2 H2 F3 H3 → H a ≠ none → H3 a = some (.lst vs) → RepL K F3 vs ds → Q ds → R (.ref a) H3) → te σ H2 R
structure QD (X : Cx) (e : Expr) (te : TE) (dl : DA) : Prop where
  pe : PE X e te
  sd : SD X.K te dl
def dL1 (i : Nat) : DA := fun ρ Q => match nth ρ i with
  | .l1 ds => Q ds
  | _ => False
section
variable {X : Cx} {pos pos' : Pos} {e f o : Expr} {t1 t2 te to : TE} {d1 d2 : DA} {dk : DE} {b : Bool}
theorem qs_set2L {i : Nat} {x : Str} {pn : Pos} (h1 : QL X e t1 d1) (h2 : QL X f t2 d2) (hN : X.N.Nodup) (hi : X.N[i]? = some x) (hx : Loc X.env.scope x)
    (he : starEach [e, f] X.env = (false, eval e X.env) :: starEach [f] X.env := by rfl) (he2 : starEach [f] X.env = (false, eval f X.env) :: starEach [] X.env := by rfl)
    (hs : swapsWith (.List [e, f] pos) (some (.Name x pn)) pos'.line X.env = pure false := by rfl)
    (hf : X.fn x = true ∨ X.env.scope.names.lookup x = some .local := by first | exact .inl rfl | exact .inr rfl | assumption) :
    QSt X (.Assign [.Name x pn] (.List [e, f] pos) pos') (tAsg (tLst (tCons t1 (tCons t2 tNil))) (gName i)) (dSet2L i d1 d2) :=
  ⟨ps_set hN hi hx (pe_lst (pa_cons h1.pe (pa_cons h2.pe pa_nil he2) he)) hs hf, fun H0 F0 F H ρ σ P E r q g =>
    h1.sl H0 F0 F H ρ σ _ _ r q fun p1 v1 a F2 H2 s a1 a2 a3 a4 q => h2.sl H0 F0 F2 H2 ρ σ _ _ (r.step s) q fun p2 v2 b F3 H3 s3 b1 b2 b3 b4 q => ⟨(by show 2 ≤ sizeLine; decide), fun p hp => by
      have st := (s.trans s3).trans (Stp.grow s3.fh (Ex.new (o := HO.lst [.ref p1, .ref p2]) hp))
      have h13 : H3 p1 = some (.lst v1) := s3.hH _ _ a3
      have n12 : p1 ≠ p2 := ne_of_none a3 b1
      have n1 : p ≠ p1 := fun z => by rw [z, h13] at hp; cases hp
      have n2 : p ≠ p2 := fun z => by rw [z, b3] at hp; cases hp
      have f1 : F3 p1 = none := by
        cases q1 : F3 p1 with
        | none => rfl
        | some o => rw [s3.nw p1 a2 (by rw [q1]; simp)] at a3; cases a3
      refine g.nx F3 _ _ _ (r.setOwn st i (.l2 (as := [p1, p2]) upd_same (.cons (by rw [upd_ne n1.symm]; exact h13) (a4.up s3.fF) (.cons (by rw [upd_ne n2.symm]; exact b3) b4 .nil))) (by simp [n1, n2, n12]) fun z hz => ?_) q
      simp only [List.mem_cons, List.not_mem_nil, or_false] at hz
      rcases hz with rfl | rfl | rfl
      · exact ⟨s3.fh.back hp, (s.trans s3).hH.back hp⟩
      · exact ⟨f1, a1⟩
      · exact ⟨b2, s.hH.back b1⟩⟩⟩
theorem sd_ix2 {i : Nat} {K : PySem.W.Frag} (hi : SE false K to dk) : SD K (tOp (rIx K) (tVar i) to) (dIx2 i dk) := fun H0 F0 F H F2 H2 ρ σ Q R r s q k => by
  unfold dIx2 at q
  split at q
  · rename_i dss hii
    obtain ⟨a, as, e1, e2, e3, kb0, _⟩ := r.l2 hii
    refine ⟨_, e1, hi H0 F0 F2 H2 ρ σ _ _ (r.step s) q fun v d F3 H3 s3 hv hq => ?_⟩
    split at hq
    · cases hv
      obtain ⟨n, ds, hn, hds, hq⟩ := hq
      obtain ⟨b, vs, b1, b2, b3, _⟩ := kb0 n ds hds
      have ss := s.trans s3
      refine .inl ⟨a, _, _, .ref b, rfl, rfl, .inl (.inl (ss.hH _ _ e2)), ?_, k b vs ds F3 H3 s3 (by rw [b2]; simp) (ss.hH _ _ b2) (b3.up ss.fF) hq⟩
      unfold atI
      rw [List.length_map, e3, hn]
      show (as.map V.ref)[n]? = _
      rw [List.getElem?_map, b1]
      rfl
    · exact hq.elim
  · exact q.elim
theorem qd_ix2 {i : Nat} {x : Str} {p1 : Pos} (hi : QE false X o to dk) (hv : PE X (.Name x p1) (tVar i)) (hpx : PlainIx o) {K : PySem.W.Frag} (hK : X.K = K := by rfl) : QD X (.Subscript (.Name x p1) o pos) (tOp (rIx K) (tVar i) to) (dIx2 i dk) := by
  subst hK
  exact ⟨pe_ix ix_seq hv hi.pe hpx, sd_ix2 hi.se⟩
theorem qd_v {i : Nat} {x : Str} {p1 : Pos} (hv : PE X (.Name x p1) (tVar i)) : QD X (.Name x p1) (tVar i) (dL1 i) := ⟨hv, fun H0 F0 F H F2 H2 ρ σ Q R r s q k => by
  unfold dL1 at q
  split at q
  · rename_i ds hi
    obtain ⟨a, vs, e1, e2, e3, _⟩ := r.l1 hi
    exact ⟨_, e1, k a vs ds F2 H2 (Stp.refl s.fh) (by rw [e2]; simp) (s.hH _ _ e2) (e3.up s.fF) q⟩
  · exact q.elim⟩
theorem qx_d (h : QD X e te d1) : QX true X e te d1 := ⟨h.pe, fun H0 F0 F H ρ σ Q R r q k => h.sd H0 F0 F H F H ρ σ Q R r (Stp.refl r.fh) q fun a vs ds F3 H3 s _ h3 hr hq => k a vs ds F3 H3 s h3 hr hq⟩
/-! ### seen -/
def dSeen (d1 d2 : DA) : DE := fun ρ Q => d1 ρ fun a => d2 ρ fun b => ∃ ns : List Int, a = ns.map D.int ∧ b = ns.map D.int ∧ ns.length < 1000000 ∧ Q (.bl true)
theorem qe_seen {k : Nat} {fa : Addr} {fd : FuncData} {ps : List Str} {n : Str} {p : Pos} (G : FnOk X.prog X.w X.K X.mg X.base CX0 k fa fd ps spSeen) (hr : Room k X.A) (hm : X.mg n = some (.ref fa)) (hk : PySem.W.keepIn X.K (.ref fa) = true) (hb : Binds X.K fd ps [])
    (h1 : QL X e t1 d1) (h2 : QD X f t2 d2) (hg : Gl X n := by rfl) (hdb : (n == ("__debug__" : Str)) = false := by decide)
    (he : starEach [e, f] X.env = (false, eval e X.env) :: starEach [f] X.env := by rfl) (he2 : starEach [f] X.env = (false, eval f X.env) :: starEach [] X.env := by rfl) (hpl : (backTo pos (starEach [f] X.env)).any (·.1) = false := by rfl) :
    QE b X (.Call (.Name n p) [e, f] [] pos) (tCall spSeen [] E0 (tCons t1 (tCons t2 tNil))) (dSeen d1 d2) :=
  ⟨pe_call G hr hg hm hk hb .nil pass0 (pa_cons h1.pe (pa_cons h2.pe pa_nil he2) he) hdb he hpl, fun H0 F0 F H ρ σ Q R r q kk =>
    h1.sl H0 F0 F H ρ σ _ _ r q fun p1 v1 a F2 H2 s a1 a2 a3 a4 q => h2.sd H0 F0 F H F2 H2 ρ σ _ _ r s q fun p2 v2 b F3 H3 s3 b1 b2 b3 q => by
      obtain ⟨ns, rfl, rfl, hl, q⟩ := q
      obtain rfl := a4.ints_inv
      obtain rfl := b3.ints_inv
      refine ⟨p1, p2, ns, rfl, fun z => b1 (z ▸ a1), s3.hH _ _ a3, b2, hl, fun H' kp => kk _ _ F H' (Stp.grow r.fh fun x o hx => kp x (ne_of_none hx a1) o (s3.hH _ _ (s.hH _ _ hx))) (.bl _) q⟩⟩
/-! ### refused -/
def dRefused (i : Nat) (C : Addr) (de : DE) : DE := fun ρ Q => match nth ρ i with
  | .ob C' y => C' = C ∧ de ρ fun x => match x with
    | .int t => ∃ s : PY, y = s.y ∧ ¬ s.has t ∧ Q (.bl true)
    | _ => False
  | _ => False
theorem qe_refused {C : Addr} {k i : Nat} {fa : Addr} {fd : FuncData} {ps : List Str} {n x : Str} {p p1 : Pos} (G : FnOk X.prog X.w X.K X.mg X.base CX0 k fa fd ps (spRef X.K C)) (hr : Room k X.A) (hm : X.mg n = some (.ref fa)) (hk : PySem.W.keepIn X.K (.ref fa) = true) (hb : Binds X.K fd ps [])
    (hv : PE X (.Name x p1) (tVar i)) (h : QE false X f te dk) (hg : Gl X n := by rfl) (hdb : (n == ("__debug__" : Str)) = false := by decide)
    (he : starEach [.Name x p1, f] X.env = (false, eval (.Name x p1) X.env) :: starEach [f] X.env := by rfl) (he2 : starEach [f] X.env = (false, eval f X.env) :: starEach [] X.env := by rfl) (hpl : (backTo pos (starEach [f] X.env)).any (·.1) = false := by rfl) :
    QE b X (.Call (.Name n p) [.Name x p1, f] [] pos) (tCall (spRef X.K C) [] E0 (tCons (tVar i) (tCons te tNil))) (dRefused i C dk) :=
  ⟨pe_call G hr hg hm hk hb .nil pass0 (pa_cons hv (pa_cons h.pe pa_nil he2) he) hdb he hpl, fun H0 F0 F H ρ σ Q R r q kk => by
    unfold dRefused at q
    split at q
    · rename_i C' y hi
      obtain ⟨rfl, q⟩ := q
      have hu : nth ρ i ≠ .un := by rw [hi]; exact Sl.noConfusion
      obtain ⟨v, o, e1, e2, _, _, _⟩ := r.mutate i hu
      rw [hi] at e2
      cases e2 with
      | @ob _ p _ _ hy =>
      refine ⟨_, e1, h.se H0 F0 F H ρ σ _ _ r q fun v d F2 H2 s hv hq => ?_⟩
      split at hq
      · cases hv
        obtain ⟨st, rfl, hno, hq⟩ := hq
        obtain ⟨v', o', e1', e2', n', _, _⟩ := (r.step s).mutate i hu
        rw [hi] at e2'
        cases e1.symm.trans e1'
        cases e2' with
        | ob hy' =>
        exact ⟨F2, p, o', st, _, rfl, s.fh, hy', n', hno, fun H' e => kk _ _ F2 H' (s.trans (Stp.grow s.fh e)) (.bl _) hq⟩
      · exact hq.elim
    · exact q.elim⟩
end
end DL

/-! YD N: more rules for the law of a yard -/
namespace DL
open PySem L2
def dClr2 (i : Nat) (dk : DE) : DS := fun P ρ => match nth ρ i with
  | .l2 dss => dk ρ fun x => match x with
    | .int k => ∃ n ds, ixN dss.length k = some n ∧ dss[n]? = some ds ∧ P.nx (put ρ i (.l2 (dss.set n [])))
    | _ => False
  | _ => False
/-- if told(yard, deed) != due(kinds, rest, tracks, behind, deed): .. -/
def dBoth (C : Addr) (iy ik ir it ib id : Nat) : DS := fun P ρ => ∃ (s : PY) (d : Deed) (n : Nat), nth ρ iy = .ob C s.y ∧ nth ρ ik = .fz (.lst (s.kk.map D.str)) ∧ nth ρ ir = .l1 (s.rest.map D.int) ∧ nth ρ it = .l2 s.ys ∧ nth ρ ib = .l1 (s.go.map D.int) ∧ nth ρ id = .fz (deedD d) ∧ s.fit n ∧ n < 1000000 ∧
  ir ≠ it ∧ it ≠ ib ∧ ir ≠ ib ∧ ik ≠ iy ∧ ir ≠ iy ∧ it ≠ iy ∧ ib ≠ iy ∧ id ≠ iy ∧
  P.nx (put (put (put (put ρ iy (.ob C (stepS s d).1.y)) ir (.l1 ((stepS s d).1.rest.map D.int))) it (.l2 (stepS s d).1.ys)) ib (.l1 ((stepS s d).1.go.map D.int)))
def dMethL1 (i : Nat) (C : Addr) (sp : LSp) (da : DA) : DA := fun ρ Q => match nth ρ i with
  | .ob C' y => C' = C ∧ da ρ fun ds => sp y ds Q (fun _ => False)
  | _ => False
section
variable {X : Cx} {pos pos' : Pos} {e f o : Expr} {es fs : List Expr} {t1 t2 te to : TE} {dk : DE} {b : Bool} {ta : TA} {da : DA} {body : List Stmt} {tb : TS}
theorem qs_clear2 {i : Nat} {x : Str} {p1 p2 p3 p5 : Pos} (hi : QE false X o to dk) (hv : QE false X (.Name x p1) (tVar i) (dVar false i)) (hpx : PlainIx o)
    (hb : attributeBase (.Subscript (.Name x p1) o p5) "clear" X.env (eval (.Subscript (.Name x p1) o p5) X.env) = eval (.Subscript (.Name x p1) o p5) X.env := by rfl)
    (hline : (p2.endLine == p3.line) = true := by rfl)
    (hsw : swapsWith (.Call (.Attribute (.Subscript (.Name x p1) o p5) "clear" p2) [] [] p3) none pos.line X.env = pure false := by rfl) :
    QSt X (.Expr (.Call (.Attribute (.Subscript (.Name x p1) o p5) "clear" p2) [] [] p3) pos) (tDrop (tBM0 X.K "list" rClear (tOp (rIx X.K) (tVar i) to))) (dClr2 i dk) :=
  ⟨ps_expr (pe_bm0 PySem.F.plainAttrs_list PySem.F.slot_list_clear PySem.F.type_list_clear mt_clear (pe_ix ix_seq hv.pe hi.pe hpx) hb hline) hsw, fun H0 F0 F H ρ σ P E r q g => by
    unfold dClr2 at q
    split at q
    · rename_i dss hii
      obtain ⟨a, as, e1, e2, e3, _, _⟩ := r.l2 hii
      refine ⟨_, e1, hi.se H0 F0 F H ρ σ _ _ r q fun v d F2 H2 s hv hq => ?_⟩
      have r2 := r.step s
      obtain ⟨a', as', e1', e2', e3', k2, _⟩ := r2.l2 hii
      cases e1.symm.trans e1'
      split at hq
      · cases hv
        obtain ⟨n, ds, hn, hds, hq⟩ := hq
        obtain ⟨b, vs, b1, b2, b3, k4⟩ := k2 n ds hds
        refine .inl ⟨a, _, _, .ref b, rfl, rfl, .inl (.inl e2'), ?_, st_slot b2, b, vs, rfl, rfl, b2, g.nx F2 _ _ _ (k4 [] [] .nil) hq⟩
        unfold atI
        rw [List.length_map, e3', hn]
        show (as'.map V.ref)[n]? = _
        rw [List.getElem?_map, b1]
        rfl
      · exact hq.elim
    · exact q.elim⟩
theorem ql_meth1 {C g : Addr} {fd : FuncData} {k i : Nat} {x m : Str} {ps : List Str} {cl : Nat → Addr} {sp : LSp} {p1 apos : Pos} {pl : Sem Bool} (c : Cls X.K C) (hm : Meth X.K C m g) (G : FnOk X.prog X.w X.K X.mg X.base (L2.CX X.prog X.w) k g fd ps (liftL X.K C cl sp)) (hr : Room k X.A) (hb : Binds X.K fd ps [])
    (hv : PE X (.Name x p1) (tVar i)) (h : QA true X (e :: es) ta da) (hlk : ∀ k r t g, (yf k r t g).lookup m = none)
    (hst : starEach (e :: es) X.env = (false, eval e X.env) :: starEach es X.env := by rfl) (hpl : (backTo pos (starEach es X.env)).any (·.1) = false := by rfl)
    (ht : eval (.Call (.Attribute (.Name x p1) m apos) (e :: es) [] pos) X.env = (do
      let ov ← eval (.Name x p1) X.env
      standAt apos.atName
      let (f, first) ← holding [ov] (getMethod ov m pl)
      callWith pos f first (backTo pos (starEach (e :: es) X.env)) (backToKw pos (keywordEach [] X.env))) := by rfl) :
    QL X (.Call (.Attribute (.Name x p1) m apos) (e :: es) [] pos) (tMeth C m (liftL X.K C cl sp) [] (fun _ _ _ => False) (tVar i) ta) (dMethL1 i C sp da) :=
  ⟨pe_meth hv c hm G hr hb .nil (fun pins σ H s e s' I c => passAt takes0 σ pins H s e s' I c) h.pa hst hpl ht, fun H0 F0 F H ρ σ Q R r q k => by
    unfold dMethL1 at q
    split at q
    · rename_i C' y hi
      obtain ⟨rfl, q⟩ := q
      have hu : nth ρ i ≠ .un := by rw [hi]; exact Sl.noConfusion
      obtain ⟨v, o, e1, e2, n2, _, _⟩ := r.mutate i hu
      rw [hi] at e2
      cases e2 with
      | @ob _ p _ _ hy =>
      obtain ⟨dx, kA, rA, tA, gA, g1⟩ := hy.ins
      refine ⟨_, e1, p, dx, _, rfl, g1, hlk .., h.sa H0 F0 F H ρ σ _ _ r q fun vs ds F2 H2 s hv hq => ?_⟩
      rw [List.append_nil]
      have r2 := r.step s
      obtain ⟨v', o', e1', e2', n', _, _⟩ := r2.mutate i hu
      rw [hi] at e2'
      cases e1.symm.trans e1'
      cases e2' with
      | ob hy' =>
      exact ⟨F2, p, y, o', vs, ds, Q, fun _ => False, r2.fh, rfl, hv, hy', n', hq, fun q ws es H' hq e hn hq2 hr => k q ws es F2 H' (s.trans (Stp.grow s.fh e)) (s.hH.back hn) (s.fh.back hn) hq2 hr hq, fun _ _ h => h.elim⟩
    · exact q.elim⟩
theorem qs_both {C : Addr} {k k2 iy ik ir it ib id : Nat} {ft fd : Addr} {ddt ddd : FuncData} {pt pd : List Str} {nt nd : Str} {p p2 pc1 pc2 : Pos} (GT : FnOk X.prog X.w X.K X.mg X.base CX0 k ft ddt pt (spTold X.K C)) (hr : Room k X.A) (hmt : X.mg nt = some (.ref ft)) (hkt : PySem.W.keepIn X.K (.ref ft) = true) (hbt : Binds X.K ddt pt [])
    (GD : FnOk X.prog X.w X.K X.mg X.base CX0 k2 fd ddd pd (spStep X.K)) (hr2 : Room k2 X.A) (hmd : X.mg nd = some (.ref fd)) (hkd : PySem.W.keepIn X.K (.ref fd) = true) (hbd : Binds X.K ddd pd [])
    (h1 : PA X (e :: es) (tCons (tVar iy) (tCons (tVar id) tNil))) (h2 : PA X (f :: fs) (tCons (tVar ik) (tCons (tVar ir) (tCons (tVar it) (tCons (tVar ib) (tCons (tVar id) tNil)))))) (hbody : PSs X body tb)
    (hgt : Gl X nt := by rfl) (hdt : (nt == ("__debug__" : Str)) = false := by decide) (het : starEach (e :: es) X.env = (false, eval e X.env) :: starEach es X.env := by rfl) (hplt : (backTo pc1 (starEach es X.env)).any (·.1) = false := by rfl)
    (hgd : Gl X nd := by rfl) (hdd : (nd == ("__debug__" : Str)) = false := by decide) (hed : starEach (f :: fs) X.env = (false, eval f X.env) :: starEach fs X.env := by rfl) (hpld : (backTo pc2 (starEach fs X.env)).any (·.1) = false := by rfl) {pcm : Pos}
    (hm : behindInMarks .NotEq (.Call (.Name nd p2) (f :: fs) [] pc2) = false := by rfl) :
    QSt X (.If (.Compare (.Call (.Name nt p) (e :: es) [] pc1) [.NotEq] [.Call (.Name nd p2) (f :: fs) [] pc2] pcm) body [] pos)
      (tIfS (tTest (tOp rNe (tCall (spTold X.K C) [] E0 (tCons (tVar iy) (tCons (tVar id) tNil))) (tCall (spStep X.K) [] E0 (tCons (tVar ik) (tCons (tVar ir) (tCons (tVar it) (tCons (tVar ib) (tCons (tVar id) tNil)))))))) tb tNext) (dBoth C iy ik ir it ib id) :=
  ⟨ps_if (pt_cmpR op_ne (pe_call GT hr hgt hmt hkt hbt .nil pass0 h1 hdt het hplt) (pe_call GD hr2 hgd hmd hkd hbd .nil pass0 h2 hdd hed hpld) hm) hbody pss_nil, fun H0 F0 F H ρ σ P E r q g => by
    obtain ⟨s, d, n, qy, q1, q2, q3, q4, q5, q6, q7, q8, q9, q10, c1, c2, c3, c4, c5, q⟩ := q
    have hu : nth ρ iy ≠ .un := by rw [qy]; exact Sl.noConfusion
    obtain ⟨v, o, e1, e2, n', ho', kk⟩ := r.mutate iy hu
    rw [qy] at e2
    cases e2 with
    | @ob _ p _ _ hy =>
    obtain ⟨dv, f1, f2⟩ := r.fzAt q5
    refine ⟨_, e1, _, f1, ?_⟩
    refine ⟨F, p, dv, o, s, d, n, rfl, r.fh, f2, hy, n', fun a ha => (ho' a ha).1, q6, q7, fun F3 H3 e3 f3 nw kp hY => ?_⟩
    have r3 := kk F3 H3 (.ob C (stepS s d).1.y) o e3 f3 (fun a o ha => kp a (fun z => by rw [(ho' a z).2] at ha; cases ha) o (r.h0 _ _ ha)) (fun a h1 h2 => by
      by_cases z : F a = none
      · exact r.h0.back (nw a z h2)
      · exact r.nw a h1 z) kp (.ob hY) n' (fun a ha => ⟨by
      cases z : F3 a with
      | none => rfl
      | some o => exact absurd (nw a (ho' a ha).1 (by rw [z]; simp)) (hy.dom ha), (ho' a ha).2, .inl ha⟩) (fun a ha h1 => by
      by_cases z : F a = none
      · exact .inr (nw a z h1)
      · exact .inl z)
    obtain ⟨rA, tA, gA, rv, gv, as, t1, t2, t3, t4, t5, t6, t7, t8, t9, t10, t11, k3⟩ := r3.three q8 q9 q10 (by rw [nth_put_ne c2]; exact q2) (by rw [nth_put_ne c3]; exact q3) (by rw [nth_put_ne c4]; exact q4)
    obtain ⟨kv, m1, m2⟩ := r3.fzAt (i := ik) (by rw [nth_put_ne c1]; exact q1)
    obtain ⟨dv3, l1, l2⟩ := r3.fzAt (i := id) (by rw [nth_put_ne c5]; exact q5)
    obtain rfl := t5.ints_inv
    obtain rfl := t9.ints_inv
    cases m2 with
    | @lst kA kvs _ y1 y2 =>
    obtain rfl := y2.strs_inv
    refine ⟨_, m1, _, t1, _, t2, _, t3, _, l1, ?_⟩
    refine ⟨F3, kA, rA, tA, gA, dv3, as, s, d, n, rfl, r3.fh, y1, t4, t6, t7, t8, l2, t10, t11, q6, q7, fun H' kp h1 h2 h3 h4 => ?_⟩
    refine ⟨rfl, false, ?_, ?_⟩
    · rw [decide_eq_true rfl]; rfl
    show E.nx σ H'
    exact g.nx F3 H' _ _ (k3 H' _ _ _ _ _ kp h1 (RepL.ints _) h2 h3 h4 (RepL.ints _)) q⟩
end
end DL

/-! K03: the law -/
namespace DL
open PySem L2 TL
local macro_rules | `(tactic| walk_at "w") => `(tactic| conv => whnf)
local macro_rules | `(tactic| walk_at "side") => `(tactic| first | omega | decide | exact Nat.le_of_ble_eq_true rfl | exact ⟨by decide, by decide⟩ | exact Or.inl ⟨by omega, by omega⟩ | exact Or.inr ⟨by omega, by omega⟩ | (show (_ : Int) ≠ 0; omega) | exact ⟨by omega, by omega⟩ | (rw [List.length_map]; omega) | (simp only [List.length_map, List.length_append, List.length_cons, List.length_nil]; omega))
local macro_rules | `(tactic| walk_at "go") => `(tactic| ((repeat ((conv => whnf); first | (refine And.intro ?_ ?_; · walk_at "side") | refine And.intro (fun h => Bool.noConfusion (show false = true from h)) (fun _ => ?_) | refine And.intro (fun _ => ?_) (fun h => Bool.noConfusion (show true = false from h)))); (conv => whnf)))
local macro_rules | `(tactic| walk_at "if") => `(tactic| refine ⟨fun hc => ?_, fun hc => ?_⟩)
def d_law_k03_3 : DE := (dVar true 14)
def d_law_k03_2 : DT := (dT (dOp (oEq false) (dCount (dXv false 4) (dVar false 14)) (dC (.int 1))))
def d_law_k03_1 : DE := (dOp oAdd (dOp oMod (dOp oAdd (dOp oMul (dOp oDiv (dVar false 2) (dC (.int 27))) (dC (.int 7919))) (dOp oMul (dVar false 13) (dC (.int 1000003)))) (dC (.int 900000000000))) (dOp oMul (dVar false 13) (dC (.int 900000000))))
def d_law_k03_c (C : Addr) : DS := (dSeq (dSet 12 (dCall sp_law_deed (dCons (dVar true 11) (dCons (dLen (dIv false 1)) dNil))))
  (dSeq (dBoth C 6 1 8 9 10 12)
  (dSeq (dIfS (dOr (dNot (dT (dSeen (dMethL 6 C sp_waiting dNil) (dL1 8)))) (dNot (dT (dSeen (dMethL 6 C sp_gone dNil) (dL1 10))))) (dRet (dC (.bl false))) dNext)
  (dIfS (dAnd (dT (dChain oLe oLt (dC (.int 0)) (dIx (dIv false 12) (dC (.int 1))) (dLen (dIv false 1)))) (dNot (dT (dSeen (dMethL1 6 C sp_standing (dCons (dIx (dIv true 12) (dC (.int 1))) dNil)) (dIx2 9 (dIx (dIv false 12) (dC (.int 1)))))))) (dRet (dC (.bl false))) dNext))))
def d_law_k03_k (C : Addr) : DS := (dIfS (dNot (dT (dSeen (dMethL1 6 C sp_standing (dCons (dVar true 13) dNil)) (dIx2 9 (dVar false 13))))) (dRet (dC (.bl false))) dNext)
def d_law_k03_o (C : Addr) : DS := (dIfS (dT (dOp (oEqD true) (dL (dMethL1 7 C sp_standing (dCons (dVar true 13) dNil))) (dL (dLst dNil)))) (dRet (dC (.bl false))) dNext)
def d_law_k03 (C : Addr) : DS := (dSeq (dSet 1 (dCall sp_law_kinds (dCons (dVar true 0) dNil)))
  (dSeq (dSet 2 (dCall sp_law_cell_at (dCons (dVar true 0) (dCons (dC (.int 2)) dNil))))
  (dSeq (dSet 3 (dOp oMod (dVar false 2) (dC (.int 9))))
  (dJoin (dIfS (dT (dOp (oEq false) (dOp oMod (dOp oDiv (dVar false 2) (dC (.int 9))) (dC (.int 3))) (dC (.int 1)))) (dSet 3 (dOp oMod (dOp oDiv (dVar false 2) (dC (.int 27))) (dC (.int 41)))) dNext)
  (dSeq (dSet 4 (dL (dLc (dRng1 (dCons (dVar false 3) dNil)) 13 dYes d_law_k03_1)))
  (dSeq (dSet 4 (dL (dLc (dS (dVar true 4)) 14 d_law_k03_2 d_law_k03_3)))
  (dSeq (dSet2L 5 (dIv true 1) (dIv true 4))
  (dSeq (dMake 6 C (dIx2 5 (dC (.int 0))) (dIx2 5 (dC (.int 1))))
  (dSeq (dMake 7 C (dXv true 1) (dRev (dSv true 4)))
  (dSeq (dClr2 5 (dC (.int 0)))
  (dSeq (dApp2 5 (dC (.int 1)) (dC (.int 5)))
  (dSeq (dSetL 8 (dIv true 4))
  (dSeq (dSet2 9 (dS (dVar true 1)))
  (dSeq (dSetL 10 (dLst dNil))
  (dSeq (dFor (dCut (dSv true 0) (dOSome (dC (.int 3))) (dOSome (dC (.int 93)))) 11 (d_law_k03_c C))
  (dSeq (dFor (dRng1 (dCons (dLen (dIv false 1)) dNil)) 13 (d_law_k03_k C))
  (dSeq (dIfS (dOr (dNot (dT (dRefused 6 C (dLen (dIv false 1))))) (dNot (dT (dRefused 6 C (dNeg (dC (.int 1))))))) (dRet (dC (.bl false))) dNext)
  (dSeq (dFor (dRng1 (dCons (dLen (dIv false 1)) dNil)) 13 (d_law_k03_o C))
  (dSeq (dIfS (dOr (dT (dOp (oEqD true) (dL (dMethL 7 C sp_waiting dNil)) (dL (dRev (dSv true 4))))) (dT (dOp (oEqD true) (dL (dMethL 7 C sp_gone dNil)) (dL (dLst dNil))))) (dRet (dC (.bl false))) dNext)
  (dRetT (dAndV (dSeen (dMethL 6 C sp_waiting dNil) (dL1 8)) (dSeen (dMethL 6 C sp_gone dNil) (dL1 10)))))))))))))))))))))))
def numK3 (head k : Int) : Int := (head.fdiv 27 * 7919 + k * 1000003).fmod 900000000000 + k * 900000000
def numD3 (head : Int) (x : D) : D := match x with
  | .int k => .int (numK3 head k)
  | _ => .non
theorem numD3_rows (head count : Int) : (rangeD 0 count).map (numD3 head) = ((List.range (count - 0).toNat).map fun i : Nat => numK3 head (0 + (i : Nat))).map D.int := by
  unfold rangeD
  rw [List.map_map, List.map_map]
  rfl
theorem stepS_keep {s : PY} {d : Deed} {n : Nat} (h : s.fit n) : (stepS s d).1.fit (n + 1) ∧ (stepS s d).1.kk = s.kk ∧ (stepS s d).1.rest.length ≤ s.rest.length := by
  cases e : s.step d with
  | ok s' =>
    rw [stepS_ok e]
    refine ⟨PY.fit_step h e, PY.step_kk e, ?_⟩
    unfold PY.step PY.inn PY.out at e
    split at e
    · split at e
      · split at e <;> cases e
        rename_i hr
        rw [hr]
        exact Nat.le_succ _
      · cases e
    · split at e
      · split at e <;> cases e
        exact Nat.le_refl _
      · cases e
  | error c =>
    rw [stepS_er e]
    exact ⟨PY.fit_le h (Nat.le_succ n), rfl, Nat.le_refl _⟩
theorem at_ys {s : PY} {t : Int} (h : s.has t) : ixN s.ys.length t = some t.toNat ∧ s.ys[t.toNat]? = some ((s.at t).map D.int) := by
  have hl : t.toNat < s.tr.length := by have := h.1; have := h.2; omega
  have h0 := h.1
  have h1 := h.2
  unfold PY.ys PY.at
  constructor
  · unfold ixN
    rw [List.length_map, if_pos h0, if_pos (by omega)]
  · rw [List.getElem?_map, List.getD_eq_getElem?_getD, List.getElem?_eq_getElem hl]
    rfl
def rho3 (C : Addr) (ns : List Int) (bs : List Bool) (a2 a3 : Sl) (row : List Int) (a5 : Sl) (o s : PY) (s11 s12 s13 s14 s15 : Sl) : Env :=
  [.fz (.scr ns), .fz (.lst ((kindL bs).map D.str)), a2, a3, .fz (.lst (row.map D.int)), a5, .ob C s.y, .ob C o.y, .l1 (s.rest.map D.int), .l2 s.ys, .l1 (s.go.map D.int), s11, s12, s13, s14, s15]
theorem cells_loop {C : Addr} {P : DEnds} {ns : List Int} {bs : List Bool} {a2 a3 a5 : Sl} {row : List Int} {o : PY} {s13 s14 s15 : Sl} (g : ∀ s s11 s12, s.kk = kindL bs → s.fit 1000 → s.rest.length ≤ 1000 → P.nx (rho3 C ns bs a2 a3 row a5 o s s11 s12 s13 s14 s15)) :
    ∀ (cells : List Int) (s : PY) (n : Nat) (s11 s12 : Sl), s.fit n → n + cells.length ≤ 1000 → s.kk = kindL bs → s.rest.length ≤ 1000 → dForG (d_law_k03_c C) 11 P (cells.map D.int) (rho3 C ns bs a2 a3 row a5 o s s11 s12 s13 s14 s15)
  | [], s, n, s11, s12, hf, hn, hk, hr => g s s11 s12 hk (PY.fit_le hf (by simpa using hn)) hr
  | cell :: cells, s, n, s11, s12, hf, hn, hk, hr => by
    simp only [List.length_cons] at hn
    unfold rho3
    walk_at "w"
    refine ⟨cell, _, rfl, Int.natCast_nonneg _, fun d => ?_⟩
    obtain ⟨f1, f2, f3⟩ := stepS_keep (d := d) hf
    walk_at "w"
    refine ⟨s, d, n, rfl, by rw [hk]; rfl, rfl, rfl, rfl, rfl, hf, by omega, by decide, by decide, by decide, by decide, by decide, by decide, by decide, by decide, ?_⟩
    have ih := cells_loop g cells (stepS s d).1 (n + 1) (.fz (.int cell)) (.fz (deedD d)) f1 (by omega) (by rw [f2]; exact hk) (by omega)
    have hk' : (stepS s d).1.kk = kindL bs := by rw [f2]; exact hk
    generalize (stepS s d).1 = s' at f1 f2 f3 ih hk' ⊢
    walk_at "w"
    refine ⟨rfl, rfl, s'.rest, rfl, rfl, by omega, ?_⟩
    refine ⟨fun h => Bool.noConfusion h, fun _ => ?_⟩
    walk_at "w"
    refine ⟨rfl, rfl, s'.go, rfl, rfl, by have := f1.2.2.2; omega, ?_⟩
    refine ⟨fun h => Bool.noConfusion h, fun _ => ?_⟩
    walk_at "w"
    have a1 : atI [D.str (dirS d.1), D.int d.2] 1 = some (.int d.2) := atI_nat (by decide) rfl
    refine ⟨_, a1, ?_⟩
    walk_at "w"
    refine ⟨fun h0 => ?_, fun _ => ?_⟩
    · walk_at "w"
      refine ⟨fun h1 => ?_, fun _ => ?_⟩
      · have h0' := of_decide_eq_true h0
        have h1' := of_decide_eq_true h1
        have has : s'.has d.2 := ⟨h0', by rw [f1.1, hk']; rw [List.length_map] at h1'; exact h1'⟩
        have hy := at_ys has
        walk_at "w"
        refine ⟨rfl, _, a1, ?_⟩
        refine ⟨s', d.2, rfl, rfl, fun _ => ?_, fun z => absurd has z⟩
        refine ⟨_, a1, d.2.toNat, _, hy.1, hy.2, s'.at d.2, rfl, rfl, by have := PY.at_len has f1; omega, ?_⟩
        refine ⟨fun h => Bool.noConfusion h, fun _ => ?_⟩
        exact ih
      · refine ⟨fun h => Bool.noConfusion h, fun _ => ?_⟩
        exact ih
    · refine ⟨fun h => Bool.noConfusion h, fun _ => ?_⟩
      refine ⟨fun h => Bool.noConfusion h, fun _ => ?_⟩
      exact ih
theorem seen_loop {C : Addr} {P : DEnds} {ns : List Int} {bs : List Bool} {a2 a3 a5 : Sl} {row : List Int} {o s : PY} {s11 s12 s14 s15 : Sl} (hf : s.fit 1000) (g : ∀ s13, P.nx (rho3 C ns bs a2 a3 row a5 o s s11 s12 s13 s14 s15)) :
    ∀ (n : Nat) (k : Int) (s13 : Sl), 0 ≤ k → k ≤ s.tr.length → (s.tr.length : Int) - k ≤ n → dForG (d_law_k03_k C) 13 P (rangeD k s.tr.length) (rho3 C ns bs a2 a3 row a5 o s s11 s12 s13 s14 s15)
  | 0, k, s13, k0, k1, hn => by
    rw [rangeD_nil (by omega)]
    exact g s13
  | n + 1, k, s13, k0, k1, hn => by
    by_cases hk : k < s.tr.length
    · rw [rangeD_cons hk]
      have has : s.has k := ⟨k0, hk⟩
      have hy := at_ys has
      unfold rho3
      walk_at "w"
      refine ⟨rfl, s, k, rfl, rfl, fun _ => ?_, fun z => absurd has z⟩
      refine ⟨k.toNat, _, hy.1, hy.2, s.at k, rfl, rfl, by have := PY.at_len has hf; omega, ?_⟩
      refine ⟨fun h => Bool.noConfusion h, fun _ => ?_⟩
      exact seen_loop hf g n (k + 1) (.fz (.int k)) (by omega) (by omega) (by omega)
    · rw [rangeD_nil (by omega)]
      exact g s13
theorem other_loop {C : Addr} {P : DEnds} {ns : List Int} {bs : List Bool} {a2 a3 a5 : Sl} {row : List Int} {o s : PY} {s11 s12 s14 s15 : Sl} (ho : ∀ k, o.at k = []) (g : ∀ s13, P.nx (rho3 C ns bs a2 a3 row a5 o s s11 s12 s13 s14 s15)) :
    ∀ (n : Nat) (k : Int) (s13 : Sl), 0 ≤ k → k ≤ o.tr.length → (o.tr.length : Int) - k ≤ n → dForG (d_law_k03_o C) 13 P (rangeD k o.tr.length) (rho3 C ns bs a2 a3 row a5 o s s11 s12 s13 s14 s15)
  | 0, k, s13, k0, k1, hn => by
    rw [rangeD_nil (by omega)]
    exact g s13
  | n + 1, k, s13, k0, k1, hn => by
    by_cases hk : k < o.tr.length
    · rw [rangeD_cons hk]
      have has : o.has k := ⟨k0, hk⟩
      have s0 := shp_bools []
      have e0 : PyData.eqv (D.lst []).py (D.lst []).py = true := eqv_bools [] []
      unfold rho3
      walk_at "w"
      refine ⟨rfl, o, k, rfl, rfl, fun _ => ?_, fun z => absurd has z⟩
      rw [ho]
      refine ⟨Nat.zero_le _, s0, s0, ?_⟩
      show ((true ^^ PyData.eqv (D.lst []).py (D.lst []).py) = true → _) ∧ ((true ^^ PyData.eqv (D.lst []).py (D.lst []).py) = false → _)
      rw [e0]
      refine ⟨fun h => Bool.noConfusion h, fun _ => ?_⟩
      exact other_loop ho g n (k + 1) (.fz (.int k)) (by omega) (by omega) (by omega)
    · rw [rangeD_nil (by omega)]
      exact g s13
theorem new_at (kk : List Str) (row : List Int) (k : Int) : (PY.new kk row).at k = [] := by
  show ((kk.map fun _ => ([] : List Int)).getD k.toNat []) = []
  rw [List.map_const', List.getD_eq_getElem?_getD, List.getElem?_replicate]
  split <;> rfl
theorem new_y (kk : List Str) (row : List Int) : (⟨kk.map D.str, row.map D.int, (kk.map D.str).map fun _ => [], []⟩ : Yrd) = (PY.new kk row).y := by
  unfold PY.new PY.y
  simp
theorem th_law_k03 {C : Addr} : ∀ ds Q, sp_law ds Q → d_law_k03 C (dEnds Q) (dstart 16 ds) := by
  rintro ds Q ⟨ns, rfl, hl, hq⟩
  walk_at "w"
  refine ⟨ns, rfl, fun bs hb => ?_⟩
  walk_at "w"
  refine ⟨ns, 2, rfl, by decide, ?_⟩
  walk_at "go"
  generalize cellAt ns 2 = head
  have f1 := fmod_rng head (show (0 : Int) < 9 by decide)
  refine ⟨fun ρ => ∃ count : Int, 0 ≤ count ∧ count ≤ 40 ∧ ρ = [.fz (.scr ns), .fz (.lst ((kindL bs).map D.str)), .fz (.int head), .fz (.int count), .un, .un, .un, .un, .un, .un, .un, .un, .un, .un, .un, .un], ?_, ?_⟩
  · walk_at "go"
    have f2 := fmod_rng (head.fdiv 27) (show (0 : Int) < 41 by decide)
    refine ⟨fun _ => ?_, fun _ => ⟨_, f1.1, by omega, rfl⟩⟩
    walk_at "go"
    exact ⟨_, f2.1, by omega, rfl⟩
  rintro ρ ⟨count, c0, c1, rfl⟩
  walk_at "w"
  refine ⟨⟨by omega, by omega⟩, by rw [rangeD_len]; omega, ?_⟩
  refine dLcG_map (numD3 head) (fun x hx R hR => ?_) ?_
  · obtain ⟨i, hi, rfl⟩ := List.mem_map.mp hx
    rw [List.mem_range] at hi
    walk_at "go"
    exact hR
  rw [List.nil_append, numD3_rows]
  have hlen : ((List.range (count - 0).toNat).map fun i : Nat => numK3 head (0 + (i : Nat))).length ≤ 40 := by rw [List.length_map, List.length_range]; omega
  generalize (List.range (count - 0).toNat).map (fun i : Nat => numK3 head (0 + (i : Nat))) = row0 at hlen ⊢
  walk_at "w"
  refine ⟨by rw [List.length_map]; omega, ?_⟩
  refine dLcG_filtI (p := fun x => decide (((row0.count x : Nat) : Int) = 1)) (fun x R h => ?_) (fun x R h => ?_) row0 [] ?_
  · exact ⟨row0, rfl, by show R (false ^^ decide _); rw [Bool.false_xor]; exact h⟩
  · exact h
  have hlen2 : (row0.filter fun x => decide (((row0.count x : Nat) : Int) = 1)).length ≤ 40 := Nat.le_trans (List.length_filter_le _ _) hlen
  rw [List.nil_append]
  generalize row0.filter (fun x => decide (((row0.count x : Nat) : Int) = 1)) = row at hlen2 ⊢
  have el : ((kindL bs).map D.str).length = bs.length := by unfold kindL; rw [List.length_map, List.length_map]
  walk_at "w"
  refine ⟨0, _, rfl, rfl, ?_⟩
  refine ⟨1, _, rfl, rfl, ?_⟩
  refine ⟨by rw [el]; omega, ?_⟩
  walk_at "w"
  refine ⟨by rw [el]; omega, ?_⟩
  walk_at "w"
  refine ⟨0, _, rfl, rfl, ?_⟩
  walk_at "w"
  refine ⟨1, _, rfl, rfl, by rw [List.length_map]; omega, ?_⟩
  walk_at "w"
  refine ⟨by rw [el]; omega, ?_⟩
  walk_at "w"
  refine ⟨Nat.zero_le _, ?_⟩
  have ey : (PY.new (kindL bs) row).ys = List.replicate ((kindL bs).map D.str).length [] := by
    show ((kindL bs).map fun _ => ([] : List Int)).map (fun l => l.map D.int) = _
    rw [List.map_map, List.length_map, ← List.map_const']
    rfl
  have fit : (PY.new (kindL bs) row).fit bs.length := by
    have := PY.fit_new (kindL bs) row
    unfold kindL at this ⊢
    rw [List.length_map] at this
    exact this
  have hc := cutI_len ns (some 3) (some 93)
  rw [new_y, ← ey, ← List.map_reverse, new_y]
  show dForG (d_law_k03_c C) 11 _ (cutD (ns.map D.int) (some 3) (some 93)) _
  rw [cutD_map]
  refine cells_loop (o := PY.new (kindL bs) row.reverse) (fun s s11 s12 hk hf hr => ?_) (cutI ns (some 3) (some 93)) (PY.new (kindL bs) row) bs.length .un .un fit (by omega) rfl (by show row.length ≤ 1000; omega)
  have es : ((kindL bs).map D.str).length = s.tr.length := by rw [List.length_map, hf.1, hk]
  have eo : ((kindL bs).map D.str).length = (PY.new (kindL bs) row.reverse).tr.length := by
    show _ = ((kindL bs).map fun _ => ([] : List Int)).length
    rw [List.length_map, List.length_map]
  unfold rho3
  walk_at "w"
  refine ⟨⟨by omega, by rw [el]; omega⟩, ?_⟩
  rw [es]
  refine seen_loop hf (fun s13 => ?_) s.tr.length 0 .un (by omega) (by omega) (by omega)
  unfold rho3
  walk_at "w"
  refine ⟨rfl, s, rfl, fun h => absurd h.2 (by rw [es]; omega), ?_⟩
  refine ⟨fun h => Bool.noConfusion h, fun _ => ?_⟩
  walk_at "w"
  refine ⟨rfl, s, rfl, fun h => absurd h.1 (by decide), ?_⟩
  refine ⟨fun h => Bool.noConfusion h, fun _ => ?_⟩
  walk_at "w"
  refine ⟨⟨by omega, by rw [el]; omega⟩, ?_⟩
  rw [eo]
  refine other_loop (fun k => new_at _ _ k) (fun s13 => ?_) (PY.new (kindL bs) row.reverse).tr.length 0 _ (by omega) (by omega) (by omega)
  unfold rho3
  walk_at "w"
  have eqr := eqv_self row.reverse
  unfold dints at eqr
  have s0 := shp_bools []
  have e0 : PyData.eqv (D.lst []).py (D.lst []).py = true := eqv_bools [] []
  refine ⟨rfl, rfl, ?_⟩
  show D.shp (.lst (row.reverse.map D.int)) ∧ D.shp (.lst ((row.map D.int).reverse)) ∧ (((true ^^ PyData.eqv (D.lst (row.reverse.map D.int)).py (D.lst ((row.map D.int).reverse)).py) = true → _) ∧ ((true ^^ PyData.eqv (D.lst (row.reverse.map D.int)).py (D.lst ((row.map D.int).reverse)).py) = false → _))
  rw [← List.map_reverse, eqr]
  refine ⟨shp_ints _, shp_ints _, fun h => Bool.noConfusion h, fun _ => ?_⟩
  walk_at "w"
  refine ⟨rfl, rfl, ?_⟩
  refine ⟨Nat.zero_le _, s0, s0, ?_⟩
  show ((true ^^ PyData.eqv (D.lst []).py (D.lst []).py) = true → _) ∧ ((true ^^ PyData.eqv (D.lst []).py (D.lst []).py) = false → _)
  rw [e0]
  refine ⟨fun h => Bool.noConfusion h, fun _ => ?_⟩
  walk_at "w"
  refine ⟨rfl, rfl, s.rest, rfl, rfl, by omega, ?_⟩
  refine ⟨fun _ => ?_, fun h => Bool.noConfusion h⟩
  walk_at "w"
  exact ⟨rfl, rfl, s.go, rfl, rfl, by have := hf.2.2.2; omega, hq⟩
end DL

namespace DL
open PySem L2
def top_ (i : Nat) : Stmt := PySem.Challenge.pw_shuntyard_k03_a_yard_deed_by_deed.main.body.getD i (.Pass ⟨0, 0, 0, 0⟩)
abbrev s__law_cell_at : Stmt := top_ 9
abbrev s__law_kinds : Stmt := top_ 16
abbrev s__law_deed : Stmt := top_ 17
abbrev s__law_told : Stmt := top_ 12
abbrev s__law_due : Stmt := top_ 13
abbrev s__law_whole : Stmt := top_ 10
abbrev s__law_wagons : Stmt := top_ 11
abbrev s__law_seen : Stmt := top_ 14
abbrev s__law_refused_look : Stmt := top_ 15
abbrev s_law : Stmt := top_ 18
def clOf (c0 c1 c2 c3 : Addr) : Nat → Addr | 0 => c0 | 1 => c1 | 2 => c2 | _ => c3
section
variable {P : Program} {w : World} {K : PySem.W.Frag} {mg : Str → Option Value} {base : Heap}
theorem ok__law_cell_at (M : Bt mg)  {fa : Addr} {fd : FuncData} (F : Fun K "_law_cell_at" "_law_cell_at" s__law_cell_at fa fd) : FnOk P w K mg base CX0 1 fa fd ["script", "k"] (liftSp K sp_law_cell_at) := by
  have sc : FnScope ["script", "k"] ["script", "k"] (defScope s__law_cell_at) := ⟨rfl, rfl, rfl, by decide +kernel, rfl, by decide +kernel, by decide +kernel⟩
  refine fn_ok F sc ln_law_cell_at th_law_cell_at (fun cdv A outer s H E hr => ?_)
  have hu := hu_of hr
  exact ⟨_, (qss_cons (qs_if (qt_lt (qv 1) (qe_len (qi_v 0) M.len)) (qss_one (qs_ret (qe_ix (qi_v 0) (qv 1) (fun _ _ => rfl)))) qss_nil)
  (qss_one (qs_ret qe_int)))⟩
theorem ok__law_kinds (M : Bt mg) (H__law_cell_at : Has P w K mg base 1 "_law_cell_at" ["script", "k"] sp_law_cell_at) {fa : Addr} {fd : FuncData} (F : Fun K "_law_kinds" "_law_kinds" s__law_kinds fa fd) : FnOk P w K mg base CX0 2 fa fd ["script"] (liftSp K sp_law_kinds) := by
  have sc : FnScope ["script", "head", "count", "bits", "kinds", "k"] ["script"] (defScope s__law_kinds) := ⟨rfl, rfl, rfl, by decide +kernel, rfl, by decide +kernel, by decide +kernel⟩
  obtain ⟨a__law_cell_at, fd__law_cell_at, G__law_cell_at, m__law_cell_at, k__law_cell_at, b__law_cell_at⟩ := H__law_cell_at
  refine fn_ok F sc ln_law_kinds th_law_kinds (fun cdv A outer s H E hr => ?_)
  have hu := hu_of hr
  exact ⟨_, (qss_cons (qs_set (i := 1) sc.nd rfl (by first | exact Or.inl rfl | exact Or.inr rfl) (qe_call G__law_cell_at (hr.mono (by decide)) m__law_cell_at k__law_cell_at b__law_cell_at (qa_cons (qv 0) (qa_cons qe_int qa_nil))))
  (qss_cons (qs_set (i := 2) sc.nd rfl (by first | exact Or.inl rfl | exact Or.inr rfl) (qe_mod (qv 1) qe_int))
  (qss_cut (qs_if (qt_eq (qe_mod (qe_fdiv (qv 1) qe_int) qe_int) qe_int) (qss_one (qs_set (i := 2) sc.nd rfl (by first | exact Or.inl rfl | exact Or.inr rfl) (qe_add qe_int (qe_mod (qe_fdiv (qv 1) qe_int) qe_int)))) qss_nil)
  (qss_cons (qs_set (i := 3) sc.nd rfl (by first | exact Or.inl rfl | exact Or.inr rfl) (qe_mod (qe_call G__law_cell_at (hr.mono (by decide)) m__law_cell_at k__law_cell_at b__law_cell_at (qa_cons (qv 0) (qa_cons qe_int qa_nil))) qe_int))
  (qss_cons (qs_setL (i := 4) sc.nd rfl (by first | exact Or.inl rfl | exact Or.inr rfl) (ql_lst qa_nil))
  (qss_cons (qs_forR1 (j := 5) PassesOwn.never rfl sc.nd rfl (by first | exact Or.inl rfl | exact Or.inr rfl) M.range (qa_cons (qv 2) qa_nil) (qss_one (qs_app (qe_ix (qi_x (qx_new (ql_lst (qa_cons qe_str (qa_cons qe_str qa_nil))))) (qe_mod (qe_add (qe_fdiv (qv 3) (qe_add (qv 5) qe_int)) (qv 5)) qe_int) (fun _ _ => rfl)) (qv 4))))
  (qss_one (qs_ret (qv 4)))))))))⟩
theorem ok__law_deed (M : Bt mg)  {fa : Addr} {fd : FuncData} (F : Fun K "_law_deed" "_law_deed" s__law_deed fa fd) : FnOk P w K mg base CX0 1 fa fd ["cell", "count"] (liftSp K sp_law_deed) := by
  have sc : FnScope ["cell", "count", "way"] ["cell", "count"] (defScope s__law_deed) := ⟨rfl, rfl, rfl, by decide +kernel, rfl, by decide +kernel, by decide +kernel⟩
  refine fn_ok F sc ln_law_deed th_law_deed (fun cdv A outer s H E hr => ?_)
  have hu := hu_of hr
  exact ⟨_, (qss_cons (qs_set (i := 2) sc.nd rfl (by first | exact Or.inl rfl | exact Or.inr rfl) (qe_ix (qi_x (qx_new (ql_lst (qa_cons qe_str (qa_cons qe_str qa_nil))))) (qe_mod (qv 0) qe_int) (fun _ _ => rfl)))
  (qss_cons (qs_if (qt_eq (qe_mod (qe_fdiv (qv 0) qe_int) qe_int) qe_int) (qss_one (qs_ret (qe_tup (qa_cons (qv 2) (qa_cons (qe_ix (qi_x (qx_new (ql_lst (qa_cons (qe_neg qe_int) (qa_cons (qv 1) (qa_cons (qe_add (qe_add (qv 1) qe_int) (qe_mod (qe_fdiv (qv 0) qe_int) qe_int)) (qa_cons (qe_sub (qe_neg qe_int) (qe_mod (qe_fdiv (qv 0) qe_int) qe_int)) qa_nil))))))) (qe_mod (qe_fdiv (qv 0) qe_int) qe_int) (fun _ _ => rfl)) qa_nil))))) qss_nil)
  (qss_cons (qs_if (qt_eq (qv 1) qe_int) (qss_one (qs_ret (qe_tup (qa_cons (qv 2) (qa_cons qe_int qa_nil))))) qss_nil)
  (qss_one (qs_ret (qe_tup (qa_cons (qv 2) (qa_cons (qe_mod (qe_fdiv (qv 0) qe_int) (qv 1)) qa_nil))))))))⟩
theorem ok__law_whole (M : Bt mg)  {fa : Addr} {fd : FuncData} (F : Fun K "_law_whole" "_law_whole" s__law_whole fa fd) : FnOk P w K mg base CX0 1 fa fd ["found"] (liftSp K sp_law_whole) := by
  have sc : FnScope ["found"] ["found"] (defScope s__law_whole) := ⟨rfl, rfl, rfl, by decide +kernel, rfl, by decide +kernel, by decide +kernel⟩
  refine fn_ok F sc ln_law_whole th_law_whole (fun cdv A outer s H E hr => ?_)
  have hu := hu_of hr
  exact ⟨_, (qss_one (qs_ret (qe_and (qe_isi TyIn.int M.isinstance M.int (qv 0)) (qe_one (qe_not (qe_isi TyIn.bool M.isinstance M.bool (qv 0)))))))⟩
theorem ok__law_wagons (M : Bt mg) (H__law_whole : Has P w K mg base 1 "_law_whole" ["found"] sp_law_whole) {fa : Addr} {fd : FuncData} (F : Fun K "_law_wagons" "_law_wagons" s__law_wagons fa fd) : FnOk P w K mg base CX0 2 fa fd ["found"] (liftSp K sp_law_wagons) := by
  have sc : FnScope ["found", "wagon"] ["found"] (defScope s__law_wagons) := ⟨rfl, rfl, rfl, by decide +kernel, rfl, by decide +kernel, by decide +kernel⟩
  obtain ⟨a__law_whole, fd__law_whole, G__law_whole, m__law_whole, k__law_whole, b__law_whole⟩ := H__law_whole
  refine fn_ok F sc ln_law_wagons th_law_wagons (fun cdv A outer s H E hr => ?_)
  have hu := hu_of hr
  exact ⟨_, (qss_cons (qs_if (qt_not (qt_val (qe_isi TyIn.list M.isinstance M.list (qv 0)))) (qss_one (qs_ret qe_bl)) qss_nil)
  (qss_cons (qs_forL (j := 1) PassesOwn.never rfl sc.nd rfl (by first | exact Or.inl rfl | exact Or.inr rfl) (qf_of (qv 0)) (qss_one (qs_if (qt_not (qt_val (qe_call G__law_whole (hr.mono (by decide)) m__law_whole k__law_whole b__law_whole (qa_cons (qv 1) qa_nil)))) (qss_one (qs_ret qe_bl)) qss_nil)))
  (qss_one (qs_ret qe_bl))))⟩
theorem ok_law (M : Bt mg) {C fI fW fS fG : Addr} {dI dW dS dG : FuncData} {cl : Nat → Addr} (Y : YTab K mg C) (gY : mg "Yard" = some (.ref C)) (MK : Mk K C fI) (G_init : FnOk P w K mg base (L2.CX P w) 1 fI dI ["self", "kinds", "row"] (spMake K C)) (b_init : Binds K dI ["self", "kinds", "row"] []) (G_waiting : FnOk P w K mg base (L2.CX P w) 1 fW dW ["self"] (liftL K C cl sp_waiting)) (m_waiting : Meth K C "waiting" fW) (b_waiting : Binds K dW ["self"] []) (G_standing : FnOk P w K mg base (L2.CX P w) 2 fS dS ["self", "track"] (liftL K C cl sp_standing)) (m_standing : Meth K C "standing" fS) (b_standing : Binds K dS ["self", "track"] []) (G_gone : FnOk P w K mg base (L2.CX P w) 1 fG dG ["self"] (liftL K C cl sp_gone)) (m_gone : Meth K C "gone" fG) (b_gone : Binds K dG ["self"] []) (H__law_kinds : Has P w K mg base 2 "_law_kinds" ["script"] sp_law_kinds) (H__law_cell_at : Has P w K mg base 1 "_law_cell_at" ["script", "k"] sp_law_cell_at) (H__law_deed : Has P w K mg base 1 "_law_deed" ["cell", "count"] sp_law_deed) (H__law_told : HasR P w K mg base 3 "_law_told" ["yard", "deed"] (spTold K C)) (H__law_due : HasR P w K mg base 1 "_law_due" ["kinds", "rest", "tracks", "behind", "deed"] (spStep K)) (H__law_seen : HasR P w K mg base 3 "_law_seen" ["found", "due"] spSeen) (H__law_refused_look : HasR P w K mg base 3 "_law_refused_look" ["yard", "track"] (spRef K C)) {fa : Addr} {fd : FuncData} (F : Fun K "law" "law" s_law fa fd) : FnOk P w K mg base CX0 4 fa fd ["script"] (liftSp K sp_law) := by
  have sc : FnScope ["script", "kinds", "head", "count", "row", "handed", "yard", "other", "rest", "tracks", "behind", "cell", "deed", "k", "wagon", "kind"] ["script"] (defScope s_law) := ⟨rfl, rfl, rfl, by decide +kernel, rfl, by decide +kernel, by decide +kernel⟩
  obtain ⟨a__law_kinds, fd__law_kinds, G__law_kinds, m__law_kinds, k__law_kinds, b__law_kinds⟩ := H__law_kinds
  obtain ⟨a__law_cell_at, fd__law_cell_at, G__law_cell_at, m__law_cell_at, k__law_cell_at, b__law_cell_at⟩ := H__law_cell_at
  obtain ⟨a__law_deed, fd__law_deed, G__law_deed, m__law_deed, k__law_deed, b__law_deed⟩ := H__law_deed
  obtain ⟨a__law_told, fd__law_told, G__law_told, m__law_told, k__law_told, b__law_told⟩ := H__law_told
  obtain ⟨a__law_due, fd__law_due, G__law_due, m__law_due, k__law_due, b__law_due⟩ := H__law_due
  obtain ⟨a__law_seen, fd__law_seen, G__law_seen, m__law_seen, k__law_seen, b__law_seen⟩ := H__law_seen
  obtain ⟨a__law_refused_look, fd__law_refused_look, G__law_refused_look, m__law_refused_look, k__law_refused_look, b__law_refused_look⟩ := H__law_refused_look
  refine fn_ok F sc ln_law (th_law_k03 (C := C)) (fun cdv A outer s H E hr => ?_)
  have hu := hu_of hr
  exact ⟨_, (qss_cons (qs_set (i := 1) sc.nd rfl (by first | exact Or.inl rfl | exact Or.inr rfl) (qe_call G__law_kinds (hr.mono (by decide)) m__law_kinds k__law_kinds b__law_kinds (qa_cons (qv 0) qa_nil)))
  (qss_cons (qs_set (i := 2) sc.nd rfl (by first | exact Or.inl rfl | exact Or.inr rfl) (qe_call G__law_cell_at (hr.mono (by decide)) m__law_cell_at k__law_cell_at b__law_cell_at (qa_cons (qv 0) (qa_cons qe_int qa_nil))))
  (qss_cons (qs_set (i := 3) sc.nd rfl (by first | exact Or.inl rfl | exact Or.inr rfl) (qe_mod (qv 2) qe_int))
  (qss_cut (qs_if (qt_eq (qe_mod (qe_fdiv (qv 2) qe_int) qe_int) qe_int) (qss_one (qs_set (i := 3) sc.nd rfl (by first | exact Or.inl rfl | exact Or.inr rfl) (qe_mod (qe_fdiv (qv 2) qe_int) qe_int))) qss_nil)
  (qss_cons (qs_set (i := 4) sc.nd rfl (by first | exact Or.inl rfl | exact Or.inr rfl) (qe_ofL (ql_lc (qc_R1 rfl sc.nd M.range (qa_cons (qv 3) qa_nil) (blkOk_by (N := ["script", "kinds", "head", "count", "row", "handed", "yard", "other", "rest", "tracks", "behind", "cell", "deed", "k", "wagon", "kind"]) (sc := defScope s_law) (by decide +kernel)) (fun _ _ _ _ _ => pg_name (i := 13) sc.nd rfl (Or.inl rfl)) (fun _ _ _ _ _ => qts_nil) (fun _ _ _ _ _ => (qe_add (qe_mod (qe_add (qe_mul (qe_fdiv (qv 2) qe_int) qe_int) (qe_mul (qv 13) qe_int)) qe_int) (qe_mul (qv 13) qe_int)))))))
  (qss_cons (qs_set (i := 4) sc.nd rfl (by first | exact Or.inl rfl | exact Or.inr rfl) (qe_ofL (ql_lc (qc_L rfl sc.nd (qf_of (qv 4)) (blkOk_by (N := ["script", "kinds", "head", "count", "row", "handed", "yard", "other", "rest", "tracks", "behind", "cell", "deed", "k", "wagon", "kind"]) (sc := defScope s_law) (by decide +kernel)) (fun _ _ _ _ _ => pg_name (i := 14) sc.nd rfl (Or.inl rfl)) (fun _ _ _ _ _ => (qts_one (qt_eq (qe_count (qx_v 4) (qv 14)) qe_int))) (fun _ _ _ _ _ => (qv 14))))))
  (qss_cons (qs_set2L (i := 5) (ql_list (qi_v 1) M.list) (ql_list (qi_v 4) M.list) sc.nd rfl (by first | exact Or.inl rfl | exact Or.inr rfl))
  (qss_cons (qs_make MK G_init (hr.mono (by decide)) gY b_init (qx_d (qd_ix2 qe_int (pv 5) (fun _ _ => rfl))) (qx_d (qd_ix2 qe_int (pv 5) (fun _ _ => rfl))) sc.nd rfl (by first | exact Or.inl rfl | exact Or.inr rfl))
  (qss_cons (qs_make MK G_init (hr.mono (by decide)) gY b_init (qx_v 1) (qx_new (ql_rev (qs_v 4))) sc.nd rfl (by first | exact Or.inl rfl | exact Or.inr rfl))
  (qss_cons (qs_clear2 qe_int (qv 5) (fun _ _ => rfl))
  (qss_cons (qs_app2 qe_int qe_int (qv 5) (fun _ _ => rfl))
  (qss_cons (qs_setL (i := 8) sc.nd rfl (by first | exact Or.inl rfl | exact Or.inr rfl) (ql_list (qi_v 4) M.list))
  (qss_cons (qs_setLc2 (i := 9) (qc2_L rfl sc.nd (qf_of (qv 1)) (blkOk_by (N := ["script", "kinds", "head", "count", "row", "handed", "yard", "other", "rest", "tracks", "behind", "cell", "deed", "k", "wagon", "kind"]) (sc := defScope s_law) (by decide +kernel)) (fun _ _ _ _ _ => pg_name (i := 15) sc.nd rfl (Or.inl rfl))) rfl rfl (sw_true rfl rfl rfl (by decide +kernel)))
  (qss_cons (qs_setL (i := 10) sc.nd rfl (by first | exact Or.inl rfl | exact Or.inr rfl) (ql_lst qa_nil))
  (qss_cons (qs_forL (j := 11) PassesOwn.never rfl sc.nd rfl (by first | exact Or.inl rfl | exact Or.inr rfl) (qf_new (ql_cut (qs_v 0) (qo_some qe_int) (qo_some qe_int))) (qss_cons (qs_set (i := 12) sc.nd rfl (by first | exact Or.inl rfl | exact Or.inr rfl) (qe_call G__law_deed (hr.mono (by decide)) m__law_deed k__law_deed b__law_deed (qa_cons (qv 11) (qa_cons (qe_len (qi_v 1) M.len) qa_nil))))
  (qss_cons (qs_both G__law_told (hr.mono (by decide)) m__law_told k__law_told b__law_told G__law_due (hr.mono (by decide)) m__law_due k__law_due b__law_due (pa_cons (pv 6) (pa_cons (pv 12) pa_nil)) (pa_cons (pv 1) (pa_cons (pv 8) (pa_cons (pv 9) (pa_cons (pv 10) (pa_cons (pv 12) pa_nil))))) (pss_one (ps_ret pe_bl)))
  (qss_cons (qs_if (QW.qt (qw_or (qt_not (qt_val (qe_seen G__law_seen (hr.mono (by decide)) m__law_seen k__law_seen b__law_seen (ql_meth0 Y.c m_waiting G_waiting (hr.mono (by decide)) b_waiting (pv 6) yf_waiting) (qd_v (pv 8))))) (qw_or1 (qt_not (qt_val (qe_seen G__law_seen (hr.mono (by decide)) m__law_seen k__law_seen b__law_seen (ql_meth0 Y.c m_gone G_gone (hr.mono (by decide)) b_gone (pv 6) yf_gone) (qd_v (pv 10)))))))) (qss_one (qs_ret qe_bl)) qss_nil)
  (qss_one (qs_if (QW.qt (qw_and (qt_leLt qe_int (qe_ix (qi_v 12) qe_int (fun _ _ => rfl)) (qe_len (qi_v 1) M.len)) (qw_and1 (qt_not (qt_val (qe_seen G__law_seen (hr.mono (by decide)) m__law_seen k__law_seen b__law_seen (ql_meth1 Y.c m_standing G_standing (hr.mono (by decide)) b_standing (pv 6) (qa_cons (qe_ix (qi_v 12) qe_int (fun _ _ => rfl)) qa_nil) yf_standing) (qd_ix2 (qe_ix (qi_v 12) qe_int (fun _ _ => rfl)) (pv 9) (fun _ _ => rfl)))))))) (qss_one (qs_ret qe_bl)) qss_nil))))))
  (qss_cons (qs_forR1 (j := 13) PassesOwn.never rfl sc.nd rfl (by first | exact Or.inl rfl | exact Or.inr rfl) M.range (qa_cons (qe_len (qi_v 1) M.len) qa_nil) (qss_one (qs_if (qt_not (qt_val (qe_seen G__law_seen (hr.mono (by decide)) m__law_seen k__law_seen b__law_seen (ql_meth1 Y.c m_standing G_standing (hr.mono (by decide)) b_standing (pv 6) (qa_cons (qv 13) qa_nil) yf_standing) (qd_ix2 (qv 13) (pv 9) (fun _ _ => rfl))))) (qss_one (qs_ret qe_bl)) qss_nil)))
  (qss_cons (qs_if (QW.qt (qw_or (qt_not (qt_val (qe_refused G__law_refused_look (hr.mono (by decide)) m__law_refused_look k__law_refused_look b__law_refused_look (pv 6) (qe_len (qi_v 1) M.len)))) (qw_or1 (qt_not (qt_val (qe_refused G__law_refused_look (hr.mono (by decide)) m__law_refused_look k__law_refused_look b__law_refused_look (pv 6) (qe_neg qe_int))))))) (qss_one (qs_ret qe_bl)) qss_nil)
  (qss_cons (qs_forR1 (j := 13) PassesOwn.never rfl sc.nd rfl (by first | exact Or.inl rfl | exact Or.inr rfl) M.range (qa_cons (qe_len (qi_v 1) M.len) qa_nil) (qss_one (qs_if (qt_neD hr.units (qe_ofL (ql_meth1 Y.c m_standing G_standing (hr.mono (by decide)) b_standing (pv 7) (qa_cons (qv 13) qa_nil) yf_standing)) (qe_ofL (ql_lst qa_nil))) (qss_one (qs_ret qe_bl)) qss_nil)))
  (qss_cons (qs_if (QW.qt (qw_or (qt_neD hr.units (qe_ofL (ql_meth0 Y.c m_waiting G_waiting (hr.mono (by decide)) b_waiting (pv 7) yf_waiting)) (qe_ofL (ql_rev (qs_v 4)))) (qw_or1 (qt_neD hr.units (qe_ofL (ql_meth0 Y.c m_gone G_gone (hr.mono (by decide)) b_gone (pv 7) yf_gone)) (qe_ofL (ql_lst qa_nil)))))) (qss_one (qs_ret qe_bl)) qss_nil)
  (qss_one (qs_retT (qe_and (qe_seen G__law_seen (hr.mono (by decide)) m__law_seen k__law_seen b__law_seen (ql_meth0 Y.c m_waiting G_waiting (hr.mono (by decide)) b_waiting (pv 6) yf_waiting) (qd_v (pv 8))) (qe_one (qe_seen G__law_seen (hr.mono (by decide)) m__law_seen k__law_seen b__law_seen (ql_meth0 Y.c m_gone G_gone (hr.mono (by decide)) b_gone (pv 6) yf_gone) (qd_v (pv 10))))))))))))))))))))))))))⟩
end
theorem all_mk_ {l : PySem.W.OpenLaw} {w : World} {K : PySem.W.Frag} {h : Heap} {mg : Str → Option Value} {fa f1 f2 f3 f4 f5 f6 f7 f8 f9 f10 : Addr} (X : K.In h) (G : h.Ns mainGlobals mg) (hfa : mg "law" = some (.ref fa))
    {od1 an1 od2 an2 od3 an3 od4 an4 od5 an5 od6 an6 od7 an7 od8 an8 od9 an9 od10 an10 : Option Addr} {sl1 sl2 sl3 sl4 sl5 sl6 sl7 sl8 sl9 sl10 : Array (Option Value)} {oc1 kV1 dc1 pm1 cd1 ct1 oc2 kV2 dc2 pm2 cd2 ct2 oc3 kV3 dc3 pm3 cd3 ct3 oc4 kV4 dc4 pm4 cd4 ct4 oc5 kV5 dc5 pm5 cd5 ct5 oc6 kV6 dc6 pm6 cd6 ct6 oc7 kV7 dc7 pm7 cd7 ct7 oc8 kV8 dc8 pm8 cd8 ct8 oc9 kV9 dc9 pm9 cd9 ct9 oc10 kV10 dc10 pm10 cd10 ct10 : Value}
    (a1 : PySem.W.nsIn K mainGlobals "_law_cell_at" = some (some (.ref f1))) (l1 : K.lookup f1 = some ⟨oc1, od1, .func (PySem.W.fnOf "_law_cell_at" "_law_cell_at" (defArgs s__law_cell_at) (defBody s__law_cell_at) (defScope s__law_cell_at) .none kV1 dc1 pm1 an1 cd1 ct1), sl1⟩) (c1 : PySem.W.codeIn K cd1 "_law_cell_at" = true) (k1 : PySem.W.keepIn K (.ref f1) = true)
    (a2 : PySem.W.nsIn K mainGlobals "_law_kinds" = some (some (.ref f2))) (l2 : K.lookup f2 = some ⟨oc2, od2, .func (PySem.W.fnOf "_law_kinds" "_law_kinds" (defArgs s__law_kinds) (defBody s__law_kinds) (defScope s__law_kinds) .none kV2 dc2 pm2 an2 cd2 ct2), sl2⟩) (c2 : PySem.W.codeIn K cd2 "_law_kinds" = true) (k2 : PySem.W.keepIn K (.ref f2) = true)
    (a3 : PySem.W.nsIn K mainGlobals "_law_deed" = some (some (.ref f3))) (l3 : K.lookup f3 = some ⟨oc3, od3, .func (PySem.W.fnOf "_law_deed" "_law_deed" (defArgs s__law_deed) (defBody s__law_deed) (defScope s__law_deed) .none kV3 dc3 pm3 an3 cd3 ct3), sl3⟩) (c3 : PySem.W.codeIn K cd3 "_law_deed" = true) (k3 : PySem.W.keepIn K (.ref f3) = true)
    (a4 : PySem.W.nsIn K mainGlobals "_law_told" = some (some (.ref f4))) (l4 : K.lookup f4 = some ⟨oc4, od4, .func (PySem.W.fnOf "_law_told" "_law_told" (defArgs s__law_told) (defBody s__law_told) (defScope s__law_told) .none kV4 dc4 pm4 an4 cd4 ct4), sl4⟩) (c4 : PySem.W.codeIn K cd4 "_law_told" = true) (k4 : PySem.W.keepIn K (.ref f4) = true)
    (a5 : PySem.W.nsIn K mainGlobals "_law_due" = some (some (.ref f5))) (l5 : K.lookup f5 = some ⟨oc5, od5, .func (PySem.W.fnOf "_law_due" "_law_due" (defArgs s__law_due) (defBody s__law_due) (defScope s__law_due) .none kV5 dc5 pm5 an5 cd5 ct5), sl5⟩) (c5 : PySem.W.codeIn K cd5 "_law_due" = true) (k5 : PySem.W.keepIn K (.ref f5) = true)
    (a6 : PySem.W.nsIn K mainGlobals "_law_whole" = some (some (.ref f6))) (l6 : K.lookup f6 = some ⟨oc6, od6, .func (PySem.W.fnOf "_law_whole" "_law_whole" (defArgs s__law_whole) (defBody s__law_whole) (defScope s__law_whole) .none kV6 dc6 pm6 an6 cd6 ct6), sl6⟩) (c6 : PySem.W.codeIn K cd6 "_law_whole" = true) (k6 : PySem.W.keepIn K (.ref f6) = true)
    (a7 : PySem.W.nsIn K mainGlobals "_law_wagons" = some (some (.ref f7))) (l7 : K.lookup f7 = some ⟨oc7, od7, .func (PySem.W.fnOf "_law_wagons" "_law_wagons" (defArgs s__law_wagons) (defBody s__law_wagons) (defScope s__law_wagons) .none kV7 dc7 pm7 an7 cd7 ct7), sl7⟩) (c7 : PySem.W.codeIn K cd7 "_law_wagons" = true) (k7 : PySem.W.keepIn K (.ref f7) = true)
    (a8 : PySem.W.nsIn K mainGlobals "_law_seen" = some (some (.ref f8))) (l8 : K.lookup f8 = some ⟨oc8, od8, .func (PySem.W.fnOf "_law_seen" "_law_seen" (defArgs s__law_seen) (defBody s__law_seen) (defScope s__law_seen) .none kV8 dc8 pm8 an8 cd8 ct8), sl8⟩) (c8 : PySem.W.codeIn K cd8 "_law_seen" = true) (k8 : PySem.W.keepIn K (.ref f8) = true)
    (a9 : PySem.W.nsIn K mainGlobals "_law_refused_look" = some (some (.ref f9))) (l9 : K.lookup f9 = some ⟨oc9, od9, .func (PySem.W.fnOf "_law_refused_look" "_law_refused_look" (defArgs s__law_refused_look) (defBody s__law_refused_look) (defScope s__law_refused_look) .none kV9 dc9 pm9 an9 cd9 ct9), sl9⟩) (c9 : PySem.W.codeIn K cd9 "_law_refused_look" = true) (k9 : PySem.W.keepIn K (.ref f9) = true)
    (a10 : PySem.W.nsIn K mainGlobals "law" = some (some (.ref f10))) (l10 : K.lookup f10 = some ⟨oc10, od10, .func (PySem.W.fnOf "law" "law" (defArgs s_law) (defBody s_law) (defScope s_law) .none kV10 dc10 pm10 an10 cd10 ct10), sl10⟩) (c10 : PySem.W.codeIn K cd10 "law" = true) (k10 : PySem.W.keepIn K (.ref f10) = true)
    {yC yf0 yf1 yf2 yf3 yf4 yf5 yf6 : Addr}
    {yod0 yan0 yod1 yan1 yod2 yan2 yod3 yan3 yod4 yan4 yod5 yan5 yod6 yan6 : Option Addr} {ysl0 ysl1 ysl2 ysl3 ysl4 ysl5 ysl6 : Array (Option Value)} {yoc0 ykV0 ydc0 ypm0 ycd0 yct0 yoc1 ykV1 ydc1 ypm1 ycd1 yct1 yoc2 ykV2 ydc2 ypm2 ycd2 yct2 yoc3 ykV3 ydc3 ypm3 ycd3 yct3 yoc4 ykV4 ydc4 ypm4 ycd4 yct4 yoc5 ykV5 ydc5 ypm5 ycd5 yct5 yoc6 ykV6 ydc6 ypm6 ycd6 yct6 : Value}
    (ygC : PySem.W.nsIn K mainGlobals "Yard" = some (some (.ref yC)))
    (ya0 : PySem.W.findIn K (.ref yC) "__init__" = some (some (.ref yf0)))
    (yi0 : PySem.W.isFn K (.ref yf0) = true)
    (yl0 : K.lookup yf0 = some ⟨yoc0, yod0, .func (PySem.W.fnOf "__init__" "Yard.__init__" (defArgs y_init) (defBody y_init) (defScope y_init) .none ykV0 ydc0 ypm0 yan0 ycd0 yct0), ysl0⟩)
    (yc0 : PySem.W.codeIn K ycd0 "Yard.__init__" = true)
    (yk0 : PySem.W.keepIn K (.ref yf0) = true)
    (ya1 : PySem.W.findIn K (.ref yC) "look" = some (some (.ref yf1)))
    (yi1 : PySem.W.isFn K (.ref yf1) = true)
    (yl1 : K.lookup yf1 = some ⟨yoc1, yod1, .func (PySem.W.fnOf "look" "Yard.look" (defArgs y_look) (defBody y_look) (defScope y_look) .none ykV1 ydc1 ypm1 yan1 ycd1 yct1), ysl1⟩)
    (yc1 : PySem.W.codeIn K ycd1 "Yard.look" = true)
    (yk1 : PySem.W.keepIn K (.ref yf1) = true)
    (ya2 : PySem.W.findIn K (.ref yC) "enter" = some (some (.ref yf2)))
    (yi2 : PySem.W.isFn K (.ref yf2) = true)
    (yl2 : K.lookup yf2 = some ⟨yoc2, yod2, .func (PySem.W.fnOf "enter" "Yard.enter" (defArgs y_enter) (defBody y_enter) (defScope y_enter) .none ykV2 ydc2 ypm2 yan2 ycd2 yct2), ysl2⟩)
    (yc2 : PySem.W.codeIn K ycd2 "Yard.enter" = true)
    (yk2 : PySem.W.keepIn K (.ref yf2) = true)
    (ya3 : PySem.W.findIn K (.ref yC) "leave" = some (some (.ref yf3)))
    (yi3 : PySem.W.isFn K (.ref yf3) = true)
    (yl3 : K.lookup yf3 = some ⟨yoc3, yod3, .func (PySem.W.fnOf "leave" "Yard.leave" (defArgs y_leave) (defBody y_leave) (defScope y_leave) .none ykV3 ydc3 ypm3 yan3 ycd3 yct3), ysl3⟩)
    (yc3 : PySem.W.codeIn K ycd3 "Yard.leave" = true)
    (yk3 : PySem.W.keepIn K (.ref yf3) = true)
    (ya4 : PySem.W.findIn K (.ref yC) "waiting" = some (some (.ref yf4)))
    (yi4 : PySem.W.isFn K (.ref yf4) = true)
    (yl4 : K.lookup yf4 = some ⟨yoc4, yod4, .func (PySem.W.fnOf "waiting" "Yard.waiting" (defArgs y_waiting) (defBody y_waiting) (defScope y_waiting) .none ykV4 ydc4 ypm4 yan4 ycd4 yct4), ysl4⟩)
    (yc4 : PySem.W.codeIn K ycd4 "Yard.waiting" = true)
    (yk4 : PySem.W.keepIn K (.ref yf4) = true)
    (ya5 : PySem.W.findIn K (.ref yC) "standing" = some (some (.ref yf5)))
    (yi5 : PySem.W.isFn K (.ref yf5) = true)
    (yl5 : K.lookup yf5 = some ⟨yoc5, yod5, .func (PySem.W.fnOf "standing" "Yard.standing" (defArgs y_standing) (defBody y_standing) (defScope y_standing) .none ykV5 ydc5 ypm5 yan5 ycd5 yct5), ysl5⟩)
    (yc5 : PySem.W.codeIn K ycd5 "Yard.standing" = true)
    (yk5 : PySem.W.keepIn K (.ref yf5) = true)
    (ya6 : PySem.W.findIn K (.ref yC) "gone" = some (some (.ref yf6)))
    (yi6 : PySem.W.isFn K (.ref yf6) = true)
    (yl6 : K.lookup yf6 = some ⟨yoc6, yod6, .func (PySem.W.fnOf "gone" "Yard.gone" (defArgs y_gone) (defBody y_gone) (defScope y_gone) .none ykV6 ydc6 ypm6 yan6 ycd6 yct6), ysl6⟩)
    (yc6 : PySem.W.codeIn K ycd6 "Yard.gone" = true)
    (yk6 : PySem.W.keepIn K (.ref yf6) = true)
    (ypg : PySem.W.plainGet K yC Str.empty = true)
    (yhd : PySem.W.hasDictIn K yC = true)
    (ypo : PySem.W.plainOver K yC = true)
    (ysa : PySem.W.findIn K (.ref yC) "__setattr__" = some (some (.builtin "object.__setattr__")))
    (ymk : PySem.W.makesIn K yC = true)
    (ykc : PySem.W.keepIn K (.ref yC) = true)
    (yn0 : PySem.W.findIn K (.ref yC) "kinds" = some none)
    (yn1 : PySem.W.findIn K (.ref yC) "rest" = some none)
    (yn2 : PySem.W.findIn K (.ref yC) "tracks" = some none)
    (yn3 : PySem.W.findIn K (.ref yC) "departed" = some none)
    {xA0 xA1 xA2 xA3 xY : Addr}
    (eg0 : PySem.W.nsIn K mainGlobals "NoTrack" = some (some (.ref xA0)))
    (eg1 : PySem.W.nsIn K mainGlobals "NoneWaiting" = some (some (.ref xA1)))
    (eg2 : PySem.W.nsIn K mainGlobals "TrackEmpty" = some (some (.ref xA2)))
    (eg3 : PySem.W.nsIn K mainGlobals "NoPlan" = some (some (.ref xA3)))
    (egY : PySem.W.nsIn K mainGlobals "YardError" = some (some (.ref xY)))
    (ex0 : PySem.W.excIn K xA0 [.type "ValueError", .type "Exception", .type "BaseException", .type "object"] "ValueError.__new__" = true)
    (ek0 : PySem.W.keepIn K (.ref xA0) = true)
    (eb0 : PySem.W.subIn K (.ref xA0) (.type "BaseException") = some true)
    (et0 : PySem.W.typeIn K (.ref xA0) = some (.type "type"))
    (ec0 : PySem.W.isClsIn K xA0 = true)
    (eG0 : PySem.W.findIn K (.ref xA0) "__getattribute__" = some (some (.builtin "BaseException.__getattribute__")))
    (eA0 : PySem.W.findIn K (.ref xA0) "__getattr__" = some none)
    (eh0 : PySem.W.hasDictIn K xA0 = true)
    (eC0 : PySem.W.findIn K (.ref xA0) "__class__" = some (some (.builtin "object.__class__")))
    (em0 : PySem.W.mroIn K xA0 (.type "object") = some true)
    (ey0 : PySem.W.subIn K (.ref xA0) (.ref xY) = some true)
    (ev0 : PySem.W.subIn K (.ref xA0) (.type "ValueError") = some true)
    (es00 : PySem.W.subIn K (.ref xA0) (.ref xA0) = some true)
    (es01 : PySem.W.subIn K (.ref xA0) (.ref xA1) = some false)
    (es02 : PySem.W.subIn K (.ref xA0) (.ref xA2) = some false)
    (es03 : PySem.W.subIn K (.ref xA0) (.ref xA3) = some false)
    (ex1 : PySem.W.excIn K xA1 [.type "ValueError", .type "Exception", .type "BaseException", .type "object"] "ValueError.__new__" = true)
    (ek1 : PySem.W.keepIn K (.ref xA1) = true)
    (eb1 : PySem.W.subIn K (.ref xA1) (.type "BaseException") = some true)
    (et1 : PySem.W.typeIn K (.ref xA1) = some (.type "type"))
    (ec1 : PySem.W.isClsIn K xA1 = true)
    (eG1 : PySem.W.findIn K (.ref xA1) "__getattribute__" = some (some (.builtin "BaseException.__getattribute__")))
    (eA1 : PySem.W.findIn K (.ref xA1) "__getattr__" = some none)
    (eh1 : PySem.W.hasDictIn K xA1 = true)
    (eC1 : PySem.W.findIn K (.ref xA1) "__class__" = some (some (.builtin "object.__class__")))
    (em1 : PySem.W.mroIn K xA1 (.type "object") = some true)
    (ey1 : PySem.W.subIn K (.ref xA1) (.ref xY) = some true)
    (ev1 : PySem.W.subIn K (.ref xA1) (.type "ValueError") = some true)
    (es10 : PySem.W.subIn K (.ref xA1) (.ref xA0) = some false)
    (es11 : PySem.W.subIn K (.ref xA1) (.ref xA1) = some true)
    (es12 : PySem.W.subIn K (.ref xA1) (.ref xA2) = some false)
    (es13 : PySem.W.subIn K (.ref xA1) (.ref xA3) = some false)
    (ex2 : PySem.W.excIn K xA2 [.type "ValueError", .type "Exception", .type "BaseException", .type "object"] "ValueError.__new__" = true)
    (ek2 : PySem.W.keepIn K (.ref xA2) = true)
    (eb2 : PySem.W.subIn K (.ref xA2) (.type "BaseException") = some true)
    (et2 : PySem.W.typeIn K (.ref xA2) = some (.type "type"))
    (ec2 : PySem.W.isClsIn K xA2 = true)
    (eG2 : PySem.W.findIn K (.ref xA2) "__getattribute__" = some (some (.builtin "BaseException.__getattribute__")))
    (eA2 : PySem.W.findIn K (.ref xA2) "__getattr__" = some none)
    (eh2 : PySem.W.hasDictIn K xA2 = true)
    (eC2 : PySem.W.findIn K (.ref xA2) "__class__" = some (some (.builtin "object.__class__")))
    (em2 : PySem.W.mroIn K xA2 (.type "object") = some true)
    (ey2 : PySem.W.subIn K (.ref xA2) (.ref xY) = some true)
    (ev2 : PySem.W.subIn K (.ref xA2) (.type "ValueError") = some true)
    (es20 : PySem.W.subIn K (.ref xA2) (.ref xA0) = some false)
    (es21 : PySem.W.subIn K (.ref xA2) (.ref xA1) = some false)
    (es22 : PySem.W.subIn K (.ref xA2) (.ref xA2) = some true)
    (es23 : PySem.W.subIn K (.ref xA2) (.ref xA3) = some false)
    (ex3 : PySem.W.excIn K xA3 [.type "ValueError", .type "Exception", .type "BaseException", .type "object"] "ValueError.__new__" = true)
    (ek3 : PySem.W.keepIn K (.ref xA3) = true)
    (eb3 : PySem.W.subIn K (.ref xA3) (.type "BaseException") = some true)
    (et3 : PySem.W.typeIn K (.ref xA3) = some (.type "type"))
    (ec3 : PySem.W.isClsIn K xA3 = true)
    (eG3 : PySem.W.findIn K (.ref xA3) "__getattribute__" = some (some (.builtin "BaseException.__getattribute__")))
    (eA3 : PySem.W.findIn K (.ref xA3) "__getattr__" = some none)
    (eh3 : PySem.W.hasDictIn K xA3 = true)
    (eC3 : PySem.W.findIn K (.ref xA3) "__class__" = some (some (.builtin "object.__class__")))
    (em3 : PySem.W.mroIn K xA3 (.type "object") = some true)
    (ey3 : PySem.W.subIn K (.ref xA3) (.ref xY) = some true)
    (ev3 : PySem.W.subIn K (.ref xA3) (.type "ValueError") = some true)
    (es30 : PySem.W.subIn K (.ref xA3) (.ref xA0) = some false)
    (es31 : PySem.W.subIn K (.ref xA3) (.ref xA1) = some false)
    (es32 : PySem.W.subIn K (.ref xA3) (.ref xA2) = some false)
    (es33 : PySem.W.subIn K (.ref xA3) (.ref xA3) = some true)
    (eN : PySem.W.specialIn K (.builtin "object.__class__") "__get__" = some (some (.builtin "getset_descriptor.__get__")))
    (eT : PySem.W.takesIn K (.builtin "object.__class__") = some true)
    (eYh : PySem.W.hasDictIn K xY = true)
    (eYb : PySem.W.subIn K (.ref xY) (.type "BaseException") = some true)
    (eYt : PySem.W.typeIn K (.ref xY) = some (.type "type"))
    (eV : PySem.W.nsIn K mainGlobals "ValueError" = some none)
    (z0 : PySem.W.nsIn K mainGlobals "len" = some none) (z1 : PySem.W.nsIn K mainGlobals "range" = some none) (z2 : PySem.W.nsIn K mainGlobals "list" = some none) (z3 : PySem.W.nsIn K mainGlobals "sorted" = some none) (z4 : PySem.W.nsIn K mainGlobals "min" = some none) (z5 : PySem.W.nsIn K mainGlobals "max" = some none) (z6 : PySem.W.nsIn K mainGlobals "isinstance" = some none) (z7 : PySem.W.nsIn K mainGlobals "int" = some none) (z8 : PySem.W.nsIn K mainGlobals "bool" = some none) (z9 : PySem.W.nsIn K mainGlobals "tuple" = some none) (z10 : PySem.W.nsIn K mainGlobals "str" = some none) (z11 : PySem.W.nsIn K mainGlobals "all" = some none) (z12 : PySem.W.nsIn K mainGlobals "set" = some none)
    : ∃ fd : FuncData, (∀ (s : Shared) (v : Value), BindsTo s fd ⟨[v], []⟩ [("script", v)]) ∧ ∀ base : Heap, K.In base → base.Ns mainGlobals mg → FnOk l.prog w K mg base CX0 4 fa fd ["script"] (liftSp K sp_law) := by
  have e := hfa.symm.trans (PySem.W.mg_of X G a10)
  cases e
  have M : Bt mg := ⟨PySem.W.mg_none_of X G z0, PySem.W.mg_none_of X G z1, PySem.W.mg_none_of X G z2, PySem.W.mg_none_of X G z3, PySem.W.mg_none_of X G z4, PySem.W.mg_none_of X G z5, PySem.W.mg_none_of X G z6, PySem.W.mg_none_of X G z7, PySem.W.mg_none_of X G z8, PySem.W.mg_none_of X G z9, PySem.W.mg_none_of X G z10, PySem.W.mg_none_of X G z11, PySem.W.mg_none_of X G z12⟩
  have T : ErrTab K mg (clOf xA0 xA1 xA2 xA3) xY := ⟨
    fun i hi => match i, hi with | 0, _ => ⟨PySem.W.mg_of X G eg0, ex0, ek0, eb0, et0⟩ | 1, _ => ⟨PySem.W.mg_of X G eg1, ex1, ek1, eb1, et1⟩ | 2, _ => ⟨PySem.W.mg_of X G eg2, ex2, ek2, eb2, et2⟩ | 3, _ => ⟨PySem.W.mg_of X G eg3, ex3, ek3, eb3, et3⟩ | n + 4, h => absurd h (by omega),
    fun i hi => match i, hi with | 0, _ => ⟨eG0, eA0, eb0, eh0, eC0, eN, eT, em0⟩ | 1, _ => ⟨eG1, eA1, eb1, eh1, eC1, eN, eT, em1⟩ | 2, _ => ⟨eG2, eA2, eb2, eh2, eC2, eN, eT, em2⟩ | 3, _ => ⟨eG3, eA3, eb3, eh3, eC3, eN, eT, em3⟩ | n + 4, h => absurd h (by omega),
    fun i hi => match i, hi with | 0, _ => ec0 | 1, _ => ec1 | 2, _ => ec2 | 3, _ => ec3 | n + 4, h => absurd h (by omega),
    fun i j hi hj => match i, j, hi, hj with | 0, 0, _, _ => es00 | 0, 1, _, _ => es01 | 0, 2, _, _ => es02 | 0, 3, _, _ => es03 | 1, 0, _, _ => es10 | 1, 1, _, _ => es11 | 1, 2, _, _ => es12 | 1, 3, _, _ => es13 | 2, 0, _, _ => es20 | 2, 1, _, _ => es21 | 2, 2, _, _ => es22 | 2, 3, _, _ => es23 | 3, 0, _, _ => es30 | 3, 1, _, _ => es31 | 3, 2, _, _ => es32 | 3, 3, _, _ => es33 | n + 4, _, h, _ => absurd h (by omega) | _, n + 4, _, h => absurd h (by omega),
    PySem.W.mg_of X G egY, eYh, eYb, eYt,
    fun i hi => match i, hi with | 0, _ => ey0 | 1, _ => ey1 | 2, _ => ey2 | 3, _ => ey3 | n + 4, h => absurd h (by omega),
    PySem.W.mg_none_of X G eV,
    fun i hi => match i, hi with | 0, _ => ev0 | 1, _ => ev1 | 2, _ => ev2 | 3, _ => ev3 | n + 4, h => absurd h (by omega)⟩
  have F1 := fun_mk (st := s__law_cell_at) l1 c1 k1
  have b1 := F1.binds (ps := ["script", "k"]) fun _ _ _ _ _ _ us hl => match us, hl with | [_, _], _ => rfl
  have F2 := fun_mk (st := s__law_kinds) l2 c2 k2
  have b2 := F2.binds (ps := ["script"]) fun _ _ _ _ _ _ us hl => match us, hl with | [_], _ => rfl
  have F3 := fun_mk (st := s__law_deed) l3 c3 k3
  have b3 := F3.binds (ps := ["cell", "count"]) fun _ _ _ _ _ _ us hl => match us, hl with | [_, _], _ => rfl
  have F4 := fun_mk (st := s__law_told) l4 c4 k4
  have b4 := F4.binds (ps := ["yard", "deed"]) fun _ _ _ _ _ _ us hl => match us, hl with | [_, _], _ => rfl
  have F5 := fun_mk (st := s__law_due) l5 c5 k5
  have b5 := F5.binds (ps := ["kinds", "rest", "tracks", "behind", "deed"]) fun _ _ _ _ _ _ us hl => match us, hl with | [_, _, _, _, _], _ => rfl
  have F6 := fun_mk (st := s__law_whole) l6 c6 k6
  have b6 := F6.binds (ps := ["found"]) fun _ _ _ _ _ _ us hl => match us, hl with | [_], _ => rfl
  have F7 := fun_mk (st := s__law_wagons) l7 c7 k7
  have b7 := F7.binds (ps := ["found"]) fun _ _ _ _ _ _ us hl => match us, hl with | [_], _ => rfl
  have F8 := fun_mk (st := s__law_seen) l8 c8 k8
  have b8 := F8.binds (ps := ["found", "due"]) fun _ _ _ _ _ _ us hl => match us, hl with | [_, _], _ => rfl
  have F9 := fun_mk (st := s__law_refused_look) l9 c9 k9
  have b9 := F9.binds (ps := ["yard", "track"]) fun _ _ _ _ _ _ us hl => match us, hl with | [_, _], _ => rfl
  have F10 := fun_mk (st := s_law) l10 c10 k10
  refine ⟨PySem.W.fnOf "law" "law" (defArgs s_law) (defBody s_law) (defScope s_law) .none kV10 dc10 pm10 an10 cd10 ct10, fun s v => .of_eq rfl, fun base _ _ => ?_⟩
  have Y : YTab K mg yC := ⟨⟨ypg, yhd, ypo, ysa⟩, yn0, yn1, yn2, yn3⟩
  have yF0 := fun_mk (st := y_init) yl0 yc0 yk0
  have yb0 := yF0.binds (ps := ["self", "kinds", "row"]) fun _ _ _ _ _ _ us hl => match us, hl with | [_, _, _], _ => rfl
  have yF1 := fun_mk (st := y_look) yl1 yc1 yk1
  have yb1 := yF1.binds (ps := ["self", "track"]) fun _ _ _ _ _ _ us hl => match us, hl with | [_, _], _ => rfl
  have yF2 := fun_mk (st := y_enter) yl2 yc2 yk2
  have yb2 := yF2.binds (ps := ["self", "track"]) fun _ _ _ _ _ _ us hl => match us, hl with | [_, _], _ => rfl
  have yF3 := fun_mk (st := y_leave) yl3 yc3 yk3
  have yb3 := yF3.binds (ps := ["self", "track"]) fun _ _ _ _ _ _ us hl => match us, hl with | [_, _], _ => rfl
  have yF4 := fun_mk (st := y_waiting) yl4 yc4 yk4
  have yb4 := yF4.binds (ps := ["self"]) fun _ _ _ _ _ _ us hl => match us, hl with | [_], _ => rfl
  have yF5 := fun_mk (st := y_standing) yl5 yc5 yk5
  have yb5 := yF5.binds (ps := ["self", "track"]) fun _ _ _ _ _ _ us hl => match us, hl with | [_, _], _ => rfl
  have yF6 := fun_mk (st := y_gone) yl6 yc6 yk6
  have yb6 := yF6.binds (ps := ["self"]) fun _ _ _ _ _ _ us hl => match us, hl with | [_], _ => rfl
  have yM : Mk K yC yf0 := ⟨ymk, ya0, yi0, ykc⟩
  have ym1 : Meth K yC "look" yf1 := ⟨ya1, yi1, yk1⟩
  have ym2 : Meth K yC "enter" yf2 := ⟨ya2, yi2, yk2⟩
  have ym3 : Meth K yC "leave" yf3 := ⟨ya3, yi3, yk3⟩
  have ym4 : Meth K yC "waiting" yf4 := ⟨ya4, yi4, yk4⟩
  have ym5 : Meth K yC "standing" yf5 := ⟨ya5, yi5, yk5⟩
  have ym6 : Meth K yC "gone" yf6 := ⟨ya6, yi6, yk6⟩
  have yG0 := ok_init (P := l.prog) (w := w) (base := base) M Y yF0
  have yG1 := ok_look (P := l.prog) (w := w) (base := base) T M Y yF1
  have yG2 := ok_enter (P := l.prog) (w := w) (base := base) T M Y yG1 ym1 yb1 yF2
  have yG3 := ok_leave (P := l.prog) (w := w) (base := base) T M Y yG1 ym1 yb1 yF3
  have yG4 := ok_waiting (P := l.prog) (w := w) (base := base) (cl := clOf xA0 xA1 xA2 xA3) M Y yF4
  have yG5 := ok_standing (P := l.prog) (w := w) (base := base) M Y yG1 ym1 yb1 yF5
  have yG6 := ok_gone (P := l.prog) (w := w) (base := base) (cl := clOf xA0 xA1 xA2 xA3) M Y yF6
  have h1 := has_mk F1 (ok__law_cell_at (P := l.prog) (w := w) (base := base) M  F1) (PySem.W.mg_of X G a1) b1
  have h2 := has_mk F2 (ok__law_kinds (P := l.prog) (w := w) (base := base) M h1 F2) (PySem.W.mg_of X G a2) b2
  have h3 := has_mk F3 (ok__law_deed (P := l.prog) (w := w) (base := base) M  F3) (PySem.W.mg_of X G a3) b3
  have h4 := hasR_mk F4 (yd_told (P := l.prog) (w := w) (base := base) T M Y yG2 ym2 yb2 yG3 ym3 yb3 F4) (PySem.W.mg_of X G a4) b4
  have h5 := hasR_mk F5 (yd_step (P := l.prog) (w := w) (base := base) M F5) (PySem.W.mg_of X G a5) b5
  have h6 := has_mk F6 (ok__law_whole (P := l.prog) (w := w) (base := base) M  F6) (PySem.W.mg_of X G a6) b6
  have h7 := has_mk F7 (ok__law_wagons (P := l.prog) (w := w) (base := base) M h6 F7) (PySem.W.mg_of X G a7) b7
  have h8 := hasR_mk F8 (yd_seen (P := l.prog) (w := w) (base := base) M h7 F8) (PySem.W.mg_of X G a8) b8
  have h9 := hasR_mk F9 (yd_refused (P := l.prog) (w := w) (base := base) T M Y yG5 ym5 yb5 F9) (PySem.W.mg_of X G a9) b9
  exact ok_law M Y (PySem.W.mg_of X G ygC) yM yG0 yb0 yG4 ym4 yb4 yG5 ym5 yb5 yG6 ym6 yb6 h2 h1 h3 h4 h5 h8 h9 F10
end DL
open PySem PySem.W PyProof.Rows
set_option maxRecDepth 100000 in
set_option maxHeartbeats 0 in
theorem PySem.Challenge.cw_shuntyard_k03_a_yard_deed_by_deed_holds : PySem.Challenge.rw_shuntyard_k03_a_yard_deed_by_deed.Holds := by
  w_on; o_law; k_head; (case hw => w_witness2)
  k_fill
  refine DL.walk_law (l := PySem.Challenge.rw_shuntyard_k03_a_yard_deed_by_deed) (k := 4) rfl ?hdf (fun w h Y => PySem.W.kIn_of Y) ?F ?hr
  case hdf => rfl
  case hr => exact ⟨rfl, by decide, by decide⟩
  case F =>
    intro w mg fa h KX G hmg
    refine' DL.all_mk_ KX G hmg ?a1 ?l1 ?c1 ?k1 ?a2 ?l2 ?c2 ?k2 ?a3 ?l3 ?c3 ?k3 ?a4 ?l4 ?c4 ?k4 ?a5 ?l5 ?c5 ?k5 ?a6 ?l6 ?c6 ?k6 ?a7 ?l7 ?c7 ?k7 ?a8 ?l8 ?c8 ?k8 ?a9 ?l9 ?c9 ?k9 ?a10 ?l10 ?c10 ?k10 ?ygC ?ya0 ?yi0 ?yl0 ?yc0 ?yk0 ?ya1 ?yi1 ?yl1 ?yc1 ?yk1 ?ya2 ?yi2 ?yl2 ?yc2 ?yk2 ?ya3 ?yi3 ?yl3 ?yc3 ?yk3 ?ya4 ?yi4 ?yl4 ?yc4 ?yk4 ?ya5 ?yi5 ?yl5 ?yc5 ?yk5 ?ya6 ?yi6 ?yl6 ?yc6 ?yk6 ?ypg ?yhd ?ypo ?ysa ?ymk ?ykc ?yn0 ?yn1 ?yn2 ?yn3 ?eg0 ?eg1 ?eg2 ?eg3 ?egY ?ex0 ?ek0 ?eb0 ?et0 ?ec0 ?eG0 ?eA0 ?eh0 ?eC0 ?em0 ?ey0 ?ev0 ?es00 ?es01 ?es02 ?es03 ?ex1 ?ek1 ?eb1 ?et1 ?ec1 ?eG1 ?eA1 ?eh1 ?eC1 ?em1 ?ey1 ?ev1 ?es10 ?es11 ?es12 ?es13 ?ex2 ?ek2 ?eb2 ?et2 ?ec2 ?eG2 ?eA2 ?eh2 ?eC2 ?em2 ?ey2 ?ev2 ?es20 ?es21 ?es22 ?es23 ?ex3 ?ek3 ?eb3 ?et3 ?ec3 ?eG3 ?eA3 ?eh3 ?eC3 ?em3 ?ey3 ?ev3 ?es30 ?es31 ?es32 ?es33 ?eN ?eT ?eYh ?eYb ?eYt ?eV ?z0 ?z1 ?z2 ?z3 ?z4 ?z5 ?z6 ?z7 ?z8 ?z9 ?z10 ?z11 ?z12
    (case a1 => k_is)
    (case l1 => k_is)
    (case c1 => k_is)
    (case k1 => k_is)
    (case a2 => k_is)
    (case l2 => k_is)
    (case c2 => k_is)
    (case k2 => k_is)
    (case a3 => k_is)
    (case l3 => k_is)
    (case c3 => k_is)
    (case k3 => k_is)
    (case a4 => k_is)
    (case l4 => k_is)
    (case c4 => k_is)
    (case k4 => k_is)
    (case a5 => k_is)
    (case l5 => k_is)
    (case c5 => k_is)
    (case k5 => k_is)
    (case a6 => k_is)
    (case l6 => k_is)
    (case c6 => k_is)
    (case k6 => k_is)
    (case a7 => k_is)
    (case l7 => k_is)
    (case c7 => k_is)
    (case k7 => k_is)
    (case a8 => k_is)
    (case l8 => k_is)
    (case c8 => k_is)
    (case k8 => k_is)
    (case a9 => k_is)
    (case l9 => k_is)
    (case c9 => k_is)
    (case k9 => k_is)
    (case a10 => k_is)
    (case l10 => k_is)
    (case c10 => k_is)
    (case k10 => k_is)
    (case ygC => k_is)
    (case ya0 => k_is)
    (case yi0 => k_is)
    (case yl0 => k_is)
    (case yc0 => k_is)
    (case yk0 => k_is)
    (case ya1 => k_is)
    (case yi1 => k_is)
    (case yl1 => k_is)
    (case yc1 => k_is)
    (case yk1 => k_is)
    (case ya2 => k_is)
    (case yi2 => k_is)
    (case yl2 => k_is)
    (case yc2 => k_is)
    (case yk2 => k_is)
    (case ya3 => k_is)
    (case yi3 => k_is)
    (case yl3 => k_is)
    (case yc3 => k_is)
    (case yk3 => k_is)
    (case ya4 => k_is)
    (case yi4 => k_is)
    (case yl4 => k_is)
    (case yc4 => k_is)
    (case yk4 => k_is)
    (case ya5 => k_is)
    (case yi5 => k_is)
    (case yl5 => k_is)
    (case yc5 => k_is)
    (case yk5 => k_is)
    (case ya6 => k_is)
    (case yi6 => k_is)
    (case yl6 => k_is)
    (case yc6 => k_is)
    (case yk6 => k_is)
    (case ypg => k_is)
    (case yhd => k_is)
    (case ypo => k_is)
    (case ysa => k_is)
    (case ymk => k_is)
    (case ykc => k_is)
    (case yn0 => k_is)
    (case yn1 => k_is)
    (case yn2 => k_is)
    (case yn3 => k_is)
    (case eg0 => k_is)
    (case eg1 => k_is)
    (case eg2 => k_is)
    (case eg3 => k_is)
    (case egY => k_is)
    (case ex0 => k_exc)
    (case ek0 => k_is)
    (case eb0 => k_is)
    (case et0 => k_is)
    (case ec0 => k_is)
    (case eG0 => k_is)
    (case eA0 => k_is)
    (case eh0 => k_is)
    (case eC0 => k_is)
    (case em0 => k_is)
    (case ey0 => k_is)
    (case ev0 => k_is)
    (case es00 => k_is)
    (case es01 => k_is)
    (case es02 => k_is)
    (case es03 => k_is)
    (case ex1 => k_exc)
    (case ek1 => k_is)
    (case eb1 => k_is)
    (case et1 => k_is)
    (case ec1 => k_is)
    (case eG1 => k_is)
    (case eA1 => k_is)
    (case eh1 => k_is)
    (case eC1 => k_is)
    (case em1 => k_is)
    (case ey1 => k_is)
    (case ev1 => k_is)
    (case es10 => k_is)
    (case es11 => k_is)
    (case es12 => k_is)
    (case es13 => k_is)
    (case ex2 => k_exc)
    (case ek2 => k_is)
    (case eb2 => k_is)
    (case et2 => k_is)
    (case ec2 => k_is)
    (case eG2 => k_is)
    (case eA2 => k_is)
    (case eh2 => k_is)
    (case eC2 => k_is)
    (case em2 => k_is)
    (case ey2 => k_is)
    (case ev2 => k_is)
    (case es20 => k_is)
    (case es21 => k_is)
    (case es22 => k_is)
    (case es23 => k_is)
    (case ex3 => k_exc)
    (case ek3 => k_is)
    (case eb3 => k_is)
    (case et3 => k_is)
    (case ec3 => k_is)
    (case eG3 => k_is)
    (case eA3 => k_is)
    (case eh3 => k_is)
    (case eC3 => k_is)
    (case em3 => k_is)
    (case ey3 => k_is)
    (case ev3 => k_is)
    (case es30 => k_is)
    (case es31 => k_is)
    (case es32 => k_is)
    (case es33 => k_is)
    (case eN => k_is)
    (case eT => k_is)
    (case eYh => k_is)
    (case eYb => k_is)
    (case eYt => k_is)
    (case eV => k_is)
    (case z0 => k_is)
    (case z1 => k_is)
    (case z2 => k_is)
    (case z3 => k_is)
    (case z4 => k_is)
    (case z5 => k_is)
    (case z6 => k_is)
    (case z7 => k_is)
    (case z8 => k_is)
    (case z9 => k_is)
    (case z10 => k_is)
    (case z11 => k_is)
    (case z12 => k_is)

