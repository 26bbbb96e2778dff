import PyProof.Rows.All
import Wide.All
import OpenK.AllK
import Wide.FinOn
import HandS.ForMost
import HandS.ForExc
import HandS.SortInts
import HandS.IsInst
import HandS.Style
import HandS.More
import HandS.Zip
import PySem.Challenge.RW_shuntyard_k11_what_two_stubs_can_sort
set_option Elab.async false
set_option linter.all false
set_option maxRecDepth 100000
set_option maxHeartbeats 4000000
/-! DL: readings over plain data. A: data, what stands for it, slots, states -/
namespace DL
open PySem L2

inductive D where
  | non | bl (b : Bool) | int (i : Int) | str (s : Str) | lst (xs : List D) | tup (xs : List D) | dct (m : List (Int × D)) | scr (ns : List Int)

def Ex (H H' : Hp) : Prop := ∀ a o, H a = some o → H' a = some o
theorem Ex.refl (H : Hp) : Ex H H := fun _ _ h => h
theorem Ex.trans {H H1 H2 : Hp} (a : Ex H H1) (b : Ex H1 H2) : Ex H H2 := fun x o h => b x o (a x o h)
theorem Ex.new {H : Hp} {p : Addr} {o : HO} (h : H p = none) : Ex H (upd H p o) := fun a u e => by
  rw [upd_ne (ne_of_none e h)]
  exact e
theorem Ex.mut {H H' : Hp} {p : Addr} {o : HO} (e : Ex H H') (h : H p = none) : Ex H (upd H' p o) := fun a u ha => by
  rw [upd_ne (ne_of_none ha h)]
  exact e a u ha
theorem Ex.back {H H' : Hp} {p : Addr} (e : Ex H H') (h : H' p = none) : H p = none := by
  cases h1 : H p with
  | none => rfl
  | some o =>
    rw [e p o h1] at h
    cases h
theorem Ex.seq {K : PySem.W.Frag} {H H' : Hp} {a : Addr} {xs : List V} (e : Ex H H') (h : SqL K H a xs) : SqL K H' a xs := by
  rcases h with (h | ⟨o, h⟩) | h
  · exact Or.inl (Or.inl (e a _ h))
  · exact Or.inl (Or.inr ⟨o, e a _ h⟩)
  · exact Or.inr h

/-! ### what stands for data -/
mutual
inductive Rep (K : PySem.W.Frag) (H : Hp) : V → D → Prop
  | non : Rep K H .non .non
  | bl (b : Bool) : Rep K H (.bl b) (.bl b)
  | int (i : Int) : Rep K H (.int i) (.int i)
  | str (x : Str) : Rep K H (.str x) (.str x)
  | lst {a : Addr} {vs : List V} {ds : List D} : H a = some (.lst vs) → RepL K H vs ds → Rep K H (.ref a) (.lst ds)
  | tup {a : Addr} {vs : List V} {ds : List D} : H a = some (.tup vs) → RepL K H vs ds → Rep K H (.ref a) (.tup ds)
  | dct {a : Addr} {kvs : List (Key × V)} {m : List (Int × D)} : H a = some (.dK kvs) → RepD K H kvs m → Rep K H (.ref a) (.dct m)
  | scr {a : Addr} {ns : List Int} : SqL K H a (ns.map V.int) → Rep K H (.ref a) (.scr ns)
inductive RepL (K : PySem.W.Frag) (H : Hp) : List V → List D → Prop
  | nil : RepL K H [] []
  | cons {v : V} {vs : List V} {d : D} {ds : List D} : Rep K H v d → RepL K H vs ds → RepL K H (v :: vs) (d :: ds)
inductive RepD (K : PySem.W.Frag) (H : Hp) : List (Key × V) → List (Int × D) → Prop
  | nil : RepD K H [] []
  | cons {k : Int} {v : V} {kvs : List (Key × V)} {d : D} {m : List (Int × D)} : Rep K H v d → RepD K H kvs m → RepD K H ((.inl k, v) :: kvs) ((k, d) :: m)
end
section
variable {K : PySem.W.Frag} {H H' F F' : Hp}
mutual
theorem Rep.mono (e : Ex H H') : ∀ (d : D) (v : V), Rep K H v d → Rep K H' v d
  | .non, _, h => by cases h; exact .non
  | .bl _, _, h => by cases h; exact .bl _
  | .int _, _, h => by cases h; exact .int _
  | .str _, _, h => by cases h; exact .str _
  | .lst ds, _, h => by
    cases h with
    | lst h1 h2 => exact .lst (e _ _ h1) (RepL.mono e ds _ h2)
  | .tup ds, _, h => by
    cases h with
    | tup h1 h2 => exact .tup (e _ _ h1) (RepL.mono e ds _ h2)
  | .dct m, _, h => by
    cases h with
    | dct h1 h2 => exact .dct (e _ _ h1) (RepD.mono e m _ h2)
  | .scr _, _, h => by
    cases h with
    | scr h1 => exact .scr (e.seq h1)
theorem RepL.mono (e : Ex H H') : ∀ (ds : List D) (vs : List V), RepL K H vs ds → RepL K H' vs ds
  | [], _, h => by cases h; exact .nil
  | d :: ds, _, h => by
    cases h with
    | cons h1 h2 => exact .cons (Rep.mono e d _ h1) (RepL.mono e ds _ h2)
theorem RepD.mono (e : Ex H H') : ∀ (m : List (Int × D)) (kvs : List (Key × V)), RepD K H kvs m → RepD K H' kvs m
  | [], _, h => by cases h; exact .nil
  | (k, d) :: m, _, h => by
    cases h with
    | cons h1 h2 => exact .cons (Rep.mono e d _ h1) (RepD.mono e m _ h2)
end
theorem Rep.up {d : D} {v : V} (h : Rep K H v d) (e : Ex H H') : Rep K H' v d := Rep.mono e d v h
theorem RepL.up {ds : List D} {vs : List V} (h : RepL K H vs ds) (e : Ex H H') : RepL K H' vs ds := RepL.mono e ds vs h
theorem RepD.up {m : List (Int × D)} {kvs : List (Key × V)} (h : RepD K H kvs m) (e : Ex H H') : RepD K H' kvs m := RepD.mono e m kvs h
theorem RepL.len : ∀ {ds : List D} {vs : List V}, RepL K H vs ds → vs.length = ds.length
  | [], _, h => by cases h; rfl
  | d :: ds, _, h => by
    cases h with
    | cons _ h2 => simp only [List.length_cons, RepL.len h2]
theorem RepL.get : ∀ {ds : List D} {vs : List V} {i : Nat} {d : D}, RepL K H vs ds → ds[i]? = some d → ∃ v, vs[i]? = some v ∧ Rep K H v d
  | [], _, _, _, _, e => by simp at e
  | _ :: _, _, 0, _, h, e => by
    cases h with
    | cons h1 _ =>
      simp only [List.getElem?_cons_zero, Option.some.injEq] at e
      subst e
      exact ⟨_, rfl, h1⟩
  | _ :: ds, _, i + 1, _, h, e => by
    cases h with
    | cons _ h2 =>
      simp only [List.getElem?_cons_succ] at e
      obtain ⟨v, e1, e2⟩ := RepL.get h2 e
      exact ⟨v, by simpa using e1, e2⟩
theorem RepL.append : ∀ {ds es : List D} {vs us : List V}, RepL K H vs ds → RepL K H us es → RepL K H (vs ++ us) (ds ++ es)
  | [], _, _, _, h, g => by cases h; exact g
  | _ :: _, _, _, _, h, g => by
    cases h with
    | cons h1 h2 => exact .cons h1 (RepL.append h2 g)
theorem RepL.one {v : V} {d : D} (h : Rep K H v d) : RepL K H [v] [d] := .cons h .nil
theorem RepL.set {v : V} {d : D} (h : Rep K H v d) : ∀ {ds : List D} {vs : List V} (i : Nat), RepL K H vs ds → RepL K H (vs.set i v) (ds.set i d)
  | [], _, _, h => by cases h; exact .nil
  | _ :: _, _, 0, g => by
    cases g with
    | cons _ h2 => exact .cons h h2
  | _ :: _, _, i + 1, g => by
    cases g with
    | cons h1 h2 => exact .cons h1 (RepL.set h i h2)
theorem RepL.take : ∀ {ds : List D} {vs : List V} (n : Nat), RepL K H vs ds → RepL K H (vs.take n) (ds.take n)
  | [], _, n, h => by cases h; simp; exact .nil
  | _ :: _, _, 0, _ => .nil
  | _ :: _, _, n + 1, h => by
    cases h with
    | cons h1 h2 => exact .cons h1 (RepL.take n h2)
theorem RepL.drop : ∀ {ds : List D} {vs : List V} (n : Nat), RepL K H vs ds → RepL K H (vs.drop n) (ds.drop n)
  | [], _, n, h => by cases h; simp; exact .nil
  | _ :: _, _, 0, h => h
  | _ :: _, _, n + 1, h => by
    cases h with
    | cons _ h2 => exact RepL.drop n h2
theorem RepL.reverse {ds : List D} {vs : List V} (h : RepL K H vs ds) : RepL K H vs.reverse ds.reverse := by
  induction ds generalizing vs with
  | nil => cases h; exact .nil
  | cons d ds ih =>
    cases h with
    | cons h1 h2 =>
      simp only [List.reverse_cons]
      exact (ih h2).append (.one h1)
theorem RepL.eraseIdx : ∀ {ds : List D} {vs : List V} (i : Nat), RepL K H vs ds → RepL K H (vs.eraseIdx i) (ds.eraseIdx i)
  | [], _, _, h => by cases h; simp; exact .nil
  | _ :: _, _, 0, h => by
    cases h with
    | cons _ h2 => exact h2
  | _ :: _, _, i + 1, h => by
    cases h with
    | cons h1 h2 => exact .cons h1 (RepL.eraseIdx i h2)
theorem RepL.ints : ∀ (ns : List Int), RepL K H (ns.map V.int) (ns.map D.int)
  | [] => .nil
  | n :: ns => .cons (.int n) (RepL.ints ns)
theorem RepL.ints_inv : ∀ {ns : List Int} {vs : List V}, RepL K H vs (ns.map D.int) → vs = ns.map V.int
  | [], _, h => by cases h; rfl
  | n :: ns, _, h => by
    cases h with
    | cons h1 h2 =>
      cases h1
      rw [RepL.ints_inv h2]
      rfl

/-! ### lists of one's own -/
inductive OwnLs (K : PySem.W.Frag) (F H : Hp) : List Addr → List (List D) → Prop
  | nil : OwnLs K F H [] []
  | cons {a : Addr} {vs : List V} {ds : List D} {as : List Addr} {dss : List (List D)} : H a = some (.lst vs) → RepL K F vs ds → OwnLs K F H as dss → OwnLs K F H (a :: as) (ds :: dss)
inductive OwnD (K : PySem.W.Frag) (F H : Hp) : List (Key × V) → List Addr → List (Int × List D) → Prop
  | nil : OwnD K F H [] [] []
  | cons {k : Int} {a : Addr} {vs : List V} {ds : List D} {kvs : List (Key × V)} {as : List Addr} {m : List (Int × List D)} :
      H a = some (.lst vs) → RepL K F vs ds → OwnD K F H kvs as m → OwnD K F H ((.inl k, .ref a) :: kvs) (a :: as) ((k, ds) :: m)

inductive Sl where
  | un | fz (d : D) | l1 (ds : List D) | l2 (dss : List (List D)) | dk (m : List (Int × D)) | dl (m : List (Int × List D))

inductive SlotOk (K : PySem.W.Frag) (F H : Hp) : Sl → Option V → List Addr → Prop
  | un (v : Option V) : SlotOk K F H .un v []
  | fz {v : V} {d : D} : Rep K F v d → SlotOk K F H (.fz d) (some v) []
  | l1 {a : Addr} {vs : List V} {ds : List D} : H a = some (.lst vs) → RepL K F vs ds → SlotOk K F H (.l1 ds) (some (.ref a)) [a]
  | l2 {a : Addr} {as : List Addr} {dss : List (List D)} : H a = some (.lst (as.map V.ref)) → OwnLs K F H as dss → SlotOk K F H (.l2 dss) (some (.ref a)) (a :: as)
  | dk {a : Addr} {kvs : List (Key × V)} {m : List (Int × D)} : H a = some (.dK kvs) → RepD K F kvs m → SlotOk K F H (.dk m) (some (.ref a)) [a]
  | dl {a : Addr} {kvs : List (Key × V)} {as : List Addr} {m : List (Int × List D)} : H a = some (.dK kvs) → OwnD K F H kvs as m → SlotOk K F H (.dl m) (some (.ref a)) (a :: as)

theorem OwnLs.keep (e : Ex F F') : ∀ {as : List Addr} {dss : List (List D)}, (∀ a ∈ as, ∀ x, H a = some x → H' a = some x) → OwnLs K F H as dss → OwnLs K F' H' as dss
  | _, _, _, .nil => .nil
  | _, _, k, .cons h1 h2 h3 => .cons (k _ (List.mem_cons_self ..) _ h1) (h2.up e) (OwnLs.keep e (fun a ha => k a (List.mem_cons_of_mem _ ha)) h3)
theorem OwnD.keep (e : Ex F F') : ∀ {kvs : List (Key × V)} {as : List Addr} {m : List (Int × List D)}, (∀ a ∈ as, ∀ x, H a = some x → H' a = some x) → OwnD K F H kvs as m → OwnD K F' H' kvs as m
  | _, _, _, _, .nil => .nil
  | _, _, _, k, .cons h1 h2 h3 => .cons (k _ (List.mem_cons_self ..) _ h1) (h2.up e) (OwnD.keep e (fun a ha => k a (List.mem_cons_of_mem _ ha)) h3)
theorem SlotOk.keep {s : Sl} {v : Option V} {o : List Addr} (h : SlotOk K F H s v o) (e : Ex F F') (k : ∀ a ∈ o, ∀ x, H a = some x → H' a = some x) : SlotOk K F' H' s v o := by
  cases h with
  | un => exact .un _
  | fz h => exact .fz (h.up e)
  | l1 h1 h2 => exact .l1 (k _ (List.mem_cons_self ..) _ h1) (h2.up e)
  | l2 h1 h2 => exact .l2 (k _ (List.mem_cons_self ..) _ h1) (h2.keep e fun a ha => k a (List.mem_cons_of_mem _ ha))
  | dk h1 h2 => exact .dk (k _ (List.mem_cons_self ..) _ h1) (h2.up e)
  | dl h1 h2 => exact .dl (k _ (List.mem_cons_self ..) _ h1) (h2.keep e fun a ha => k a (List.mem_cons_of_mem _ ha))

/-! ### the slots of a frame -/
abbrev Env := List Sl
def nth : Env → Nat → Sl
  | [], _ => .un
  | s :: _, 0 => s
  | _ :: r, n + 1 => nth r n
def put : Env → Nat → Sl → Env
  | [], _, _ => []
  | _ :: r, 0, s => s :: r
  | t :: r, n + 1, s => t :: put r n s
inductive Slots (K : PySem.W.Frag) (F H : Hp) : Env → St → List Addr → Prop
  | nil : Slots K F H [] [] []
  | cons {s : Sl} {v : Option V} {o os : List Addr} {ρ : Env} {σ : St} : SlotOk K F H s v o → Slots K F H ρ σ os → Slots K F H (s :: ρ) (v :: σ) (o ++ os)
theorem Slots.keep (e : Ex F F') : ∀ {ρ : Env} {σ : St} {os : List Addr}, (∀ a ∈ os, ∀ x, H a = some x → H' a = some x) → Slots K F H ρ σ os → Slots K F' H' ρ σ os
  | _, _, _, _, .nil => .nil
  | _, _, _, k, .cons h1 h2 => .cons (h1.keep e fun a ha => k a (List.mem_append.mpr (.inl ha))) (Slots.keep e (fun a ha => k a (List.mem_append.mpr (.inr ha))) h2)
/-- one slot, and the others -/
theorem Slots.at : ∀ {ρ : Env} {σ : St} {os : List Addr} (i : Nat), Slots K F H ρ σ os → nth ρ i ≠ .un → ∃ v o os1 os2, σ[i]? = some v ∧ SlotOk K F H (nth ρ i) v o ∧ os = os1 ++ o ++ os2 ∧
    ∀ (F' H' : Hp) (s' : Sl) (v' : Option V) (o' : List Addr), Ex F F' → (∀ a ∈ os1 ++ os2, ∀ x, H a = some x → H' a = some x) → SlotOk K F' H' s' v' o' → Slots K F' H' (put ρ i s') (σ.set i v') (os1 ++ o' ++ os2)
  | [], _, _, _, _, n => (n rfl).elim
  | _ :: _, _, _, 0, .cons (o := o) (os := os) h1 h2, _ => ⟨_, o, [], os, rfl, h1, rfl, fun F' H' s' v' o' e k h => .cons h (h2.keep e k)⟩
  | _ :: _, _, _, i + 1, .cons (o := o) (os := os) h1 h2, n => by
    obtain ⟨v, o2, os1, os2, e1, e2, e3, k⟩ := Slots.at i h2 n
    refine ⟨v, o2, o ++ os1, os2, by simpa using e1, e2, by rw [e3]; simp, fun F' H' s' v' o' e kk h => ?_⟩
    have g := k F' H' s' v' o' e (fun a ha => kk a (by simp only [List.mem_append] at ha ⊢; grind)) h
    have r : o ++ os1 ++ o' ++ os2 = o ++ (os1 ++ o' ++ os2) := by simp
    rw [r]
    exact .cons (h1.keep e fun a ha => kk a (by simp only [List.mem_append]; grind)) g
theorem put_nth : ∀ {ρ : Env} {i : Nat} {s : Sl}, nth ρ i ≠ .un → nth (put ρ i s) i = s
  | [], _, _, n => (n rfl).elim
  | _ :: _, 0, _, _ => rfl
  | _ :: r, i + 1, s, n => put_nth (ρ := r) (i := i) n
theorem Slots.put : ∀ {ρ : Env} {σ : St} {os : List Addr} (i : Nat), Slots K F H ρ σ os → ∀ (F' H' : Hp) (s' : Sl) (v' : Option V) (o' : List Addr), Ex F F' → (∀ a ∈ os, ∀ x, H a = some x → H' a = some x) → SlotOk K F' H' s' v' o' →
    ∃ os1 os2, (os1 ++ os2).Sublist os ∧ (Slots K F' H' (put ρ i s') (σ.set i v') (os1 ++ o' ++ os2) ∨ Slots K F' H' (put ρ i s') (σ.set i v') (os1 ++ os2))
  | [], _, _, i, .nil, _, _, _, _, _, _, _, _ => ⟨[], [], .slnil, .inr .nil⟩
  | _ :: _, _, _, 0, .cons (o := o) (os := os) h1 h2, F', H', s', v', o', e, k, h => ⟨[], os, by simp, .inl (.cons h (h2.keep e fun a ha => k a (List.mem_append.mpr (.inr ha))))⟩
  | _ :: _, _, _, i + 1, .cons (o := o) (os := os) h1 h2, F', H', s', v', o', e, k, h => by
    obtain ⟨os1, os2, e1, g⟩ := Slots.put i h2 F' H' s' v' o' e (fun a ha => k a (List.mem_append.mpr (.inr ha))) h
    have h1' := h1.keep e fun a ha => k a (List.mem_append.mpr (.inl ha))
    refine ⟨o ++ os1, os2, by rw [List.append_assoc]; exact (List.Sublist.refl o).append e1, ?_⟩
    rcases g with g | g
    · left
      have r : o ++ os1 ++ o' ++ os2 = o ++ (os1 ++ o' ++ os2) := by simp
      rw [r]
      exact .cons h1' g
    · right
      rw [List.append_assoc]
      exact .cons h1' g

/-! ### a step of what is known; a state -/
structure Stp (F H F2 H2 : Hp) : Prop where
  fF : Ex F F2
  hH : Ex H H2
  fh : Ex F2 H2
  nw : ∀ a, F a = none → F2 a ≠ none → H a = none
theorem Stp.refl {F H : Hp} (h : Ex F H) : Stp F H F H := ⟨Ex.refl F, Ex.refl H, h, fun _ e n => (n e).elim⟩
theorem Stp.trans {F H F2 H2 F3 H3 : Hp} (a : Stp F H F2 H2) (b : Stp F2 H2 F3 H3) : Stp F H F3 H3 :=
  ⟨a.fF.trans b.fF, a.hH.trans b.hH, b.fh, fun x e n => by
    by_cases q : F2 x = none
    · exact a.hH.back (b.nw x q n)
    · exact a.nw x e q⟩
/-- the heap alone grows -/
theorem Stp.grow {F H H2 : Hp} (h : Ex F H) (e : Ex H H2) : Stp F H F H2 := ⟨Ex.refl F, e, h.trans e, fun _ e n => (n e).elim⟩
/-- a new frozen thing -/
theorem Stp.cell {F H : Hp} {p : Addr} {o : HO} (h : Ex F H) (hp : H p = none) : Stp F H (upd F p o) (upd H p o) :=
  ⟨Ex.new (h.back hp), Ex.new hp, fun a u e => by
    by_cases q : a = p
    · subst q
      rw [upd_same] at e ⊢
      exact e
    · rw [upd_ne q] at e ⊢
      exact h a u e, fun a e n => by
    by_cases q : a = p
    · subst q; exact hp
    · rw [upd_ne q] at n
      exact (n e).elim⟩

structure Rel (K : PySem.W.Frag) (H0 F0 F H : Hp) (ρ : Env) (σ : St) : Prop where
  sl : ∃ os, Slots K F H ρ σ os ∧ os.Nodup ∧ ∀ a ∈ os, F a = none ∧ H0 a = none
  f0 : Ex F0 F
  fh : Ex F H
  h0 : Ex H0 H
  nw : ∀ a, F0 a = none → F a ≠ none → H0 a = none
theorem Slots.dom : ∀ {ρ : Env} {σ : St} {os : List Addr}, Slots K F H ρ σ os → ∀ a ∈ os, H a ≠ none
  | _, _, _, .nil, _, h => by cases h
  | _, _, _, .cons h1 h2, a, h => by
    rcases List.mem_append.mp h with h | h
    · have lsok : ∀ {as : List Addr} {dss : List (List D)}, OwnLs K F H as dss → a ∈ as → H a ≠ none := by
        intro as
        induction as with
        | nil => intro _ _ q; cases q
        | cons b as ih =>
          intro dss q hm
          cases q with
          | cons q1 _ q3 =>
            rcases List.mem_cons.mp hm with rfl | hm
            · rw [q1]; simp
            · exact ih q3 hm
      have ldok : ∀ {as : List Addr} {kvs : List (Key × V)} {m : List (Int × List D)}, OwnD K F H kvs as m → a ∈ as → H a ≠ none := by
        intro as
        induction as with
        | nil => intro _ _ _ q; cases q
        | cons b as ih =>
          intro kvs m q hm
          cases q with
          | cons q1 _ q3 =>
            rcases List.mem_cons.mp hm with rfl | hm
            · rw [q1]; simp
            · exact ih q3 hm
      cases h1 with
      | un => cases h
      | fz => cases h
      | l1 q _ =>
        simp only [List.mem_singleton] at h
        subst h
        rw [q]; simp
      | l2 q q2 =>
        rcases List.mem_cons.mp h with rfl | h
        · rw [q]; simp
        · exact lsok q2 h
      | dk q _ =>
        simp only [List.mem_singleton] at h
        subst h
        rw [q]; simp
      | dl q q2 =>
        rcases List.mem_cons.mp h with rfl | h
        · rw [q]; simp
        · exact ldok q2 h
    · exact Slots.dom h2 a h
theorem Rel.step {H0 F0 F2 H2 : Hp} {ρ : Env} {σ : St} (r : Rel K H0 F0 F H ρ σ) (s : Stp F H F2 H2) : Rel K H0 F0 F2 H2 ρ σ := by
  obtain ⟨os, h1, h2, h3⟩ := r.sl
  refine ⟨⟨os, h1.keep s.fF (fun a _ x e => s.hH a x e), h2, fun a ha => ⟨?_, (h3 a ha).2⟩⟩, r.f0.trans s.fF, s.fh, r.h0.trans s.hH, fun a e n => ?_⟩
  · cases q : F2 a with
    | none => rfl
    | some o => exact (h1.dom a ha (s.nw a (h3 a ha).1 (by rw [q]; simp))).elim
  · by_cases q : F a = none
    · exact r.h0.back (s.nw a q n)
    · exact r.nw a e q
/-- a frozen thing at a name -/
theorem Rel.putFz {H0 F0 : Hp} {ρ : Env} {σ : St} (r : Rel K H0 F0 F H ρ σ) (i : Nat) {v : V} {d : D} (h : Rep K F v d) : Rel K H0 F0 F H (put ρ i (.fz d)) (σ.set i (some v)) := by
  obtain ⟨os, h1, h2, h3⟩ := r.sl
  obtain ⟨os1, os2, e, g⟩ := h1.put i F H (.fz d) (some v) [] (Ex.refl F) (fun _ _ _ e => e) (.fz h)
  have g' : Slots K F H (DL.put ρ i (.fz d)) (σ.set i (some v)) (os1 ++ os2) := by
    rcases g with g | g
    · simpa using g
    · exact g
  exact ⟨⟨_, g', e.nodup h2, fun a ha => h3 a (e.subset ha)⟩, r.f0, r.fh, r.h0, r.nw⟩
/-- a slot is let go -/
theorem Rel.putUn {H0 F0 : Hp} {ρ : Env} {σ : St} (r : Rel K H0 F0 F H ρ σ) (i : Nat) (v : Option V) : Rel K H0 F0 F H (put ρ i .un) (σ.set i v) := by
  obtain ⟨os, h1, h2, h3⟩ := r.sl
  obtain ⟨os1, os2, e, g⟩ := h1.put i F H .un v [] (Ex.refl F) (fun _ _ _ e => e) (.un v)
  have g' : Slots K F H (DL.put ρ i .un) (σ.set i v) (os1 ++ os2) := by
    rcases g with g | g
    · simpa using g
    · exact g
  exact ⟨⟨_, g', e.nodup h2, fun a ha => h3 a (e.subset ha)⟩, r.f0, r.fh, r.h0, r.nw⟩
/-- new things of one's own at a name: o their addresses -/
theorem Rel.setOwn {H0 F0 F2 H2 : Hp} {ρ : Env} {σ : St} (r : Rel K H0 F0 F H ρ σ) (s : Stp F H F2 H2) (i : Nat) {sl : Sl} {v : V} {o : List Addr} (h : SlotOk K F2 H2 sl (some v) o) (hn : o.Nodup)
    (ho : ∀ a ∈ o, F2 a = none ∧ H a = none) : Rel K H0 F0 F2 H2 (put ρ i sl) (σ.set i (some v)) := by
  have r2 := r.step s
  obtain ⟨os, h1, h2, h3⟩ := r.sl
  have h1' : Slots K F2 H2 ρ σ os := h1.keep s.fF fun a _ x e => s.hH a x e
  have h3' : ∀ a ∈ os, F2 a = none ∧ H0 a = none := fun a ha => by
    refine ⟨?_, (h3 a ha).2⟩
    cases q : F2 a with
    | none => rfl
    | some o => exact (h1.dom a ha (s.nw a (h3 a ha).1 (by rw [q]; simp))).elim
  have dj : ∀ a ∈ o, a ∉ os := fun a ha hb => h1.dom a hb (ho a ha).2
  have ho' : ∀ a ∈ o, F2 a = none ∧ H0 a = none := fun a ha => ⟨(ho a ha).1, r.h0.back (ho a ha).2⟩
  obtain ⟨os1, os2, e, g⟩ := h1'.put i F2 H2 sl (some v) o (Ex.refl _) (fun _ _ _ e => e) h
  rcases g with g | g
  · refine ⟨⟨_, g, ?_, fun a ha => ?_⟩, r2.f0, r2.fh, r2.h0, r2.nw⟩
    · have q := e.nodup h2
      simp only [List.nodup_append, List.mem_append] at q ⊢
      refine ⟨⟨q.1, hn, fun a ha b hb => ?_⟩, q.2.1, fun a ha b hb => ?_⟩
      · intro z
        subst z
        exact dj a hb (e.subset (List.mem_append.mpr (.inl ha)))
      · intro z
        subst z
        rcases ha with ha | ha
        · exact q.2.2 a ha a hb rfl
        · exact dj a ha (e.subset (List.mem_append.mpr (.inr hb)))
    · simp only [List.mem_append] at ha
      rcases ha with (ha | ha) | ha
      · exact h3' a (e.subset (List.mem_append.mpr (.inl ha)))
      · exact ho' a ha
      · exact h3' a (e.subset (List.mem_append.mpr (.inr ha)))
  · exact ⟨⟨_, g, e.nodup h2, fun a ha => h3' a (e.subset ha)⟩, r2.f0, r2.fh, r2.h0, r2.nw⟩
/-- a slot's own things are changed: the state behind, and what the other slots ask. c: the addresses written -/
theorem Rel.mutate {H0 F0 : Hp} {ρ : Env} {σ : St} (r : Rel K H0 F0 F H ρ σ) (i : Nat) (hi : nth ρ i ≠ .un) :
    ∃ v o, σ[i]? = some v ∧ SlotOk K F H (nth ρ i) v o ∧ o.Nodup ∧ (∀ a ∈ o, F a = none ∧ H0 a = none) ∧
      ∀ (F' H' : Hp) (s' : Sl) (o' : List Addr), Ex F F' → Ex F' H' → Ex H0 H' → (∀ a, F0 a = none → F' a ≠ none → H0 a = none) → (∀ a, a ∉ o → ∀ x, H a = some x → H' a = some x) → SlotOk K F' H' s' v o' → o'.Nodup →
        (∀ a ∈ o', F' a = none ∧ H0 a = none ∧ (a ∈ o ∨ H a = none)) → (∀ a, a ∉ o → F' a ≠ none → F a ≠ none ∨ H a = none) → Rel K H0 F0 F' H' (put ρ i s') σ := by
  obtain ⟨os, h1, h2, h3⟩ := r.sl
  obtain ⟨v, o, os1, os2, e1, e2, e3, k⟩ := h1.at i hi
  subst e3
  have dom := h1.dom
  simp only [List.nodup_append, List.mem_append] at h2
  obtain ⟨⟨n1, n2, n12⟩, n3, n123⟩ := h2
  refine ⟨v, o, e1, e2, n2, fun a ha => h3 a (by simp [ha]), fun F' H' s' o' ef fh h0 nw kp hs hn ho hf => ?_⟩
  have out : ∀ a ∈ os1 ++ os2, a ∉ o := fun a ha hb => by
    rcases List.mem_append.mp ha with ha | ha
    · exact n12 a ha a hb rfl
    · exact n123 a (.inr hb) a ha rfl
  have g := k F' H' s' v o' ef (fun a ha x e => kp a (out a ha) x e) hs
  have es : σ.set i v = σ := by
    rw [List.getElem?_eq_some_iff] at e1
    obtain ⟨hi', rfl⟩ := e1
    exact List.set_getElem_self hi'
  rw [es] at g
  refine ⟨⟨_, g, ?_, fun a ha => ?_⟩, r.f0.trans ef, fh, h0, nw⟩
  · have dj : ∀ a ∈ o', a ∉ os1 ∧ a ∉ os2 := fun a ha => by
      rcases (ho a ha).2.2 with q | q
      · exact ⟨fun z => out a (List.mem_append.mpr (.inl z)) q, fun z => out a (List.mem_append.mpr (.inr z)) q⟩
      · exact ⟨fun z => dom a (by simp [z]) q, fun z => dom a (by simp [z]) q⟩
    simp only [List.nodup_append, List.mem_append]
    refine ⟨⟨n1, hn, fun a ha b hb z => ?_⟩, n3, fun a ha b hb z => ?_⟩
    · subst z
      exact (dj a hb).1 ha
    · subst z
      rcases ha with ha | ha
      · exact n123 a (.inl ha) a hb rfl
      · exact (dj a ha).2 hb
  · simp only [List.mem_append] at ha
    have old : ∀ a, a ∈ os1 ++ os2 → F' a = none ∧ H0 a = none := fun a ha => by
      have q := h3 a (by simp only [List.mem_append] at ha ⊢; grind)
      refine ⟨?_, q.2⟩
      cases z : F' a with
      | none => rfl
      | some x =>
        rcases hf a (out a ha) (by rw [z]; simp) with w | w
        · exact (w q.1).elim
        · exact (dom a (by simp only [List.mem_append] at ha ⊢; grind) w).elim
    rcases ha with (ha | ha) | ha
    · exact old a (by simp [ha])
    · exact ⟨(ho a ha).1, (ho a ha).2.1⟩
    · exact old a (by simp [ha])
end
end DL

/-! DL B: expressions -/
namespace DL
open PySem L2

abbrev DE := Env → (D → Prop) → Prop
abbrev DT := Env → (Bool → Prop) → Prop
abbrev DA := Env → (List D → Prop) → Prop
abbrev DO := Env → (Option Int → Prop) → Prop

def pick (b : Bool) (F H : Hp) : Hp := match b with | true => F | false => H
section
variable {K : PySem.W.Frag} {F H F2 H2 H0 F0 : Hp} {b c : Bool}
theorem pick_stp (s : Stp F H F2 H2) : Ex (pick b F H) (pick b F2 H2) := by
  cases b with
  | true => exact s.fF
  | false => exact s.hH
theorem pick_of (e : Ex F H) : Ex F (pick b F H) := by
  cases b with
  | true => exact Ex.refl F
  | false => exact e
theorem pick_to (e : Ex F H) : Ex (pick b F H) H := by
  cases b with
  | true => exact e
  | false => exact Ex.refl H
theorem Rep.stp {v : V} {d : D} (h : Rep K (pick b F H) v d) (s : Stp F H F2 H2) : Rep K (pick b F2 H2) v d := h.up (pick_stp s)
theorem RepL.stp {v : List V} {d : List D} (h : RepL K (pick b F H) v d) (s : Stp F H F2 H2) : RepL K (pick b F2 H2) v d := h.up (pick_stp s)
theorem Rep.any {v : V} {d : D} (h : Rep K F v d) (e : Ex F H) : Rep K (pick b F H) v d := h.up (pick_of e)
end
/-- data that asks nothing of the heap -/
def D.flat : D → Bool
  | .non => true | .bl _ => true | .int _ => true | .str _ => true | _ => false
theorem Rep.flat {K : PySem.W.Frag} {H H' : Hp} {v : V} {d : D} (h : Rep K H v d) (e : d.flat = true) : Rep K H' v d := by
  cases h with
  | non => exact .non
  | bl => exact .bl _
  | int => exact .int _
  | str => exact .str _
  | _ => cases e

/-- the reading te of an expression does what de says. b: true: of frozen things; false: of what stands now -/
def SE (b : Bool) (K : PySem.W.Frag) (te : TE) (de : DE) : Prop := ∀ (H0 F0 F H : Hp) (ρ : Env) (σ : St) (Q : D → Prop) (R : VK), Rel K H0 F0 F H ρ σ → de ρ Q →
  (∀ v d F2 H2, Stp F H F2 H2 → Rep K (pick b F2 H2) v d → Q d → R v H2) → te σ H R
def ST (K : PySem.W.Frag) (tt : TT) (dt : DT) : Prop := ∀ (H0 F0 F H : Hp) (ρ : Env) (σ : St) (Q : Bool → Prop) (R : Bool → Hp → Prop), Rel K H0 F0 F H ρ σ → dt ρ Q →
  (∀ c F2 H2, Stp F H F2 H2 → Q c → R c H2) → tt σ H R
def SA (b : Bool) (K : PySem.W.Frag) (ta : TA) (da : DA) : Prop := ∀ (H0 F0 F H : Hp) (ρ : Env) (σ : St) (Q : List D → Prop) (R : List V → Hp → Prop), Rel K H0 F0 F H ρ σ → da ρ Q →
  (∀ vs ds F2 H2, Stp F H F2 H2 → RepL K (pick b F2 H2) vs ds → Q ds → R vs H2) → ta σ H R
def SO (K : PySem.W.Frag) (to : TO) (d : DO) : Prop := ∀ (H0 F0 F H : Hp) (ρ : Env) (σ : St) (Q : Option Int → Prop) (R : Option Int → Hp → Prop), Rel K H0 F0 F H ρ σ → d ρ Q →
  (∀ o F2 H2, Stp F H F2 H2 → Q o → R o H2) → to σ H R
/-- a new list -/
def SL (K : PySem.W.Frag) (te : TE) (dl : DA) : Prop := ∀ (H0 F0 F H : Hp) (ρ : Env) (σ : St) (Q : List D → Prop) (R : VK), Rel K H0 F0 F H ρ σ → dl ρ Q →
  (∀ p vs ds F2 H2, Stp F H F2 H2 → H p = none → F2 p = none → H2 p = some (.lst vs) → RepL K F2 vs ds → Q ds → R (.ref p) H2) → te σ H R

structure QE (b : Bool) (X : Cx) (e : Expr) (te : TE) (de : DE) : Prop where
  pe : PE X e te
  se : SE b X.K te de
structure QT (X : Cx) (e : Expr) (tt : TT) (dt : DT) : Prop where
  pt : PT X e tt
  st : ST X.K tt dt
structure QW (X : Cx) (e : Expr) (tt : TT) (dt : DT) : Prop where
  pw : PW X e tt
  st : ST X.K tt dt
structure QA (b : Bool) (X : Cx) (es : List Expr) (ta : TA) (da : DA) : Prop where
  pa : PA X es ta
  sa : SA b X.K ta da
structure QO (X : Cx) (e : Option Expr) (to : TO) (d : DO) : Prop where
  po : PO X e to
  so : SO X.K to d
structure QL (X : Cx) (e : Expr) (te : TE) (dl : DA) : Prop where
  pe : PE X e te
  sl : SL X.K te dl
theorem QW.qt {X : Cx} {e : Expr} {tt : TT} {dt : DT} (h : QW X e tt dt) : QT X e tt dt := ⟨h.pw.pt, h.st⟩

/-! ### names, constants -/
def dC (d : D) : DE := fun _ Q => Q d
def Sl.get : Bool → Sl → (D → Prop) → Prop
  | _, .fz d, Q => Q d
  | false, .l1 ds, Q => Q (.lst ds)
  | false, .l2 dss, Q => Q (.lst (dss.map D.lst))
  | false, .dk m, Q => Q (.dct m)
  | _, _, _ => False
def dVar (b : Bool) (i : Nat) : DE := fun ρ Q => Sl.get b (nth ρ i) Q
section
variable {X : Cx} {b c : Bool} {pos : Pos}
theorem qe_int {i j} : QE b X (.Constant (.int i) j pos) (tC (.int i)) (dC (.int i)) := ⟨pe_int, fun _ _ F H _ _ _ _ r q k => k _ _ F H (Stp.refl r.fh) (.int i) q⟩
theorem qe_bl {i j} : QE b X (.Constant (.bool i) j pos) (tC (.bl i)) (dC (.bl i)) := ⟨pe_bl, fun _ _ F H _ _ _ _ r q k => k _ _ F H (Stp.refl r.fh) (.bl i) q⟩
theorem qe_non {j} : QE b X (.Constant .none j pos) (tC .non) (dC .non) := ⟨pe_non, fun _ _ F H _ _ _ _ r q k => k _ _ F H (Stp.refl r.fh) .non q⟩
theorem qe_str {i j} : QE b X (.Constant (.str i) j pos) (tC (.str i)) (dC (.str i)) := ⟨pe_str, fun _ _ F H _ _ _ _ r q k => k _ _ F H (Stp.refl r.fh) (.str i) q⟩
/-- a module's constant -/
theorem qe_globI {x : Str} {n : Int} {t : Tok} (hg : Gl X x) (hm : X.mg x = some (.int n t)) (hd : (x == ("__debug__" : Str)) = false := by decide) : QE b X (.Name x pos) (tC (.int n)) (dC (.int n)) :=
  ⟨pe_glob hg hm ⟨t, rfl⟩ hd, fun _ _ F H _ _ _ _ r q k => k _ _ F H (Stp.refl r.fh) (.int n) q⟩
theorem qe_globS {x : Str} {n : Str} {t : Tok} (hg : Gl X x) (hm : X.mg x = some (.str n t)) (hd : (x == ("__debug__" : Str)) = false := by decide) : QE b X (.Name x pos) (tC (.str n)) (dC (.str n)) :=
  ⟨pe_glob hg hm ⟨t, rfl⟩ hd, fun _ _ F H _ _ _ _ r q k => k _ _ F H (Stp.refl r.fh) (.str n) q⟩
theorem OwnLs.rep {K : PySem.W.Frag} {F H : Hp} (e : Ex F H) : ∀ {as : List Addr} {dss : List (List D)}, OwnLs K F H as dss → RepL K H (as.map V.ref) (dss.map D.lst)
  | _, _, .nil => .nil
  | _, _, .cons h1 h2 h3 => .cons (.lst h1 (h2.up e)) (OwnLs.rep e h3)
theorem slot_rep {K : PySem.W.Frag} {F H : Hp} {s : Sl} {v : Option V} {o : List Addr} {Q : D → Prop} (e : Ex F H) (h : SlotOk K F H s v o) (q : Sl.get b s Q) : ∃ u d, v = some u ∧ Rep K (pick b F H) u d ∧ Q d := by
  cases h with
  | un => cases b <;> exact q.elim
  | fz h => exact ⟨_, _, rfl, h.any e, by cases b <;> exact q⟩
  | l1 h1 h2 =>
    cases b with
    | true => exact q.elim
    | false => exact ⟨_, _, rfl, .lst h1 (h2.up e), q⟩
  | l2 h1 h2 =>
    cases b with
    | true => exact q.elim
    | false => exact ⟨_, _, rfl, .lst h1 (h2.rep e), q⟩
  | dk h1 h2 =>
    cases b with
    | true => exact q.elim
    | false => exact ⟨_, _, rfl, .dct h1 (h2.up e), q⟩
  | dl h1 h2 => cases b <;> exact q.elim
theorem get_ne {s : Sl} {Q : D → Prop} (q : Sl.get b s Q) : s ≠ .un := by
  intro e
  subst e
  cases b <;> exact q.elim
theorem se_var {K : PySem.W.Frag} (i : Nat) : SE b K (tVar i) (dVar b i) := fun H0 F0 F H ρ σ Q R r q k => by
  obtain ⟨os, h1, _, _⟩ := r.sl
  obtain ⟨v, o, _, _, e1, e2, _, _⟩ := h1.at i (get_ne q)
  obtain ⟨u, d, rfl, h, hq⟩ := slot_rep r.fh e2 q
  exact ⟨u, e1, k u d F H (Stp.refl r.fh) h hq⟩
theorem qv (i : Nat) {x : Str} (hN : X.N[i]? = some x := by rfl) (hv : Vis X.env.scope x := by first | exact Or.inl rfl | exact Or.inr (Or.inl rfl) | exact Or.inr (Or.inr rfl)) (hd : (x == ("__debug__" : Str)) = false := by decide)
    (hcd : (x == ("__classdict__" : Str)) = false := by decide) : QE b X (.Name x pos) (tVar i) (dVar b i) := ⟨pe_var hN hv hd hcd, se_var i⟩

/-- what stands now, where the answer asks nothing of the heap -/
def dFlat (de : DE) : DE := fun ρ Q => de ρ fun d => d.flat = true ∧ Q d
theorem qe_flat {e : Expr} {te : TE} {de : DE} (h : QE c X e te de) : QE b X e te (dFlat de) := ⟨h.pe, fun H0 F0 F H ρ σ Q R r q k =>
  h.se H0 F0 F H ρ σ _ R r q fun v d F2 H2 s hr ⟨hf, hq⟩ => k v d F2 H2 s (hr.flat hf) hq⟩

/-! ### operators on values: data in, data out -/
abbrev DR2 := D → D → (D → Prop) → Prop
def R2D (c b : Bool) (K : PySem.W.Frag) (r : R2) (dr : DR2) : Prop := ∀ (F H : Hp) (x y : V) (d e : D) (Q : D → Prop) (R : VK), Ex F H → Rep K (pick c F H) x d → Rep K (pick c F H) y e → dr d e Q →
  (∀ v d F2 H2, Stp F H F2 H2 → Rep K (pick b F2 H2) v d → Q d → R v H2) → r x y H R
def dOp (dr : DR2) (da db : DE) : DE := fun ρ Q => da ρ fun x => db ρ fun y => dr x y Q
theorem se_op {K : PySem.W.Frag} {r : R2} {dr : DR2} {ta tb : TE} {da db : DE} (hr : R2D c b K r dr) (ha : SE c K ta da) (hb : SE c K tb db) : SE b K (tOp r ta tb) (dOp dr da db) := fun H0 F0 F H ρ σ Q R rl q k =>
  ha H0 F0 F H ρ σ _ _ rl q fun x d F2 H2 s2 hx q2 => hb H0 F0 F2 H2 ρ σ _ _ (rl.step s2) q2 fun y e F3 H3 s3 hy q3 =>
    hr F3 H3 x y d e Q R s3.fh (hx.stp s3) hy q3 fun v d F4 H4 s4 hv hq => k v d F4 H4 ((s2.trans s3).trans s4) hv hq
def oI (g : Int → Int → D) : DR2 := fun x y Q => match x, y with | .int i, .int j => Q (g i j) | _, _ => False
def oIc (C : Int → Int → Prop) (g : Int → Int → D) : DR2 := fun x y Q => match x, y with | .int i, .int j => C i j ∧ Q (g i j) | _, _ => False
theorem oI_inv {g : Int → Int → D} {x y : D} {Q : D → Prop} (h : oI g x y Q) : ∃ i j, x = .int i ∧ y = .int j ∧ Q (g i j) := by
  unfold oI at h
  split at h
  · exact ⟨_, _, rfl, rfl, h⟩
  · exact h.elim
theorem oIc_inv {C : Int → Int → Prop} {g : Int → Int → D} {x y : D} {Q : D → Prop} (h : oIc C g x y Q) : ∃ i j, x = .int i ∧ y = .int j ∧ C i j ∧ Q (g i j) := by
  unfold oIc at h
  split at h
  · exact ⟨_, _, rfl, rfl, h⟩
  · exact h.elim
theorem r2_int {K : PySem.W.Frag} (g : Int → Int → Int) : R2D c b K (rI0 fun i j => .int (g i j)) (oI fun i j => .int (g i j)) := fun F H x y d e Q R ef hx hy q k => by
  obtain ⟨i, j, rfl, rfl, q⟩ := oI_inv q
  cases hx
  cases hy
  exact ⟨i, j, rfl, rfl, k _ _ F H (Stp.refl ef) (.int _) q⟩
theorem r2_intC {K : PySem.W.Frag} (C : Int → Int → Prop) (g : Int → Int → Int) : R2D c b K (rI C fun i j => .int (g i j)) (oIc C fun i j => .int (g i j)) := fun F H x y d e Q R ef hx hy q k => by
  obtain ⟨i, j, rfl, rfl, hc, q⟩ := oIc_inv q
  cases hx
  cases hy
  exact ⟨i, j, rfl, rfl, hc, k _ _ F H (Stp.refl ef) (.int _) q⟩
theorem r2_cmp {K : PySem.W.Frag} (g : Int → Int → Bool) : R2D c b K (rI0 fun i j => .bl (g i j)) (oI fun i j => .bl (g i j)) := fun F H x y d e Q R ef hx hy q k => by
  obtain ⟨i, j, rfl, rfl, q⟩ := oI_inv q
  cases hx
  cases hy
  exact ⟨i, j, rfl, rfl, k _ _ F H (Stp.refl ef) (.bl _) q⟩
/-- == and != of plain things -/
def oEq (neg : Bool) : DR2 := fun x y Q => match x, y with
  | .int i, .int j => Q (.bl (xor neg (decide (i = j))))
  | .str i, .str j => Q (.bl (xor neg (decide (i = j))))
  | .bl i, .bl j => Q (.bl (xor neg (decide (i = j))))
  | .non, .non => Q (.bl (xor neg true))
  | .non, .int _ => Q (.bl (xor neg false))
  | .int _, .non => Q (.bl (xor neg false))
  | .non, .str _ => Q (.bl (xor neg false))
  | .str _, .non => Q (.bl (xor neg false))
  | _, _ => False
theorem r2_eq {K : PySem.W.Frag} : R2D c b K rEq (oEq false) := fun F H x y d e Q R ef hx hy q k => by
  unfold oEq at q
  split at q <;> first | exact q.elim | skip
  all_goals
    cases hx
    cases hy
    refine ⟨rfl, k _ _ F H (Stp.refl ef) (.bl _) ?_⟩
    simpa using q
theorem r2_ne {K : PySem.W.Frag} : R2D c b K rNe (oEq true) := fun F H x y d e Q R ef hx hy q k => by
  unfold oEq at q
  split at q <;> first | exact q.elim | skip
  all_goals
    cases hx
    cases hy
    refine ⟨rfl, k _ _ F H (Stp.refl ef) (.bl _) ?_⟩
    simpa using q
def rIsN : R2 := fun x y H Q => y = .non ∧ Q (.bl (decide (x = .non))) H
def rNotN : R2 := fun x y H Q => y = .non ∧ Q (.bl (!decide (x = .non))) H
def oIsN (neg : Bool) : DR2 := fun x y Q => match x, y with
  | .non, .non => Q (.bl (xor neg true))
  | _, .non => Q (.bl (xor neg false))
  | _, _ => False
theorem r2_isN {K : PySem.W.Frag} : R2D c b K rIsN (oIsN false) := fun F H x y d e Q R ef hx hy q k => by
  unfold oIsN at q
  split at q <;> first | exact q.elim | skip
  all_goals
    cases hy
    refine ⟨rfl, k _ _ F H (Stp.refl ef) (.bl _) ?_⟩
    cases hx <;> first | simpa using q | (rename_i hn; exact (hn rfl).elim)
theorem r2_notN {K : PySem.W.Frag} : R2D c b K rNotN (oIsN true) := fun F H x y d e Q R ef hx hy q k => by
  unfold oIsN at q
  split at q <;> first | exact q.elim | skip
  all_goals
    cases hy
    refine ⟨rfl, k _ _ F H (Stp.refl ef) (.bl _) ?_⟩
    cases hx <;> first | simpa using q | (rename_i hn; exact (hn rfl).elim)
end
section
variable {X : Cx} {b c : Bool} {pos : Pos} {e f g : Expr} {ta tb tc : TE} {da db dc : DE}
theorem qe_add (ha : QE false X e ta da) (hb : QE false X f tb db) : QE b X (.BinOp e .Add f pos) (tOp (rI0 fun i j => .int (i + j)) ta tb) (dOp (oI fun i j => .int (i + j)) da db) := ⟨pe_op op_add ha.pe hb.pe, se_op (r2_int _) ha.se hb.se⟩
theorem qe_sub (ha : QE false X e ta da) (hb : QE false X f tb db) : QE b X (.BinOp e .Sub f pos) (tOp (rI0 fun i j => .int (i - j)) ta tb) (dOp (oI fun i j => .int (i - j)) da db) := ⟨pe_op op_sub ha.pe hb.pe, se_op (r2_int _) ha.se hb.se⟩
theorem qe_mul (ha : QE false X e ta da) (hb : QE false X f tb db) : QE b X (.BinOp e .Mult f pos) (tOp (rI CMul fun i j => .int (i * j)) ta tb) (dOp (oIc CMul fun i j => .int (i * j)) da db) := ⟨pe_op op_mul ha.pe hb.pe, se_op (r2_intC _ _) ha.se hb.se⟩
theorem qe_fdiv (ha : QE false X e ta da) (hb : QE false X f tb db) : QE b X (.BinOp e .FloorDiv f pos) (tOp (rI CDivN fun i j => .int (i.fdiv j)) ta tb) (dOp (oIc CDivN fun i j => .int (i.fdiv j)) da db) := ⟨pe_op op_fdivN ha.pe hb.pe, se_op (r2_intC _ _) ha.se hb.se⟩
theorem qe_mod (ha : QE false X e ta da) (hb : QE false X f tb db) : QE b X (.BinOp e .Mod f pos) (tOp (rI (fun _ j => j ≠ 0) fun i j => .int (i.fmod j)) ta tb) (dOp (oIc (fun _ j => j ≠ 0) fun i j => .int (i.fmod j)) da db) := ⟨pe_op op_modN ha.pe hb.pe, se_op (r2_intC _ _) ha.se hb.se⟩
theorem qe_pow (ha : QE false X e ta da) (hb : QE false X f tb db) : QE b X (.BinOp e .Pow f pos) (tOp (rI CPow fun i j => .int (i ^ j.toNat)) ta tb) (dOp (oIc CPow fun i j => .int (i ^ j.toNat)) da db) := ⟨pe_op op_pow ha.pe hb.pe, se_op (r2_intC _ _) ha.se hb.se⟩
/-! comparisons as values and as tests -/
def dT (de : DE) : DT := fun ρ Q => de ρ fun x => match x with | .bl k => Q k | _ => False
theorem st_test {K : PySem.W.Frag} {te : TE} {de : DE} (h : SE false K te de) : ST K (tTest te) (dT de) := fun H0 F0 F H ρ σ Q R r q k =>
  h H0 F0 F H ρ σ _ _ r q fun v d F2 H2 s hv hq => by
    cases d with
    | bl z => cases hv; exact ⟨z, rfl, k z F2 H2 s hq⟩
    | _ => exact hq.elim
theorem st_B {K : PySem.W.Frag} {te : TE} {de : DE} (h : SE false K te de) : ST K (tB te) (dT de) := fun H0 F0 F H ρ σ Q R r q k =>
  h H0 F0 F H ρ σ _ _ r q fun v d F2 H2 s hv hq => by
    cases d with
    | bl z => cases hv; exact ⟨z, rfl, k z F2 H2 s hq⟩
    | _ => exact hq.elim
theorem qe_lt (ha : QE false X e ta da) (hb : QE false X f tb db) : QE b X (.Compare e [.Lt] [f] pos) (tOp (rI0 fun i j => .bl (decide (i < j))) ta tb) (dOp (oI fun i j => .bl (decide (i < j))) da db) := ⟨pe_cmpR op_lt ha.pe hb.pe (nomark _), se_op (r2_cmp _) ha.se hb.se⟩
theorem qe_le (ha : QE false X e ta da) (hb : QE false X f tb db) : QE b X (.Compare e [.LtE] [f] pos) (tOp (rI0 fun i j => .bl (decide (i ≤ j))) ta tb) (dOp (oI fun i j => .bl (decide (i ≤ j))) da db) := ⟨pe_cmpR op_le ha.pe hb.pe (nomark _), se_op (r2_cmp _) ha.se hb.se⟩
theorem qe_gt (ha : QE false X e ta da) (hb : QE false X f tb db) : QE b X (.Compare e [.Gt] [f] pos) (tOp (rI0 fun i j => .bl (decide (j < i))) ta tb) (dOp (oI fun i j => .bl (decide (j < i))) da db) := ⟨pe_cmpR op_gt ha.pe hb.pe (nomark _), se_op (r2_cmp fun i j => decide (j < i)) ha.se hb.se⟩
theorem qe_ge (ha : QE false X e ta da) (hb : QE false X f tb db) : QE b X (.Compare e [.GtE] [f] pos) (tOp (rI0 fun i j => .bl (decide (j ≤ i))) ta tb) (dOp (oI fun i j => .bl (decide (j ≤ i))) da db) := ⟨pe_cmpR op_ge ha.pe hb.pe (nomark _), se_op (r2_cmp fun i j => decide (j ≤ i)) ha.se hb.se⟩
theorem qe_eq (ha : QE false X e ta da) (hb : QE false X f tb db) : QE b X (.Compare e [.Eq] [f] pos) (tOp rEq ta tb) (dOp (oEq false) da db) := ⟨pe_cmpR op_eq ha.pe hb.pe (nomark _), se_op r2_eq ha.se hb.se⟩
theorem qe_ne (ha : QE false X e ta da) (hb : QE false X f tb db) : QE b X (.Compare e [.NotEq] [f] pos) (tOp rNe ta tb) (dOp (oEq true) da db) := ⟨pe_cmpR op_ne ha.pe hb.pe (nomark _), se_op r2_ne ha.se hb.se⟩
theorem qe_isN (ha : QE false X e ta da) (hb : QE false X f tb db) : QE b X (.Compare e [.Is] [f] pos) (tOp rIsN ta tb) (dOp (oIsN false) da db) := ⟨pe_cmpR op_isN ha.pe hb.pe (nomark _), se_op r2_isN ha.se hb.se⟩
theorem qe_notN (ha : QE false X e ta da) (hb : QE false X f tb db) : QE b X (.Compare e [.IsNot] [f] pos) (tOp rNotN ta tb) (dOp (oIsN true) da db) := ⟨pe_cmpR op_notN ha.pe hb.pe (nomark _), se_op r2_notN ha.se hb.se⟩
theorem qt_lt (ha : QE false X e ta da) (hb : QE false X f tb db) : QT X (.Compare e [.Lt] [f] pos) (tTest (tOp (rI0 fun i j => .bl (decide (i < j))) ta tb)) (dT (dOp (oI fun i j => .bl (decide (i < j))) da db)) := ⟨pt_cmpR op_lt ha.pe hb.pe (nomark _), st_test (se_op (r2_cmp _) ha.se hb.se)⟩
theorem qt_le (ha : QE false X e ta da) (hb : QE false X f tb db) : QT X (.Compare e [.LtE] [f] pos) (tTest (tOp (rI0 fun i j => .bl (decide (i ≤ j))) ta tb)) (dT (dOp (oI fun i j => .bl (decide (i ≤ j))) da db)) := ⟨pt_cmpR op_le ha.pe hb.pe (nomark _), st_test (se_op (r2_cmp _) ha.se hb.se)⟩
theorem qt_gt (ha : QE false X e ta da) (hb : QE false X f tb db) : QT X (.Compare e [.Gt] [f] pos) (tTest (tOp (rI0 fun i j => .bl (decide (j < i))) ta tb)) (dT (dOp (oI fun i j => .bl (decide (j < i))) da db)) := ⟨pt_cmpR op_gt ha.pe hb.pe (nomark _), st_test (se_op (r2_cmp fun i j => decide (j < i)) ha.se hb.se)⟩
theorem qt_ge (ha : QE false X e ta da) (hb : QE false X f tb db) : QT X (.Compare e [.GtE] [f] pos) (tTest (tOp (rI0 fun i j => .bl (decide (j ≤ i))) ta tb)) (dT (dOp (oI fun i j => .bl (decide (j ≤ i))) da db)) := ⟨pt_cmpR op_ge ha.pe hb.pe (nomark _), st_test (se_op (r2_cmp fun i j => decide (j ≤ i)) ha.se hb.se)⟩
theorem qt_eq (ha : QE false X e ta da) (hb : QE false X f tb db) : QT X (.Compare e [.Eq] [f] pos) (tTest (tOp rEq ta tb)) (dT (dOp (oEq false) da db)) := ⟨pt_cmpR op_eq ha.pe hb.pe (nomark _), st_test (se_op r2_eq ha.se hb.se)⟩
theorem qt_ne (ha : QE false X e ta da) (hb : QE false X f tb db) : QT X (.Compare e [.NotEq] [f] pos) (tTest (tOp rNe ta tb)) (dT (dOp (oEq true) da db)) := ⟨pt_cmpR op_ne ha.pe hb.pe (nomark _), st_test (se_op r2_ne ha.se hb.se)⟩
theorem qt_isN (ha : QE false X e ta da) (hb : QE false X f tb db) : QT X (.Compare e [.Is] [f] pos) (tTest (tOp rIsN ta tb)) (dT (dOp (oIsN false) da db)) := ⟨pt_cmpR op_isN ha.pe hb.pe (nomark _), st_test (se_op r2_isN ha.se hb.se)⟩
theorem qt_notN (ha : QE false X e ta da) (hb : QE false X f tb db) : QT X (.Compare e [.IsNot] [f] pos) (tTest (tOp rNotN ta tb)) (dT (dOp (oIsN true) da db)) := ⟨pt_cmpR op_notN ha.pe hb.pe (nomark _), st_test (se_op r2_notN ha.se hb.se)⟩
theorem qt_val (h : QE false X e ta da) (he : ∀ whole, isTrue e X.env whole = (do let v ← whole; standAt e.pos; holding [v] (truthy v)) := by intro _; rfl) : QT X e (tB ta) (dT da) := ⟨pt_val h.pe he, st_B h.se⟩
def dNeg (da : DE) : DE := fun ρ Q => da ρ fun x => match x with | .int i => Q (.int (-i)) | _ => False
theorem qe_neg (h : QE false X e ta da) : QE b X (.UnaryOp .USub e pos) (tUn (rU fun i => .int (-i)) ta) (dNeg da) := ⟨pe_un un_neg h.pe, fun H0 F0 F H ρ σ Q R r q k =>
  h.se H0 F0 F H ρ σ _ _ r q fun v d F2 H2 s hv hq => by
    cases d with
    | int i => cases hv; exact ⟨i, rfl, k _ _ F2 H2 s (.int _) hq⟩
    | _ => exact hq.elim⟩
/-- a op b op c -/
def dChain (dr ds : DR2) (da db dc : DE) : DE := fun ρ Q => da ρ fun x => db ρ fun y => dr x y fun z => match z with
  | .bl k => (k = true → dc ρ fun w => ds y w Q) ∧ (k = false → Q (.bl false))
  | _ => False
theorem se_chain {K : PySem.W.Frag} {r r' : R2} {dr dr' : DR2} (hr : R2D false false K r dr) (hr' : R2D false b K r' dr') (ha : SE false K ta da) (hb : SE false K tb db) (hc : SE false K tc dc) : SE b K (tChain r r' ta tb tc) (dChain dr dr' da db dc) := fun H0 F0 F H ρ σ Q R rl q k =>
  ha H0 F0 F H ρ σ _ _ rl q fun x d F2 H2 s2 hx q2 => hb H0 F0 F2 H2 ρ σ _ _ (rl.step s2) q2 fun y e F3 H3 s3 hy q3 =>
    hr F3 H3 x y d e _ _ s3.fh (hx.stp (b := false) s3) hy q3 fun v d4 F4 H4 s4 hv hq => by
      have s := (s2.trans s3).trans s4
      cases d4 with
      | bl z =>
        cases hv
        refine ⟨z, rfl, ?_⟩
        cases z with
        | true =>
          rw [if_pos rfl]
          exact hc H0 F0 F4 H4 ρ σ _ _ (rl.step s) (hq.1 rfl) fun w dw F5 H5 s5 hw q5 => hr' F5 H5 y w e dw Q R s5.fh ((hy.stp (b := false) s4).stp (b := false) s5) hw q5 fun v d F6 H6 s6 hv hq => k v d F6 H6 ((s.trans s5).trans s6) hv hq
        | false =>
          rw [if_neg Bool.false_ne_true]
          exact k _ _ F4 H4 s (.bl _) (hq.2 rfl)
      | _ => exact hq.elim
theorem qe_leLt (ha : QE false X e ta da) (hb : QE false X f tb db) (hc : QE false X g tc dc) (hm : lastMarks [.LtE, .Lt] [f, g] = false := by with_unfolding_all rfl) : QE b X (.Compare e [.LtE, .Lt] [f, g] pos) (tChain (rI0 fun i j => .bl (decide (i ≤ j))) (rI0 fun i j => .bl (decide (i < j))) ta tb tc)
    (dChain (oI fun i j => .bl (decide (i ≤ j))) (oI fun i j => .bl (decide (i < j))) da db dc) := ⟨pe_chain op_le op_lt ha.pe hb.pe hc.pe hm, se_chain (r2_cmp _) (r2_cmp _) ha.se hb.se hc.se⟩
theorem qt_leLt (ha : QE false X e ta da) (hb : QE false X f tb db) (hc : QE false X g tc dc) (hm : lastMarks [.LtE, .Lt] [f, g] = false := by with_unfolding_all rfl) : QT X (.Compare e [.LtE, .Lt] [f, g] pos) (tTest (tChain (rI0 fun i j => .bl (decide (i ≤ j))) (rI0 fun i j => .bl (decide (i < j))) ta tb tc))
    (dT (dChain (oI fun i j => .bl (decide (i ≤ j))) (oI fun i j => .bl (decide (i < j))) da db dc)) := ⟨pt_chain op_le op_lt ha.pe hb.pe hc.pe hm, st_test (se_chain (r2_cmp _) (r2_cmp _) ha.se hb.se hc.se)⟩
theorem qe_ltLt (ha : QE false X e ta da) (hb : QE false X f tb db) (hc : QE false X g tc dc) (hm : lastMarks [.Lt, .Lt] [f, g] = false := by with_unfolding_all rfl) : QE b X (.Compare e [.Lt, .Lt] [f, g] pos) (tChain (rI0 fun i j => .bl (decide (i < j))) (rI0 fun i j => .bl (decide (i < j))) ta tb tc)
    (dChain (oI fun i j => .bl (decide (i < j))) (oI fun i j => .bl (decide (i < j))) da db dc) := ⟨pe_chain op_lt op_lt ha.pe hb.pe hc.pe hm, se_chain (r2_cmp _) (r2_cmp _) ha.se hb.se hc.se⟩
end
/-! ### and, or, not -/
def dAnd (da db : DT) : DT := fun ρ Q => da ρ fun c => (c = true → db ρ Q) ∧ (c = false → Q false)
def dOr (da db : DT) : DT := fun ρ Q => da ρ fun c => (c = true → Q true) ∧ (c = false → db ρ Q)
def dNot (da : DT) : DT := fun ρ Q => da ρ fun c => Q (!c)
def dAndV (da db : DE) : DE := fun ρ Q => da ρ fun x => match x with | .bl c => (c = true → db ρ Q) ∧ (c = false → Q (.bl false)) | _ => False
def dOrV (da db : DE) : DE := fun ρ Q => da ρ fun x => match x with | .bl c => (c = true → Q (.bl true)) ∧ (c = false → db ρ Q) | _ => False
def dNotV (da : DE) : DE := fun ρ Q => da ρ fun x => match x with | .bl c => Q (.bl (!c)) | _ => False
def dIf (dt : DT) (da db : DE) : DE := fun ρ Q => dt ρ fun c => (c = true → da ρ Q) ∧ (c = false → db ρ Q)
section
variable {X : Cx} {b c : Bool} {pos : Pos} {e f g : Expr} {rest : List Expr} {t u : TT} {dt du : DT} {ta tb : TE} {da db : DE}
theorem qw_and1 (h : QT X e t dt) : QW X (.BoolOp .And [e] pos) t dt := ⟨pw_and1 h.pt, h.st⟩
theorem qw_or1 (h : QT X e t dt) : QW X (.BoolOp .Or [e] pos) t dt := ⟨pw_or1 h.pt, h.st⟩
theorem qw_and (ha : QT X e t dt) (hb : QW X (.BoolOp .And (f :: rest) pos) u du) : QW X (.BoolOp .And (e :: f :: rest) pos) (tAnd t u) (dAnd dt du) := ⟨pw_and ha.pt hb.pw, fun H0 F0 F H ρ σ Q R r q k =>
  ha.st H0 F0 F H ρ σ _ _ r q fun z F2 H2 s hq => by
    cases z with
    | true =>
      rw [if_pos rfl]
      exact hb.st H0 F0 F2 H2 ρ σ _ _ (r.step s) (hq.1 rfl) fun c F3 H3 s3 q3 => k c F3 H3 (s.trans s3) q3
    | false =>
      rw [if_neg Bool.false_ne_true]
      exact k _ F2 H2 s (hq.2 rfl)⟩
theorem qw_or (ha : QT X e t dt) (hb : QW X (.BoolOp .Or (f :: rest) pos) u du) : QW X (.BoolOp .Or (e :: f :: rest) pos) (tOr t u) (dOr dt du) := ⟨pw_or ha.pt hb.pw, fun H0 F0 F H ρ σ Q R r q k =>
  ha.st H0 F0 F H ρ σ _ _ r q fun z F2 H2 s hq => by
    cases z with
    | true =>
      rw [if_pos rfl]
      exact k _ F2 H2 s (hq.1 rfl)
    | false =>
      rw [if_neg Bool.false_ne_true]
      exact hb.st H0 F0 F2 H2 ρ σ _ _ (r.step s) (hq.2 rfl) fun c F3 H3 s3 q3 => k c F3 H3 (s.trans s3) q3⟩
theorem qt_not (ha : QT X e t dt) : QT X (.UnaryOp .Not e pos) (tNot t) (dNot dt) := ⟨pt_not ha.pt, fun H0 F0 F H ρ σ Q R r q k => ha.st H0 F0 F H ρ σ _ _ r q fun z F2 H2 s hq => k _ F2 H2 s hq⟩
theorem qe_one {op} (h : QE b X e ta da) : QE b X (.BoolOp op [e] pos) ta da := ⟨pe_one h.pe, h.se⟩
theorem qe_and (ha : QE false X e ta da) (hb : QE b X (.BoolOp .And (f :: rest) pos) tb db) : QE b X (.BoolOp .And (e :: f :: rest) pos) (tAndV ta tb) (dAndV da db) := ⟨pe_and ha.pe hb.pe, fun H0 F0 F H ρ σ Q R r q k =>
  ha.se H0 F0 F H ρ σ _ _ r q fun v d F2 H2 s hv hq => by
    cases d with
    | bl z =>
      cases hv
      refine ⟨z, rfl, ?_⟩
      cases z with
      | true =>
        rw [if_pos rfl]
        exact hb.se H0 F0 F2 H2 ρ σ _ _ (r.step s) (hq.1 rfl) fun c d F3 H3 s3 hv q3 => k c d F3 H3 (s.trans s3) hv q3
      | false =>
        rw [if_neg Bool.false_ne_true]
        exact k _ _ F2 H2 s (.bl _) (hq.2 rfl)
    | _ => exact hq.elim⟩
theorem qe_or (ha : QE false X e ta da) (hb : QE b X (.BoolOp .Or (f :: rest) pos) tb db) : QE b X (.BoolOp .Or (e :: f :: rest) pos) (tOrV ta tb) (dOrV da db) := ⟨pe_or ha.pe hb.pe, fun H0 F0 F H ρ σ Q R r q k =>
  ha.se H0 F0 F H ρ σ _ _ r q fun v d F2 H2 s hv hq => by
    cases d with
    | bl z =>
      cases hv
      refine ⟨z, rfl, ?_⟩
      cases z with
      | true =>
        rw [if_pos rfl]
        exact k _ _ F2 H2 s (.bl _) (hq.1 rfl)
      | false =>
        rw [if_neg Bool.false_ne_true]
        exact hb.se H0 F0 F2 H2 ρ σ _ _ (r.step s) (hq.2 rfl) fun c d F3 H3 s3 hv q3 => k c d F3 H3 (s.trans s3) hv q3
    | _ => exact hq.elim⟩
theorem qe_not (ha : QE false X e ta da) : QE b X (.UnaryOp .Not e pos) (tNotV ta) (dNotV da) := ⟨pe_not ha.pe, fun H0 F0 F H ρ σ Q R r q k =>
  ha.se H0 F0 F H ρ σ _ _ r q fun v d F2 H2 s hv hq => by
    cases d with
    | bl z => cases hv; exact ⟨z, rfl, k _ _ F2 H2 s (.bl _) hq⟩
    | _ => exact hq.elim⟩
theorem qe_ifExp (hc : QT X g t dt) (ha : QE b X e ta da) (hb : QE b X f tb db) : QE b X (.IfExp g e f pos) (tIf t ta tb) (dIf dt da db) := ⟨pe_ifExp hc.pt ha.pe hb.pe, fun H0 F0 F H ρ σ Q R r q k =>
  hc.st H0 F0 F H ρ σ _ _ r q fun z F2 H2 s hq => by
    cases z with
    | true =>
      rw [if_pos rfl]
      exact ha.se H0 F0 F2 H2 ρ σ _ _ (r.step s) (hq.1 rfl) fun v d F3 H3 s3 hv q3 => k v d F3 H3 (s.trans s3) hv q3
    | false =>
      rw [if_neg Bool.false_ne_true]
      exact hb.se H0 F0 F2 H2 ρ σ _ _ (r.step s) (hq.2 rfl) fun v d F3 H3 s3 hv q3 => k v d F3 H3 (s.trans s3) hv q3⟩
end
/-! ### argument lists, displays -/
def dNil : DA := fun _ Q => Q []
def dCons (da : DE) (dr : DA) : DA := fun ρ Q => da ρ fun x => dr ρ fun xs => Q (x :: xs)
def dTup (da : DA) : DE := fun ρ Q => da ρ fun xs => xs.length ≤ 1000000 ∧ Q (.tup xs)
def dLst (da : DA) : DA := fun ρ Q => da ρ fun xs => xs.length ≤ 1000000 ∧ Q xs
theorem sz_ok {n : Nat} (h : n ≤ 1000000) : n ≤ sizeLine := Nat.le_trans h (by decide)
theorem sz_lt {n : Nat} (h : n < 1000000) : n < sizeLine := Nat.lt_of_lt_of_le h (by decide)
section
variable {X : Cx} {b c : Bool} {pos : Pos} {e : Expr} {es : List Expr} {te : TE} {de : DE} {ta : TA} {da : DA}
theorem qa_nil : QA b X [] tNil dNil := ⟨pa_nil, fun _ _ F H _ _ _ _ r q k => k _ _ F H (Stp.refl r.fh) .nil q⟩
theorem qa_cons (h : QE b X e te de) (hr : QA b X es ta da) (hs : starEach (e :: es) X.env = (false, eval e X.env) :: starEach es X.env := by rfl) : QA b X (e :: es) (tCons te ta) (dCons de da) := ⟨pa_cons h.pe hr.pa hs, fun H0 F0 F H ρ σ Q R r q k =>
  h.se H0 F0 F H ρ σ _ _ r q fun v d F2 H2 s hv hq => hr.sa H0 F0 F2 H2 ρ σ _ _ (r.step s) hq fun vs ds F3 H3 s3 hvs q3 => k _ _ F3 H3 (s.trans s3) (.cons (hv.stp s3) hvs) q3⟩
theorem qe_tup {x1} (h : QA true X es ta da) : QE b X (.Tuple es x1 pos) (tTup ta) (dTup da) := ⟨pe_tup h.pa, fun H0 F0 F H ρ σ Q R r q k =>
  h.sa H0 F0 F H ρ σ _ _ r q fun vs ds F2 H2 s hvs hq => ⟨by rw [RepL.len hvs]; exact sz_ok hq.1, fun p hp => by
    have s2 := Stp.cell (o := .tup vs) s.fh hp
    refine k _ _ _ _ (s.trans s2) ?_ hq.2
    exact (Rep.tup upd_same (RepL.up hvs s2.fF)).any s2.fh⟩⟩
theorem ql_lst (h : QA true X es ta da) : QL X (.List es pos) (tLst ta) (dLst da) := ⟨pe_lst h.pa, fun H0 F0 F H ρ σ Q R r q k =>
  h.sa H0 F0 F H ρ σ _ _ r q fun vs ds F2 H2 s hvs hq => ⟨by rw [RepL.len hvs]; exact sz_ok hq.1, fun p hp =>
    k p vs ds F2 _ (s.trans (Stp.grow s.fh (Ex.new hp))) (s.hH.back hp) (s.fh.back hp) upd_same hvs hq.2⟩⟩
/-- a new thing of one's own is frozen -/
theorem Stp.own {F H F2 H2 : Hp} {p : Addr} {o : HO} (s : Stp F H F2 H2) (hp : H p = none) (hf : F2 p = none) (h2 : H2 p = some o) : Stp F H (upd F2 p o) H2 :=
  ⟨s.fF.trans (Ex.new hf), s.hH, fun a u e => by
    by_cases z : a = p
    · subst z
      rw [upd_same] at e
      rw [h2, e]
    · rw [upd_ne z] at e
      exact s.fh a u e, fun a e n => by
    by_cases z : a = p
    · subst z; exact hp
    · rw [upd_ne z] at n
      exact s.nw a e n⟩
/-- a new list as data -/
def dL (dl : DA) : DE := fun ρ Q => dl ρ fun ds => Q (.lst ds)
theorem qe_ofL {dl : DA} (h : QL X e te dl) : QE b X e te (dL dl) := ⟨h.pe, fun H0 F0 F H ρ σ Q R r q k =>
  h.sl H0 F0 F H ρ σ _ _ r q fun p vs ds F2 H2 s hp hf h2 hvs hq => by
    refine k _ _ _ _ (Stp.own s hp hf h2) ?_ hq
    exact (Rep.lst upd_same (RepL.up hvs (Ex.new hf))).any (Stp.own s hp hf h2).fh⟩
end
end DL

/-! DL C: what is read off lists, tuples, texts, dicts; built-in calls -/
namespace DL
open PySem L2

theorem Ex.seqT {K : PySem.W.Frag} {H H' : Hp} {a : Addr} {xs : List V} (e : Ex H H') (h : SqT K H a xs) : SqT K H' a xs := by
  rcases h with (h | ⟨o, h⟩) | h
  · exact Or.inl (Or.inl (e a _ h))
  · exact Or.inl (Or.inr ⟨o, e a _ h⟩)
  · exact Or.inr h

/-! ### sources of items: a list itself; a list or the script; a list, a tuple or the script -/
def SX (b : Bool) (K : PySem.W.Frag) (te : TE) (dl : DA) : Prop := ∀ (H0 F0 F H : Hp) (ρ : Env) (σ : St) (Q : List D → Prop) (R : VK), Rel K H0 F0 F H ρ σ → dl ρ Q →
  (∀ a vs ds F2 H2, Stp F H F2 H2 → H2 a = some (.lst vs) → RepL K (pick b F2 H2) vs ds → Q ds → R (.ref a) H2) → te σ H R
def SS (b : Bool) (K : PySem.W.Frag) (te : TE) (dl : DA) : Prop := ∀ (H0 F0 F H : Hp) (ρ : Env) (σ : St) (Q : List D → Prop) (R : VK), Rel K H0 F0 F H ρ σ → dl ρ Q →
  (∀ a vs ds F2 H2, Stp F H F2 H2 → SqL K H2 a vs → RepL K (pick b F2 H2) vs ds → Q ds → R (.ref a) H2) → te σ H R
def SI (b : Bool) (K : PySem.W.Frag) (te : TE) (dl : DA) : Prop := ∀ (H0 F0 F H : Hp) (ρ : Env) (σ : St) (Q : List D → Prop) (R : VK), Rel K H0 F0 F H ρ σ → dl ρ Q →
  (∀ a vs ds F2 H2, Stp F H F2 H2 → (SqL K H2 a vs ∨ SqT K H2 a vs) → RepL K (pick b F2 H2) vs ds → Q ds → R (.ref a) H2) → te σ H R
structure QX (b : Bool) (X : Cx) (e : Expr) (te : TE) (dl : DA) : Prop where
  pe : PE X e te
  sx : SX b X.K te dl
structure QS (b : Bool) (X : Cx) (e : Expr) (te : TE) (dl : DA) : Prop where
  pe : PE X e te
  ss : SS b X.K te dl
structure QI (b : Bool) (X : Cx) (e : Expr) (te : TE) (dl : DA) : Prop where
  pe : PE X e te
  si : SI b X.K te dl
section
variable {X : Cx} {b c : Bool} {e : Expr} {te : TE} {dl : DA} {de : DE} {pos : Pos}
theorem qs_x (h : QX b X e te dl) : QS b X e te dl := ⟨h.pe, fun H0 F0 F H ρ σ Q R r q k => h.sx H0 F0 F H ρ σ Q R r q fun a vs ds F2 H2 s h1 => k a vs ds F2 H2 s (.inl (.inl h1))⟩
theorem qi_s (h : QS b X e te dl) : QI b X e te dl := ⟨h.pe, fun H0 F0 F H ρ σ Q R r q k => h.ss H0 F0 F H ρ σ Q R r q fun a vs ds F2 H2 s h1 => k a vs ds F2 H2 s (.inl h1)⟩
theorem qi_x (h : QX b X e te dl) : QI b X e te dl := qi_s (qs_x h)
theorem qx_new (h : QL X e te dl) : QX b X e te dl := ⟨h.pe, fun H0 F0 F H ρ σ Q R r q k => h.sl H0 F0 F H ρ σ Q R r q fun p vs ds F2 H2 s hp hf h2 hv hq => k p vs ds F2 H2 s h2 (hv.up (pick_of s.fh)) hq⟩
def dX (de : DE) : DA := fun ρ Q => de ρ fun d => match d with | .lst ds => Q ds | _ => False
def dS (de : DE) : DA := fun ρ Q => de ρ fun d => match d with | .lst ds => Q ds | .scr ns => Q (ns.map D.int) | _ => False
def dI (de : DE) : DA := fun ρ Q => de ρ fun d => match d with | .lst ds => Q ds | .tup ds => Q ds | .scr ns => Q (ns.map D.int) | _ => False
theorem qx_of (h : QE b X e te de) : QX b X e te (dX de) := ⟨h.pe, fun H0 F0 F H ρ σ Q R r q k => h.se H0 F0 F H ρ σ _ _ r q fun v d F2 H2 s hv hq => by
  cases d with
  | lst ds =>
    cases hv with
    | lst h1 h2 => exact k _ _ _ F2 H2 s (pick_to s.fh _ _ h1) h2 hq
  | _ => exact hq.elim⟩
theorem qs_of (h : QE b X e te de) : QS b X e te (dS de) := ⟨h.pe, fun H0 F0 F H ρ σ Q R r q k => h.se H0 F0 F H ρ σ _ _ r q fun v d F2 H2 s hv hq => by
  cases d with
  | lst ds =>
    cases hv with
    | lst h1 h2 => exact k _ _ _ F2 H2 s (.inl (.inl (pick_to s.fh _ _ h1))) h2 hq
  | scr ns =>
    cases hv with
    | scr h1 => exact k _ _ _ F2 H2 s ((pick_to s.fh).seq h1) (RepL.ints ns) hq
  | _ => exact hq.elim⟩
theorem qi_of (h : QE b X e te de) : QI b X e te (dI de) := ⟨h.pe, fun H0 F0 F H ρ σ Q R r q k => h.se H0 F0 F H ρ σ _ _ r q fun v d F2 H2 s hv hq => by
  cases d with
  | lst ds =>
    cases hv with
    | lst h1 h2 => exact k _ _ _ F2 H2 s (.inl (.inl (.inl (pick_to s.fh _ _ h1)))) h2 hq
  | tup ds =>
    cases hv with
    | tup h1 h2 => exact k _ _ _ F2 H2 s (.inr (.inl (.inl (pick_to s.fh _ _ h1)))) h2 hq
  | scr ns =>
    cases hv with
    | scr h1 => exact k _ _ _ F2 H2 s (.inl ((pick_to s.fh).seq h1)) (RepL.ints ns) hq
  | _ => exact hq.elim⟩
/-- of a name -/
def Sl.lst : Bool → Sl → (List D → Prop) → Prop
  | _, .fz (.lst ds), Q => Q ds
  | _, .l1 ds, Q => Q ds
  | false, .l2 dss, Q => Q (dss.map D.lst)
  | _, _, _ => False
def Sl.seq : Bool → Sl → (List D → Prop) → Prop
  | _, .fz (.lst ds), Q => Q ds
  | _, .fz (.scr ns), Q => Q (ns.map D.int)
  | _, .l1 ds, Q => Q ds
  | false, .l2 dss, Q => Q (dss.map D.lst)
  | _, _, _ => False
def Sl.its : Bool → Sl → (List D → Prop) → Prop
  | _, .fz (.lst ds), Q => Q ds
  | _, .fz (.tup ds), Q => Q ds
  | _, .fz (.scr ns), Q => Q (ns.map D.int)
  | _, .l1 ds, Q => Q ds
  | false, .l2 dss, Q => Q (dss.map D.lst)
  | _, _, _ => False
def dXv (b : Bool) (i : Nat) : DA := fun ρ Q => Sl.lst b (nth ρ i) Q
def dSv (b : Bool) (i : Nat) : DA := fun ρ Q => Sl.seq b (nth ρ i) Q
def dIv (b : Bool) (i : Nat) : DA := fun ρ Q => Sl.its b (nth ρ i) Q
section
variable {K : PySem.W.Frag} {F H : Hp} {s : Sl} {v : Option V} {o : List Addr} {Q : List D → Prop}
theorem slot_lst (e : Ex F H) (h : SlotOk K F H s v o) (q : Sl.lst b s Q) : ∃ a vs ds, v = some (.ref a) ∧ H a = some (.lst vs) ∧ RepL K (pick b F H) vs ds ∧ Q ds := by
  cases h with
  | un => cases b <;> exact q.elim
  | fz h =>
    cases h with
    | lst h1 h2 => exact ⟨_, _, _, rfl, e _ _ h1, h2.up (pick_of e), by cases b <;> exact q⟩
    | _ => cases b <;> exact q.elim
  | l1 h1 h2 => exact ⟨_, _, _, rfl, h1, h2.up (pick_of e), by cases b <;> exact q⟩
  | l2 h1 h2 =>
    cases b with
    | true => exact q.elim
    | false => exact ⟨_, _, _, rfl, h1, h2.rep e, q⟩
  | dk h1 h2 => cases b <;> exact q.elim
  | dl h1 h2 => cases b <;> exact q.elim
theorem slot_seq (e : Ex F H) (h : SlotOk K F H s v o) (q : Sl.seq b s Q) : ∃ a vs ds, v = some (.ref a) ∧ SqL K H a vs ∧ RepL K (pick b F H) vs ds ∧ Q ds := by
  cases h with
  | un => cases b <;> exact q.elim
  | fz h =>
    cases h with
    | lst h1 h2 => exact ⟨_, _, _, rfl, .inl (.inl (e _ _ h1)), h2.up (pick_of e), by cases b <;> exact q⟩
    | scr h1 => exact ⟨_, _, _, rfl, e.seq h1, RepL.ints _, by cases b <;> exact q⟩
    | _ => cases b <;> exact q.elim
  | l1 h1 h2 => exact ⟨_, _, _, rfl, .inl (.inl h1), h2.up (pick_of e), by cases b <;> exact q⟩
  | l2 h1 h2 =>
    cases b with
    | true => exact q.elim
    | false => exact ⟨_, _, _, rfl, .inl (.inl h1), h2.rep e, q⟩
  | dk h1 h2 => cases b <;> exact q.elim
  | dl h1 h2 => cases b <;> exact q.elim
theorem slot_its (e : Ex F H) (h : SlotOk K F H s v o) (q : Sl.its b s Q) : ∃ a vs ds, v = some (.ref a) ∧ (SqL K H a vs ∨ SqT K H a vs) ∧ RepL K (pick b F H) vs ds ∧ Q ds := by
  cases h with
  | un => cases b <;> exact q.elim
  | fz h =>
    cases h with
    | lst h1 h2 => exact ⟨_, _, _, rfl, .inl (.inl (.inl (e _ _ h1))), h2.up (pick_of e), by cases b <;> exact q⟩
    | tup h1 h2 => exact ⟨_, _, _, rfl, .inr (.inl (.inl (e _ _ h1))), h2.up (pick_of e), by cases b <;> exact q⟩
    | scr h1 => exact ⟨_, _, _, rfl, .inl (e.seq h1), RepL.ints _, by cases b <;> exact q⟩
    | _ => cases b <;> exact q.elim
  | l1 h1 h2 => exact ⟨_, _, _, rfl, .inl (.inl (.inl h1)), h2.up (pick_of e), by cases b <;> exact q⟩
  | l2 h1 h2 =>
    cases b with
    | true => exact q.elim
    | false => exact ⟨_, _, _, rfl, .inl (.inl (.inl h1)), h2.rep e, q⟩
  | dk h1 h2 => cases b <;> exact q.elim
  | dl h1 h2 => cases b <;> exact q.elim
end
theorem lst_ne {s : Sl} {Q : List D → Prop} (q : Sl.lst b s Q) : s ≠ .un := by
  intro e
  subst e
  cases b <;> exact q.elim
theorem seq_ne {s : Sl} {Q : List D → Prop} (q : Sl.seq b s Q) : s ≠ .un := by
  intro e
  subst e
  cases b <;> exact q.elim
theorem its_ne {s : Sl} {Q : List D → Prop} (q : Sl.its b s Q) : s ≠ .un := by
  intro e
  subst e
  cases b <;> exact q.elim
theorem qx_v (i : Nat) {x : Str} (hN : X.N[i]? = some x := by rfl) (hv : Vis X.env.scope x := by first | exact Or.inl rfl | exact Or.inr (Or.inl rfl) | exact Or.inr (Or.inr rfl)) (hd : (x == ("__debug__" : Str)) = false := by decide)
    (hcd : (x == ("__classdict__" : Str)) = false := by decide) : QX b X (.Name x pos) (tVar i) (dXv b i) := ⟨pe_var hN hv hd hcd, fun H0 F0 F H ρ σ Q R r q k => by
  obtain ⟨os, h1, _, _⟩ := r.sl
  obtain ⟨v, o, _, _, e1, e2, _, _⟩ := h1.at i (lst_ne q)
  obtain ⟨a, vs, ds, rfl, h, h2, hq⟩ := slot_lst r.fh e2 q
  exact ⟨_, e1, k a vs ds F H (Stp.refl r.fh) h h2 hq⟩⟩
theorem qs_v (i : Nat) {x : Str} (hN : X.N[i]? = some x := by rfl) (hv : Vis X.env.scope x := by first | exact Or.inl rfl | exact Or.inr (Or.inl rfl) | exact Or.inr (Or.inr rfl)) (hd : (x == ("__debug__" : Str)) = false := by decide)
    (hcd : (x == ("__classdict__" : Str)) = false := by decide) : QS b X (.Name x pos) (tVar i) (dSv b i) := ⟨pe_var hN hv hd hcd, fun H0 F0 F H ρ σ Q R r q k => by
  obtain ⟨os, h1, _, _⟩ := r.sl
  obtain ⟨v, o, _, _, e1, e2, _, _⟩ := h1.at i (seq_ne q)
  obtain ⟨a, vs, ds, rfl, h, h2, hq⟩ := slot_seq r.fh e2 q
  exact ⟨_, e1, k a vs ds F H (Stp.refl r.fh) h h2 hq⟩⟩
theorem qi_v (i : Nat) {x : Str} (hN : X.N[i]? = some x := by rfl) (hv : Vis X.env.scope x := by first | exact Or.inl rfl | exact Or.inr (Or.inl rfl) | exact Or.inr (Or.inr rfl)) (hd : (x == ("__debug__" : Str)) = false := by decide)
    (hcd : (x == ("__classdict__" : Str)) = false := by decide) : QI b X (.Name x pos) (tVar i) (dIv b i) := ⟨pe_var hN hv hd hcd, fun H0 F0 F H ρ σ Q R r q k => by
  obtain ⟨os, h1, _, _⟩ := r.sl
  obtain ⟨v, o, _, _, e1, e2, _, _⟩ := h1.at i (its_ne q)
  obtain ⟨a, vs, ds, rfl, h, h2, hq⟩ := slot_its r.fh e2 q
  exact ⟨_, e1, k a vs ds F H (Stp.refl r.fh) h h2 hq⟩⟩
end

/-! ### an item; the length -/
theorem RepL.atI {K : PySem.W.Frag} {H : Hp} {vs : List V} {ds : List D} {i : Int} {d : D} (h : RepL K H vs ds) (e : atI ds i = some d) : ∃ v, L2.atI vs i = some v ∧ Rep K H v d := by
  unfold L2.atI at e ⊢
  rw [h.len]
  cases q : ixN ds.length i with
  | none => rw [q] at e; cases e
  | some j =>
    rw [q] at e
    exact h.get e
def dIx (dl : DA) (di : DE) : DE := fun ρ Q => dl ρ fun ds => di ρ fun y => match y with | .int i => ∃ d, atI ds i = some d ∧ Q d | _ => False
def dLen (dl : DA) : DE := fun ρ Q => dl ρ fun ds => Q (.int ds.length)
def dIxS (da di : DE) : DE := fun ρ Q => da ρ fun x => di ρ fun y => match x, y with | .str z, .int i => z.length ≤ 1000000 ∧ ∃ c, atI z.cps.toList i = some c ∧ Q (.str ⟨#[c]⟩) | _, _ => False
section
variable {X : Cx} {b c : Bool} {e f : Expr} {te tf : TE} {dl : DA} {de df : DE} {pos : Pos}
theorem qe_ix (h : QI b X e te dl) (hi : QE false X f tf df) (hs : PlainIx f) {K : PySem.W.Frag} (hK : X.K = K := by rfl) : QE b X (.Subscript e f pos) (tOp (rIx K) te tf) (dIx dl df) := by
  subst hK
  exact ⟨pe_ix ix_seq h.pe hi.pe hs, fun H0 F0 F H ρ σ Q R r q k =>
  h.si H0 F0 F H ρ σ _ _ r q fun a vs ds F2 H2 s hs hr hq => hi.se H0 F0 F2 H2 ρ σ _ _ (r.step s) hq fun y dy F3 H3 s3 hy hq => by
    cases dy with
    | int i =>
      cases hy
      obtain ⟨d, e1, q⟩ := hq
      obtain ⟨v, e2, h2⟩ := (hr.stp s3).atI e1
      have fin := k v d F3 H3 (s.trans s3) h2 q
      rcases hs with hs | hs
      · exact .inl ⟨a, vs, i, v, rfl, rfl, s3.hH.seq hs, e2, fin⟩
      · exact .inr (.inl ⟨a, vs, i, v, rfl, rfl, s3.hH.seqT hs, e2, fin⟩)
    | _ => exact hq.elim⟩
theorem qe_ixS (h : QE false X e te de) (hi : QE false X f tf df) (hs : PlainIx f) {K : PySem.W.Frag} (hK : X.K = K := by rfl) : QE b X (.Subscript e f pos) (tOp (rIx K) te tf) (dIxS de df) := by
  subst hK
  exact ⟨pe_ix ix_seq h.pe hi.pe hs, fun H0 F0 F H ρ σ Q R r q k =>
  h.se H0 F0 F H ρ σ _ _ r q fun x dx F2 H2 s hx hq => hi.se H0 F0 F2 H2 ρ σ _ _ (r.step s) hq fun y dy F3 H3 s3 hy hq => by
    cases dx with
    | str z =>
      cases hx
      cases dy with
      | int i =>
        cases hy
        obtain ⟨hz, c, e1, q⟩ := hq
        exact .inr (.inr ⟨z, i, c, rfl, rfl, sz_ok hz, e1, k _ _ F3 H3 (s.trans s3) (.str _) q⟩)
      | _ => exact hq.elim
    | _ => exact hq.elim⟩
def rLenQ (K : PySem.W.Frag) : List V → Hp → VK → Prop := fun xs H Q => ∃ p ys, xs = [.ref p] ∧ (SqL K H p ys ∨ SqT K H p ys) ∧ Q (.int ys.length) H
theorem qe_len {x : Expr} {p : Pos} (h : QI false X x te dl) (hm : X.mg "len" = none) (hg : Gl X "len" := by rfl) (he : starEach [x] X.env = (false, eval x X.env) :: starEach [] X.env := by rfl) {K : PySem.W.Frag} (hK : X.K = K := by rfl) : QE b X (.Call (.Name "len" p) [x] [] pos) (tCB (rLenQ K) (tCons te tNil)) (dLen dl) := by
  subst hK
  exact ⟨pe_callB call_len_seq hg hm PySem.boot_len (pa_cons h.pe pa_nil he) (by decide) (by decide) he, fun H0 F0 F H ρ σ Q R r q k =>
  h.si H0 F0 F H ρ σ _ _ r q fun a vs ds F2 H2 s hs hr hq => ⟨a, vs, rfl, hs, k _ _ F2 H2 s (by rw [hr.len]; exact .int _) hq⟩⟩
end
/-! ### new lists -/
def cutD (xs : List D) (lo hi : Option Int) : List D := (xs.drop (HT.sIx xs.length 0 lo)).take (HT.sIx xs.length xs.length hi - HT.sIx xs.length 0 lo)
theorem RepL.cut {K : PySem.W.Frag} {H : Hp} {vs : List V} {ds : List D} (h : RepL K H vs ds) (lo hi : Option Int) : RepL K H (cutV vs lo hi) (cutD ds lo hi) := by
  unfold cutV cutD
  rw [h.len]
  exact (h.drop _).take _
def dONone : DO := fun _ Q => Q none
def dOSome (de : DE) : DO := fun ρ Q => de ρ fun x => match x with | .int i => Q (some i) | _ => False
def dCut (dl : DA) (d1 d2 : DO) : DA := fun ρ Q => dl ρ fun ds => d1 ρ fun lo => d2 ρ fun hi => Q (cutD ds lo hi)
def dRev (dl : DA) : DA := fun ρ Q => dl ρ fun ds => Q ds.reverse
def dCat (da db : DA) : DA := fun ρ Q => da ρ fun xs => db ρ fun ys => xs.length + ys.length ≤ 1000000 ∧ Q (xs ++ ys)
def isort (ns : List Int) : List Int := ns.mergeSort (fun a b => decide (a ≤ b))
def dSorted (dl : DA) : DA := fun ρ Q => dl ρ fun ds => ∃ ns : List Int, ds = ns.map D.int ∧ ns.length < 64 ∧ Q ((isort ns).map D.int)
theorem isort_eq {ns ms : List Int} (h : ms.Perm ns) (p : ms.Pairwise (· ≤ ·)) : ms = isort ns := by
  refine PySem.W.ksm_same (h.trans (List.mergeSort_perm ns _).symm) p ?_
  have := List.pairwise_mergeSort (le := fun a b : Int => decide (a ≤ b)) (fun a b c h1 h2 => by simp at *; omega) (fun a b => by simp; omega) ns
  exact this.imp fun h => by simpa using h
section
variable {X : Cx} {b c : Bool} {e f : Expr} {te tf : TE} {dl dm : DA} {de df : DE} {pos : Pos} {lo hi : Option Expr} {tl th : TO} {d1 d2 : DO}
theorem qo_none : QO X none tNoPart dONone := ⟨po_none, fun _ _ F H _ _ _ _ r q k => k _ F H (Stp.refl r.fh) q⟩
theorem qo_some (h : QE false X e te de) : QO X (some e) (tPart te) (dOSome de) := ⟨po_some h.pe, fun H0 F0 F H ρ σ Q R r q k =>
  h.se H0 F0 F H ρ σ _ _ r q fun v d F2 H2 s hv hq => by
    cases d with
    | int i => cases hv; exact ⟨i, rfl, k _ F2 H2 s hq⟩
    | _ => exact hq.elim⟩
theorem ql_cut {p2 : Pos} (h : QS true X e te dl) (h1 : QO X lo tl d1) (h2 : QO X hi th d2) : QL X (.Subscript e (.Slice lo hi none p2) pos) (tSl (rSlL X.K) te tl th) (dCut dl d1 d2) := ⟨pe_slice sl_list h.pe h1.po h2.po, fun H0 F0 F H ρ σ Q R r q k =>
  h.ss H0 F0 F H ρ σ _ _ r q fun a vs ds F2 H2 s hs hr hq => h1.so H0 F0 F2 H2 ρ σ _ _ (r.step s) hq fun o1 F3 H3 s3 hq => h2.so H0 F0 F3 H3 ρ σ _ _ ((r.step s).step s3) hq fun o2 F4 H4 s4 hq =>
    ⟨a, vs, rfl, (s3.hH.trans s4.hH).seq hs, fun p hp => by
      have st := (s.trans s3).trans s4
      exact k p _ _ F4 _ (st.trans (Stp.grow st.fh (Ex.new hp))) (st.hH.back hp) (st.fh.back hp) upd_same ((hr.up (s3.fF.trans s4.fF)).cut o1 o2) hq⟩⟩
theorem ql_rev {k : Nat} {p1 p2 p3 : Pos} (h : QS true X e te dl) : QL X (.Subscript e (.Slice none none (some (.UnaryOp .USub (.Constant (.int 1) k p1) p2)) p3) pos) (tRevL X.K te) (dRev dl) := ⟨pe_revL h.pe, fun H0 F0 F H ρ σ Q R r q k =>
  h.ss H0 F0 F H ρ σ _ _ r q fun a vs ds F2 H2 s hs hr hq => ⟨a, vs, rfl, hs, fun p hp =>
    k p _ _ F2 _ (s.trans (Stp.grow s.fh (Ex.new hp))) (s.hH.back hp) (s.fh.back hp) upd_same (RepL.reverse hr) hq⟩⟩
def rListQ (K : PySem.W.Frag) : List V → Hp → VK → Prop := fun xs H Q => ∃ p ys, xs = [.ref p] ∧ (SqL K H p ys ∨ SqT K H p ys) ∧ ∀ l, H l = none → Q (.ref l) (upd H l (.lst ys))
theorem ql_list {x : Expr} {p : Pos} (h : QI true X x te dl) (hm : X.mg "list" = none) (hg : Gl X "list" := by rfl) (hv : bootBuiltins "list" = some (.type "list") := by decide +kernel) (he : starEach [x] X.env = (false, eval x X.env) :: starEach [] X.env := by rfl) :
    QL X (.Call (.Name "list" p) [x] [] pos) (tCB (rListQ X.K) (tCons te tNil)) dl := ⟨pe_callTy call_list_of hg hm hv (pa_cons h.pe pa_nil he) (by decide) (by decide) he, fun H0 F0 F H ρ σ Q R r q k =>
  h.si H0 F0 F H ρ σ _ _ r q fun a vs ds F2 H2 s hs hr hq => ⟨a, vs, rfl, hs, fun p hp =>
    k p _ _ F2 _ (s.trans (Stp.grow s.fh (Ex.new hp))) (s.hH.back hp) (s.fh.back hp) upd_same hr hq⟩⟩
theorem ql_cat (h : QX true X e te dl) (h2 : QX true X f tf dm) : QL X (.BinOp e .Add f pos) (tOp rCat te tf) (dCat dl dm) := ⟨pe_op op_cat h.pe h2.pe, fun H0 F0 F H ρ σ Q R r q k =>
  h.sx H0 F0 F H ρ σ _ _ r q fun a vs ds F2 H2 s hs hr hq => h2.sx H0 F0 F2 H2 ρ σ _ _ (r.step s) hq fun a2 ws es F3 H3 s3 hs3 hr3 hq =>
    ⟨a, a2, vs, ws, rfl, rfl, s3.hH _ _ hs, hs3, by rw [RepL.len hr, RepL.len hr3]; exact sz_ok hq.1, fun p hp =>
      k p _ _ F3 _ ((s.trans s3).trans (Stp.grow s3.fh (Ex.new hp))) ((s.trans s3).hH.back hp) (s3.fh.back hp) upd_same ((hr.up s3.fF).append hr3) hq.2⟩⟩
theorem ql_sorted {x : Expr} {p : Pos} (h : QS false X x te dl) (hm : X.mg "sorted" = none) (hg : Gl X "sorted" := by rfl) (hv : bootBuiltins "sorted" = some (.builtin "sorted") := by decide +kernel) (he : starEach [x] X.env = (false, eval x X.env) :: starEach [] X.env := by rfl) :
    QL X (.Call (.Name "sorted" p) [x] [] pos) (tCB (rSorted X.K) (tCons te tNil)) (dSorted dl) := ⟨pe_callB cr_sorted hg hm hv (pa_cons h.pe pa_nil he) (by decide) (by decide) he, fun H0 F0 F H ρ σ Q R r q k =>
  h.ss H0 F0 F H ρ σ _ _ r q fun a vs ds F2 H2 s hs hr hq => by
    obtain ⟨ns, rfl, hl, hq⟩ := hq
    obtain rfl := hr.ints_inv
    refine ⟨a, ns, rfl, hs, hl, fun ns' p hp1 hp2 hp => ?_⟩
    obtain rfl := isort_eq hp1 hp2
    exact k p _ _ F2 _ (s.trans (Stp.grow s.fh (Ex.new hp))) (s.hH.back hp) (s.fh.back hp) upd_same (RepL.ints _) hq⟩
end
end DL

/-! DL D: statements, loops, comprehensions -/
namespace DL
open PySem L2

structure DEnds where
  nx : Env → Prop
  rt : D → Prop
  bk : Env → Prop := fun _ => False
  ct : Env → Prop := fun _ => False
abbrev DS := DEnds → Env → Prop
structure Good (K : PySem.W.Frag) (H0 F0 : Hp) (P : DEnds) (E : Ends) : Prop where
  nx : ∀ F H ρ σ, Rel K H0 F0 F H ρ σ → P.nx ρ → E.nx σ H
  rt : ∀ F H v d, Ex F0 F → Ex F H → Ex H0 H → (∀ a, F0 a = none → F a ≠ none → H0 a = none) → Rep K F v d → P.rt d → E.rt v H
  bk : ∀ F H ρ σ, Rel K H0 F0 F H ρ σ → P.bk ρ → E.bk σ H
  ct : ∀ F H ρ σ, Rel K H0 F0 F H ρ σ → P.ct ρ → E.ct σ H
def SSt (K : PySem.W.Frag) (ts : TS) (ds : DS) : Prop := ∀ (H0 F0 F H : Hp) (ρ : Env) (σ : St) (P : DEnds) (E : Ends), Rel K H0 F0 F H ρ σ → ds P ρ → Good K H0 F0 P E → ts E σ H
structure QSt (X : Cx) (s : Stmt) (ts : TS) (ds : DS) : Prop where
  ps : PS X s ts
  ss : SSt X.K ts ds
structure QSs (X : Cx) (s : List Stmt) (ts : TS) (ds : DS) : Prop where
  ps : PSs X s ts
  ss : SSt X.K ts ds
def dNext : DS := fun P ρ => P.nx ρ
def dSeq (a b : DS) : DS := fun P ρ => a { P with nx := b P } ρ
def dBreak : DS := fun P ρ => P.bk ρ
def dCont : DS := fun P ρ => P.ct ρ
def dIfS (t : DT) (a b : DS) : DS := fun P ρ => t ρ fun c => (c = true → a P ρ) ∧ (c = false → b P ρ)
def dDrop (de : DE) : DS := fun P ρ => de ρ fun _ => P.nx ρ
def dSet (i : Nat) (de : DE) : DS := fun P ρ => de ρ fun d => P.nx (put ρ i (.fz d))
def dSetL (i : Nat) (dl : DA) : DS := fun P ρ => dl ρ fun ds => P.nx (put ρ i (.l1 ds))
section
variable {K : PySem.W.Frag} {F H F2 H2 H0 F0 : Hp} {ρ : Env} {σ : St}
/-- one's own things are frozen -/
def Sl.frz : Sl → Sl
  | .l1 ds => .fz (.lst ds)
  | .l2 dss => .fz (.lst (dss.map D.lst))
  | .dk m => .fz (.dct m)
  | .dl m => .fz (.dct (m.map fun p => (p.1, D.lst p.2)))
  | s => s
def frzAll : Env → Env
  | [] => []
  | s :: r => s.frz :: frzAll r
theorem OwnD.rep (e : Ex F H) : ∀ {kvs : List (Key × V)} {as : List Addr} {m : List (Int × List D)}, OwnD K F H kvs as m → RepD K H kvs (m.map fun p => (p.1, D.lst p.2))
  | _, _, _, .nil => .nil
  | _, _, _, .cons h1 h2 h3 => .cons (.lst h1 (h2.up e)) (OwnD.rep e h3)
theorem OwnLs.repIn (e : Ex F F2) : ∀ {as : List Addr} {dss : List (List D)}, (∀ a ∈ as, F2 a = H a) → OwnLs K F H as dss → RepL K F2 (as.map V.ref) (dss.map D.lst)
  | _, _, _, .nil => .nil
  | _, _, k, .cons h1 h2 h3 => .cons (.lst (by rw [k _ (List.mem_cons_self ..)]; exact h1) (h2.up e)) (OwnLs.repIn e (fun a ha => k a (List.mem_cons_of_mem _ ha)) h3)
theorem OwnD.repIn (e : Ex F F2) : ∀ {kvs : List (Key × V)} {as : List Addr} {m : List (Int × List D)}, (∀ a ∈ as, F2 a = H a) → OwnD K F H kvs as m → RepD K F2 kvs (m.map fun p => (p.1, D.lst p.2))
  | _, _, _, _, .nil => .nil
  | _, _, _, k, .cons h1 h2 h3 => .cons (.lst (by rw [k _ (List.mem_cons_self ..)]; exact h1) (h2.up e)) (OwnD.repIn e (fun a ha => k a (List.mem_cons_of_mem _ ha)) h3)
theorem SlotOk.frz {s : Sl} {v : Option V} {o : List Addr} (h : SlotOk K F H s v o) (e : Ex F F2) (k : ∀ a ∈ o, F2 a = H a) : SlotOk K F2 H s.frz v [] := by
  cases h with
  | un => exact .un _
  | fz h => exact .fz (h.up e)
  | l1 h1 h2 => exact .fz (.lst (by rw [k _ (List.mem_cons_self ..)]; exact h1) (h2.up e))
  | l2 h1 h2 => exact .fz (.lst (by rw [k _ (List.mem_cons_self ..)]; exact h1) (h2.repIn e fun a ha => k a (List.mem_cons_of_mem _ ha)))
  | dk h1 h2 => exact .fz (.dct (by rw [k _ (List.mem_cons_self ..)]; exact h1) (h2.up e))
  | dl h1 h2 => exact .fz (.dct (by rw [k _ (List.mem_cons_self ..)]; exact h1) (h2.repIn e fun a ha => k a (List.mem_cons_of_mem _ ha)))
theorem Slots.frz (e : Ex F F2) : ∀ {ρ : Env} {σ : St} {os : List Addr}, (∀ a ∈ os, F2 a = H a) → Slots K F H ρ σ os → Slots K F2 H (frzAll ρ) σ []
  | _, _, _, _, .nil => .nil
  | _, _, _, k, .cons h1 h2 => .cons (o := []) (os := []) (h1.frz e fun a ha => k a (List.mem_append.mpr (.inl ha))) (Slots.frz e (fun a ha => k a (List.mem_append.mpr (.inr ha))) h2)
/-- F and what stands at the addresses os -/
def join (F H : Hp) (os : List Addr) : Hp := fun a => if a ∈ os then H a else F a
theorem join_in {F H : Hp} {os : List Addr} {a : Addr} (h : a ∈ os) : join F H os a = H a := by unfold join; rw [if_pos h]
theorem join_out {F H : Hp} {os : List Addr} {a : Addr} (h : a ∉ os) : join F H os a = F a := by unfold join; rw [if_neg h]
theorem join_ex {os : List Addr} (e : ∀ a ∈ os, F a = none) : Ex F (join F H os) := fun a o h => by
  by_cases z : a ∈ os
  · rw [e a z] at h; cases h
  · rw [join_out z]; exact h
theorem join_to {os : List Addr} (e : Ex F H) : Ex (join F H os) H := fun a o h => by
  by_cases z : a ∈ os
  · rw [join_in z] at h; exact h
  · rw [join_out z] at h; exact e a o h
theorem join_nw {os : List Addr} {a : Addr} (n : join F H os a ≠ none) : F a ≠ none ∨ a ∈ os := by
  by_cases z : a ∈ os
  · exact .inr z
  · rw [join_out z] at n; exact .inl n
theorem Rel.frzAll (r : Rel K H0 F0 F H ρ σ) : ∃ F2, Rel K H0 F0 F2 H (DL.frzAll ρ) σ := by
  obtain ⟨os, h1, h2, h3⟩ := r.sl
  have e : Ex F (join F H os) := join_ex fun a ha => (h3 a ha).1
  refine ⟨join F H os, ⟨[], h1.frz e fun a ha => join_in ha, List.nodup_nil, fun a ha => by cases ha⟩, r.f0.trans e, join_to r.fh, r.h0, fun a e n => ?_⟩
  rcases join_nw n with n | n
  · exact r.nw a e n
  · exact (h3 a n).2
/-- one slot is frozen -/
theorem Rel.frz1 (r : Rel K H0 F0 F H ρ σ) (i : Nat) : ∃ F2, Ex F F2 ∧ Rel K H0 F0 F2 H (put ρ i (nth ρ i).frz) σ := by
  by_cases hi : nth ρ i = .un
  · have : put ρ i (nth ρ i).frz = ρ := by
      rw [hi]
      show put ρ i .un = ρ
      clear r
      induction ρ generalizing i with
      | nil => rfl
      | cons s ρ ih =>
        cases i with
        | zero =>
          have : s = .un := hi
          subst this
          rfl
        | succ i => show s :: put ρ i .un = s :: ρ; rw [ih i hi]
    rw [this]
    exact ⟨F, Ex.refl F, r⟩
  · obtain ⟨v, o, e1, e2, n, ho, k⟩ := r.mutate i hi
    have e : Ex F (join F H o) := join_ex fun a ha => (ho a ha).1
    refine ⟨join F H o, e, k (join F H o) H _ [] e (join_to r.fh) r.h0 (fun a e n => ?_) (fun _ _ _ h => h) (e2.frz e fun a ha => join_in ha) List.nodup_nil (fun a ha => by cases ha) (fun a ha n => ?_)⟩
    · rcases join_nw n with n | n
      · exact r.nw a e n
      · exact (ho a n).2
    · rcases join_nw n with n | n
      · exact .inl n
      · exact (ha n).elim
end
def dRet (de : DE) : DS := fun P ρ => de (frzAll ρ) P.rt
def dRetN : DS := fun P _ => P.rt .non
def dFrz (is : List Nat) (a : DS) : DS := fun P ρ => a P (is.foldl (fun ρ i => put ρ i (nth ρ i).frz) ρ)
section
variable {X : Cx} {pos : Pos} {e : Expr} {te : TE} {de : DE} {st : Stmt} {rest a b : List Stmt} {t u : TS} {d d' : DS} {tt : TT} {dt : DT} {dl : DA}
theorem qss_nil : QSs X [] tNext dNext := ⟨pss_nil, fun H0 F0 F H ρ σ P E r q g => g.nx _ _ _ _ r q⟩
theorem qss_cons (h1 : QSt X st t d) (h2 : QSs X rest u d') : QSs X (st :: rest) (tSeq t u) (dSeq d d') := ⟨pss_cons h1.ps h2.ps, fun H0 F0 F H ρ σ P E r q g =>
  h1.ss H0 F0 F H ρ σ _ _ r q ⟨fun F H ρ σ r q => h2.ss H0 F0 F H ρ σ P E r q g, g.rt, g.bk, g.ct⟩⟩
theorem qss_one (h : QSt X st t d) : QSs X [st] t d := ⟨pss_one h.ps, h.ss⟩
theorem qss_frz (is : List Nat) (h : QSs X rest t d) : QSs X rest t (dFrz is d) := ⟨h.ps, fun H0 F0 F H ρ σ P E r q g => by
  have : ∃ F2, Rel X.K H0 F0 F2 H (is.foldl (fun ρ i => put ρ i (nth ρ i).frz) ρ) σ := by
    clear q
    induction is generalizing F ρ with
    | nil => exact ⟨F, r⟩
    | cons i is ih =>
      obtain ⟨F2, _, r2⟩ := r.frz1 i
      exact ih F2 _ r2
  obtain ⟨F2, r2⟩ := this
  exact h.ss H0 F0 F2 H _ σ P E r2 q g⟩
theorem qs_pass : QSt X (.Pass pos) tNext dNext := ⟨ps_pass, fun H0 F0 F H ρ σ P E r q g => g.nx _ _ _ _ r q⟩
theorem qs_break : QSt X (.Break pos) tBreak dBreak := ⟨ps_break, fun H0 F0 F H ρ σ P E r q g => g.bk _ _ _ _ r q⟩
theorem qs_cont : QSt X (.Continue pos) tCont dCont := ⟨ps_continue, fun H0 F0 F H ρ σ P E r q g => g.ct _ _ _ _ r q⟩
theorem qs_if {c : Expr} (hc : QT X c tt dt) (ha : QSs X a t d) (hb : QSs X b u d') : QSt X (.If c a b pos) (tIfS tt t u) (dIfS dt d d') := ⟨ps_if hc.pt ha.ps hb.ps, fun H0 F0 F H ρ σ P E r q g =>
  hc.st H0 F0 F H ρ σ _ _ r q fun z F2 H2 s hq => by
    cases z with
    | true => rw [if_pos rfl]; exact ha.ss H0 F0 F2 H2 ρ σ P E (r.step s) (hq.1 rfl) g
    | false => rw [if_neg Bool.false_ne_true]; exact hb.ss H0 F0 F2 H2 ρ σ P E (r.step s) (hq.2 rfl) g⟩
theorem qs_ret (h : QE true X e te de) : QSt X (.Return (some e) pos) (tRet te) (dRet de) := ⟨ps_ret h.pe, fun H0 F0 F H ρ σ P E r q g => by
  obtain ⟨F2, r2⟩ := r.frzAll
  exact h.se H0 F0 F2 H _ σ P.rt E.rt r2 q fun v d F3 H3 s hv hq => by
    have r3 := r2.step s
    exact g.rt F3 H3 v d r3.f0 r3.fh r3.h0 r3.nw hv hq⟩
theorem qs_retN : QSt X (.Return none pos) tRetN dRetN := ⟨ps_retN, fun H0 F0 F H ρ σ P E r q g => g.rt F H .non .non r.f0 r.fh r.h0 r.nw .non q⟩
theorem qs_expr (h : QE false X e te de) (hs : swapsWith e none pos.line X.env = pure false := by rfl) : QSt X (.Expr e pos) (tDrop te) (dDrop de) := ⟨ps_expr h.pe hs, fun H0 F0 F H ρ σ P E r q g =>
  h.se H0 F0 F H ρ σ _ _ r q fun v d F2 H2 s hv hq => g.nx _ _ _ _ (r.step s) hq⟩
theorem qs_set {i : Nat} {x : Str} {pos' : Pos} (hN : X.N.Nodup) (hi : X.N[i]? = some x) (hx : Loc X.env.scope x) (he : QE true X e te de) (hs : swapsWith e (some (.Name x pos')) pos.line X.env = pure false := by rfl)
    (hf : X.fn x = true ∨ X.env.scope.names.lookup x = some .local := by first | exact .inl rfl | exact .inr rfl | assumption) : QSt X (.Assign [.Name x pos'] e pos) (tAsg te (gName i)) (dSet i de) := ⟨ps_set hN hi hx he.pe hs hf, fun H0 F0 F H ρ σ P E r q g =>
  he.se H0 F0 F H ρ σ _ _ r q fun v d F2 H2 s hv hq => g.nx _ _ _ _ ((r.step s).putFz i hv) hq⟩
theorem qs_setL {i : Nat} {x : Str} {pos' : Pos} (hN : X.N.Nodup) (hi : X.N[i]? = some x) (hx : Loc X.env.scope x) (he : QL X e te dl) (hs : swapsWith e (some (.Name x pos')) pos.line X.env = pure false := by rfl)
    (hf : X.fn x = true ∨ X.env.scope.names.lookup x = some .local := by first | exact .inl rfl | exact .inr rfl | assumption) : QSt X (.Assign [.Name x pos'] e pos) (tAsg te (gName i)) (dSetL i dl) := ⟨ps_set hN hi hx he.pe hs hf, fun H0 F0 F H ρ σ P E r q g =>
  he.sl H0 F0 F H ρ σ _ _ r q fun p vs ds F2 H2 s hp hf h2 hv hq => g.nx _ _ _ _ (r.setOwn s i (.l1 h2 hv) (by simp) (fun a ha => by simp only [List.mem_singleton] at ha; subst ha; exact ⟨hf, hp⟩)) hq⟩
end

/-! ### loops -/
/-- a frozen list -/
def SF (K : PySem.W.Frag) (te : TE) (dl : DA) : Prop := ∀ (H0 F0 F H : Hp) (ρ : Env) (σ : St) (Q : List D → Prop) (R : VK), Rel K H0 F0 F H ρ σ → dl ρ Q →
  (∀ a vs ds F2 H2, Stp F H F2 H2 → SqL K F2 a vs → RepL K F2 vs ds → Q ds → R (.ref a) H2) → te σ H R
structure QF (X : Cx) (e : Expr) (te : TE) (dl : DA) : Prop where
  pe : PE X e te
  sf : SF X.K te dl
section
variable {X : Cx} {e : Expr} {te : TE} {de : DE} {dl : DA}
theorem qf_of (h : QE true X e te de) : QF X e te (dS de) := ⟨h.pe, fun H0 F0 F H ρ σ Q R r q k => h.se H0 F0 F H ρ σ _ _ r q fun v d F2 H2 s hv hq => by
  cases d with
  | lst ds =>
    cases hv with
    | lst h1 h2 => exact k _ _ _ F2 H2 s (.inl (.inl h1)) h2 hq
  | scr ns =>
    cases hv with
    | scr h1 => exact k _ _ _ F2 H2 s h1 (RepL.ints ns) hq
  | _ => exact hq.elim⟩
theorem qf_new (h : QL X e te dl) : QF X e te dl := ⟨h.pe, fun H0 F0 F H ρ σ Q R r q k => h.sl H0 F0 F H ρ σ Q R r q fun p vs ds F2 H2 s hp hf h2 hv hq =>
  k p vs ds _ H2 (Stp.own s hp hf h2) (.inl (.inl upd_same)) (hv.up (Ex.new hf)) hq⟩
end
def dForG (body : DS) (j : Nat) (P : DEnds) : List D → Env → Prop
  | [], ρ => P.nx ρ
  | x :: xs, ρ => body { P with nx := dForG body j P xs, ct := dForG body j P xs, bk := P.nx } (put ρ j (.fz x))
def dFor (dl : DA) (j : Nat) (body : DS) : DS := fun P ρ => dl ρ fun ds => dForG body j P ds ρ
def rangeD (lo hi : Int) : List D := (List.range (hi - lo).toNat).map fun i => D.int (lo + (i : Nat))
def dRng1 (da : DA) : DA := fun ρ Q => da ρ fun xs => match xs with | [.int j] => (-(2 ^ 62) ≤ j ∧ j < 2 ^ 62) ∧ Q (rangeD 0 j) | _ => False
def dRng2 (da : DA) : DA := fun ρ Q => da ρ fun xs => match xs with | [.int i, .int j] => (-(2 ^ 62) ≤ i ∧ i < 2 ^ 62 ∧ -(2 ^ 62) ≤ j ∧ j < 2 ^ 62) ∧ Q (rangeD i j) | _ => False
section
variable {X : Cx} {pos : Pos} {e : Expr} {te : TE} {de : DE} {body : List Stmt} {tb : TS} {db : DS} {dl : DA} {tt : TT} {dt : DT} {j : Nat} {K : PySem.W.Frag}
theorem Rel.base {H0 F0 F H : Hp} {ρ : Env} {σ : St} (r : Rel K H0 F0 F H ρ σ) : Rel K H0 F F H ρ σ := ⟨r.sl, Ex.refl F, r.fh, r.h0, fun a e n => (n e).elim⟩
theorem Rel.lift {H0 F0 F F2 H H2 : Hp} {ρ ρ2 : Env} {σ σ2 : St} (r : Rel K H0 F0 F H ρ σ) (r2 : Rel K H0 F F2 H2 ρ2 σ2) : Rel K H0 F0 F2 H2 ρ2 σ2 := ⟨r2.sl, r.f0.trans r2.f0, r2.fh, r2.h0, fun a e n => by
  by_cases z : F a = none
  · exact r2.nw a z n
  · exact r.nw a e z⟩
theorem Good.base {H0 F0 F H : Hp} {ρ : Env} {σ : St} {P : DEnds} {E : Ends} (g : Good K H0 F0 P E) (r : Rel K H0 F0 F H ρ σ) : Good K H0 F P E :=
  ⟨fun F2 H2 ρ2 σ2 r2 q => g.nx _ _ _ _ (r.lift r2) q, fun F2 H2 v d e1 e2 e3 n hv q => g.rt F2 H2 v d (r.f0.trans e1) e2 e3 (fun a e m => by
    by_cases z : F a = none
    · exact n a z m
    · exact r.nw a e z) hv q, fun F2 H2 ρ2 σ2 r2 q => g.bk _ _ _ _ (r.lift r2) q, fun F2 H2 ρ2 σ2 r2 q => g.ct _ _ _ _ (r.lift r2) q⟩
theorem qs_forL {x : Str} {px : Pos} (hp : PassesOwn (model X.prog X.w) X.A X.env X.xe) (hc : X.calm = true) (hN : X.N.Nodup) (hi : X.N[j]? = some x) (hx : Loc X.env.scope x) (h : QF X e te dl) (hb : QSs X body tb db)
    (hf : X.fn x = true ∨ X.env.scope.names.lookup x = some .local := by first | exact .inl rfl | exact .inr rfl | assumption)
    (hfs : ∀ x, foldedSetIterable e X.env x = pure x := by intro _; rfl) : QSt X (.For (.Name x px) e body [] pos) (tFor (iList X.K te) (gName j) tb) (dFor dl j db) :=
  ⟨ps_for hp hc (pi_list h.pe) (pg_name hN hi hx hf) hb.ps hfs, fun H0 F0 F1 H1 ρ1 σ1 P E r1 q g1 => h.sf H0 F0 F1 H1 ρ1 σ1 _ _ r1 q fun a vs ds F H s hs hv q => by
  have r := r1.step s
  have g := g1.base r
  refine ⟨a, rfl, ⟨vs, r.fh.seq hs⟩, for_list (K := X.K) (a := a) (xs := vs) (g := gName j) (fun k σ H => ∃ F' ρ', Rel X.K H0 F F' H ρ' σ ∧ dForG db j P (ds.drop k) ρ') ⟨F, ρ1, r.base, q⟩ (fun k σ H _ ⟨F', ρ', r', _⟩ => (r'.f0.trans r'.fh).seq hs) ?_ ?_⟩
  · rintro k x σ H hx ⟨F', ρ', r', q⟩
    have hk : k < ds.length := by
      have := (List.getElem?_eq_some_iff.mp hx).1
      rw [hv.len] at this
      exact this
    obtain ⟨v, e1, e2⟩ := hv.get (List.getElem?_eq_getElem hk)
    obtain rfl : v = x := Option.some.inj (e1.symm.trans hx)
    rw [List.drop_eq_getElem_cons hk] at q
    exact hb.ss H0 F F' H _ _ _ _ (r'.putFz j (e2.up r'.f0)) q ⟨fun F2 H2 ρ2 σ2 r2 q2 => ⟨F2, ρ2, r2, q2⟩, g.rt, g.nx, fun F2 H2 ρ2 σ2 r2 q2 => ⟨F2, ρ2, r2, q2⟩⟩
  · rintro σ H ⟨F', ρ', r', q⟩
    rw [hv.len, List.drop_length] at q
    exact g.nx F' H ρ' σ r' q⟩
theorem rangeD_len (lo hi : Int) : (rangeD lo hi).length = (hi - lo).toNat := by unfold rangeD; rw [List.length_map, List.length_range]
theorem rangeD_get {lo hi : Int} {k : Nat} (h : k < (hi - lo).toNat) : (rangeD lo hi)[k]'(by rw [rangeD_len]; exact h) = .int (lo + k) := by
  unfold rangeD
  rw [List.getElem_map, List.getElem_range]
theorem ss_forR {H0 F0 F H : Hp} {ρ : Env} {σ : St} {P : DEnds} {E : Ends} {lo hi : Int} (hb : SSt K tb db) (r : Rel K H0 F0 F H ρ σ) (q : dForG db j P (rangeD lo hi) ρ) (g : Good K H0 F0 P E) :
    ∃ W : Nat → Nat → St → Hp → Prop, (∃ m, W 0 m σ H) ∧ ∀ i m σ H, W i m σ H →
      ((Itr lo (hi - lo).toNat).stop i H ∧ E.nx σ H) ∨ ((Itr lo (hi - lo).toNat).go i H ∧ ∃ Nx : St → Hp → Prop, (∀ σ' H', Nx σ' H' → ∃ m', m' < m ∧ W (i + 1) m' σ' H') ∧ ∀ x H', (Itr lo (hi - lo).toNat).yld i H x H' → gName j x σ H' fun σ2 H2 => tb { E with nx := Nx, ct := Nx, bk := E.nx } σ2 H2) := by
  refine for_range (lo := lo) (n := (hi - lo).toNat) (g := gName j) (fun k σ H => ∃ F' ρ', Rel K H0 F0 F' H ρ' σ ∧ dForG db j P ((rangeD lo hi).drop k) ρ') ⟨F, ρ, r, q⟩ ?_ ?_
  · rintro k σ H hk ⟨F', ρ', r', q⟩
    rw [List.drop_eq_getElem_cons (by rw [rangeD_len]; exact hk), rangeD_get hk] at q
    exact hb H0 F0 F' H _ _ _ _ (r'.putFz j (.int _)) q ⟨fun F2 H2 ρ2 σ2 r2 q2 => ⟨F2, ρ2, r2, q2⟩, g.rt, g.nx, fun F2 H2 ρ2 σ2 r2 q2 => ⟨F2, ρ2, r2, q2⟩⟩
  · rintro σ H ⟨F', ρ', r', q⟩
    rw [List.drop_eq_nil_of_le (by rw [rangeD_len]; exact Nat.le_refl _)] at q
    exact g.nx F' H ρ' σ r' q
theorem qs_forR1 {x : Str} {px p p2 : Pos} {a : Expr} {ta : TA} {da : DA} (hp : PassesOwn (model X.prog X.w) X.A X.env X.xe) (hc : X.calm = true) (hN : X.N.Nodup) (hi : X.N[j]? = some x) (hx : Loc X.env.scope x) (hm : X.mg "range" = none) (h : QA false X [a] ta da) (hb : QSs X body tb db)
    (hg : Gl X "range" := by rfl) (hs : starEach [a] X.env = [(false, eval a X.env)] := by rfl)
    (hf : X.fn x = true ∨ X.env.scope.names.lookup x = some .local := by first | exact .inl rfl | exact .inr rfl | assumption) : QSt X (.For (.Name x px) (.Call (.Name "range" p) [a] [] p2) body [] pos) (tFor (iRng1 ta) (gName j) tb) (dFor (dRng1 da) j db) :=
  ⟨ps_for hp hc (pi_range1 hg hm h.pa hs) (pg_name hN hi hx hf) hb.ps, fun H0 F0 F1 H1 ρ1 σ1 P E r1 q g1 => h.sa H0 F0 F1 H1 ρ1 σ1 _ _ r1 q fun vs ds F H s hv q => by
    split at q
    · cases hv with
      | cons h1 h2 =>
        cases h1
        cases h2
        refine ⟨_, rfl, q.1.1, q.1.2, ?_⟩
        have := ss_forR (lo := 0) (j := j) hb.ss (r1.step s) q.2 g1
        rwa [Int.sub_zero] at this
    · exact q.elim⟩
theorem qs_forR2 {x : Str} {px p p2 : Pos} {a b : Expr} {ta : TA} {da : DA} (hp : PassesOwn (model X.prog X.w) X.A X.env X.xe) (hc : X.calm = true) (hN : X.N.Nodup) (hi : X.N[j]? = some x) (hx : Loc X.env.scope x) (hm : X.mg "range" = none) (h : QA false X [a, b] ta da) (hb : QSs X body tb db)
    (hg : Gl X "range" := by rfl) (hs : starEach [a, b] X.env = [(false, eval a X.env), (false, eval b X.env)] := by rfl) (hs2 : starEach [b] X.env = [(false, eval b X.env)] := by rfl)
    (hf : X.fn x = true ∨ X.env.scope.names.lookup x = some .local := by first | exact .inl rfl | exact .inr rfl | assumption) : QSt X (.For (.Name x px) (.Call (.Name "range" p) [a, b] [] p2) body [] pos) (tFor (iRng2 ta) (gName j) tb) (dFor (dRng2 da) j db) :=
  ⟨ps_for hp hc (pi_range2 hg hm h.pa hs hs2) (pg_name hN hi hx hf) hb.ps, fun H0 F0 F1 H1 ρ1 σ1 P E r1 q g1 => h.sa H0 F0 F1 H1 ρ1 σ1 _ _ r1 q fun vs ds F H s hv q => by
    split at q
    · cases hv with
      | cons h1 h2 =>
        cases h1
        cases h2 with
        | cons h3 h4 =>
          cases h3
          cases h4
          exact ⟨_, _, rfl, q.1, ss_forR (j := j) hb.ss (r1.step s) q.2 g1⟩
    · exact q.elim⟩
/-- while: W by a measure -/
def dWhile (t : DT) (body : DS) : DS := fun P ρ => ∃ W : Nat → Env → Prop, (∃ m, W m ρ) ∧ ∀ m ρ', W m ρ' → t ρ' fun c => (c = true → body { P with nx := fun ρ2 => ∃ m', m' < m ∧ W m' ρ2, ct := fun ρ2 => ∃ m', m' < m ∧ W m' ρ2, bk := P.nx } ρ') ∧ (c = false → P.nx ρ')
theorem qs_while {c : Expr} (hp : PassesOwn (model X.prog X.w) X.A X.env X.xe) (hc : QT X c tt dt) (hb : QSs X body tb db) : QSt X (.While c body [] pos) (tWhile tt tb) (dWhile dt db) :=
  ⟨ps_while hp hc.pt hb.ps, fun H0 F0 F1 H1 ρ1 σ1 P E r1 q g => by
    obtain ⟨W, ⟨m0, w0⟩, k⟩ := q
    refine ⟨fun m σ H => ∃ F ρ, Rel X.K H0 F0 F H ρ σ ∧ W m ρ, ⟨m0, F1, ρ1, r1, w0⟩, fun m σ H ⟨F, ρ, r, w⟩ => ?_⟩
    refine hc.st H0 F0 F H ρ σ _ _ r (k m ρ w) fun z F2 H2 s hq => ?_
    cases z with
    | true =>
      rw [if_pos rfl]
      refine ⟨fun σ' H' => ∃ m', m' < m ∧ ∃ F ρ, Rel X.K H0 F0 F H' ρ σ' ∧ W m' ρ, fun _ _ h => h, ?_⟩
      exact hb.ss H0 F0 F2 H2 ρ σ _ _ (r.step s) (hq.1 rfl) ⟨fun F H ρ σ r ⟨m', l, w⟩ => ⟨m', l, F, ρ, r, w⟩, g.rt, g.nx, fun F H ρ σ r ⟨m', l, w⟩ => ⟨m', l, F, ρ, r, w⟩⟩
    | false =>
      rw [if_neg Bool.false_ne_true]
      exact g.nx F2 H2 ρ σ (r.step s) (hq.2 rfl)⟩
end
end DL

/-! DL E: changes of lists and dicts of one's own; comprehensions -/
namespace DL
open PySem L2
section
variable {K : PySem.W.Frag} {F H F2 H2 H0 F0 : Hp} {ρ : Env} {σ : St}
theorem ne_mem {a b : Addr} {l : List Addr} (h : b ∈ l) (n : a ∉ l) : b ≠ a := fun z => n (z ▸ h)
theorem Rel.l1 (r : Rel K H0 F0 F H ρ σ) {i : Nat} {ds : List D} (h : nth ρ i = .l1 ds) : ∃ a vs, σ[i]? = some (some (.ref a)) ∧ H a = some (.lst vs) ∧ RepL K F vs ds ∧
    ∀ vs' ds', RepL K F vs' ds' → Rel K H0 F0 F (upd H a (.lst vs')) (put ρ i (.l1 ds')) σ := by
  obtain ⟨v, o, e1, e2, n, ho, k⟩ := r.mutate i (by rw [h]; exact Sl.noConfusion)
  rw [h] at e2
  cases e2 with
  | @l1 a vs _ h1 h2 =>
    refine ⟨a, vs, e1, h1, h2, fun vs' ds' h' => ?_⟩
    have q := ho a (List.mem_singleton.mpr rfl)
    refine k F _ _ [a] (Ex.refl F) (Ex.mut r.fh q.1) (Ex.mut r.h0 q.2) r.nw (fun b hb x e => ?_) (.l1 upd_same h') n (fun b hb => ⟨(ho b hb).1, (ho b hb).2, .inl hb⟩) (fun b _ n => .inl n)
    rw [upd_ne (fun z => hb (List.mem_singleton.mpr z))]
    exact e
theorem Rel.dk (r : Rel K H0 F0 F H ρ σ) {i : Nat} {m : List (Int × D)} (h : nth ρ i = .dk m) : ∃ a kvs, σ[i]? = some (some (.ref a)) ∧ H a = some (.dK kvs) ∧ RepD K F kvs m ∧
    ∀ kvs' m', RepD K F kvs' m' → Rel K H0 F0 F (upd H a (.dK kvs')) (put ρ i (.dk m')) σ := by
  obtain ⟨v, o, e1, e2, n, ho, k⟩ := r.mutate i (by rw [h]; exact Sl.noConfusion)
  rw [h] at e2
  cases e2 with
  | @dk a vs _ h1 h2 =>
    refine ⟨a, vs, e1, h1, h2, fun vs' ds' h' => ?_⟩
    have q := ho a (List.mem_singleton.mpr rfl)
    refine k F _ _ [a] (Ex.refl F) (Ex.mut r.fh q.1) (Ex.mut r.h0 q.2) r.nw (fun b hb x e => ?_) (.dk upd_same h') n (fun b hb => ⟨(ho b hb).1, (ho b hb).2, .inl hb⟩) (fun b _ n => .inl n)
    rw [upd_ne (fun z => hb (List.mem_singleton.mpr z))]
    exact e
theorem OwnLs.at : ∀ {as : List Addr} {dss : List (List D)} {k : Nat} {ds : List D}, OwnLs K F H as dss → dss[k]? = some ds → as.Nodup → ∃ b vs, as[k]? = some b ∧ b ∈ as ∧ H b = some (.lst vs) ∧ RepL K F vs ds ∧
    ∀ vs' ds', RepL K F vs' ds' → OwnLs K F (upd H b (.lst vs')) as (dss.set k ds')
  | _, _, _, _, .nil, e, _ => by simp at e
  | _, _, 0, _, .cons (a := a) (as := as) h1 h2 h3, e, n => by
    simp only [List.getElem?_cons_zero, Option.some.injEq] at e
    subst e
    refine ⟨_, _, rfl, List.mem_cons_self .., h1, h2, fun vs' ds' h' => .cons upd_same h' (h3.keep (Ex.refl F) fun b hb x e => ?_)⟩
    rw [upd_ne (ne_mem hb (List.nodup_cons.mp n).1)]
    exact e
  | _, _, k + 1, _, .cons (a := a) (as := as) h1 h2 h3, e, n => by
    simp only [List.getElem?_cons_succ] at e
    obtain ⟨n1, n2⟩ := List.nodup_cons.mp n
    obtain ⟨b, vs, e1, e2, e3, e4, g⟩ := OwnLs.at h3 e n2
    refine ⟨b, vs, by simpa using e1, List.mem_cons_of_mem _ e2, e3, e4, fun vs' ds' h' => .cons ?_ h2 (g vs' ds' h')⟩
    rw [upd_ne (ne_mem e2 n1).symm]
    exact h1
theorem OwnLs.len : ∀ {as : List Addr} {dss : List (List D)}, OwnLs K F H as dss → as.length = dss.length
  | _, _, .nil => rfl
  | _, _, .cons _ _ h3 => by simp only [List.length_cons, OwnLs.len h3]
theorem OwnLs.append : ∀ {as bs : List Addr} {dss ess : List (List D)}, OwnLs K F H as dss → OwnLs K F H bs ess → OwnLs K F H (as ++ bs) (dss ++ ess)
  | _, _, _, _, .nil, g => g
  | _, _, _, _, .cons h1 h2 h3, g => .cons h1 h2 (OwnLs.append h3 g)
theorem Rel.l2 (r : Rel K H0 F0 F H ρ σ) {i : Nat} {dss : List (List D)} (h : nth ρ i = .l2 dss) : ∃ a as, σ[i]? = some (some (.ref a)) ∧ H a = some (.lst (as.map V.ref)) ∧ as.length = dss.length ∧
    (∀ k ds, dss[k]? = some ds → ∃ b vs, as[k]? = some b ∧ H b = some (.lst vs) ∧ RepL K F vs ds ∧ ∀ vs' ds', RepL K F vs' ds' → Rel K H0 F0 F (upd H b (.lst vs')) (put ρ i (.l2 (dss.set k ds'))) σ) ∧
    (∀ p, H p = none → Rel K H0 F0 F (upd (upd H p (.lst [])) a (.lst ((as ++ [p]).map V.ref))) (put ρ i (.l2 (dss ++ [[]]))) σ) := by
  obtain ⟨v, o, e1, e2, n, ho, k⟩ := r.mutate i (by rw [h]; exact Sl.noConfusion)
  rw [h] at e2
  cases e2 with
  | @l2 a as _ h1 h2 =>
    obtain ⟨n1, n2⟩ := List.nodup_cons.mp n
    refine ⟨a, as, e1, h1, h2.len, fun j ds hj => ?_, fun p hp => ?_⟩
    · obtain ⟨b, vs, g1, g2, g3, g4, g5⟩ := h2.at hj n2
      refine ⟨b, vs, g1, g3, g4, fun vs' ds' h' => ?_⟩
      have q := ho b (List.mem_cons_of_mem _ g2)
      have ab : a ≠ b := (ne_mem g2 n1).symm
      refine k F _ _ (a :: as) (Ex.refl F) (Ex.mut r.fh q.1) (Ex.mut r.h0 q.2) r.nw (fun c hc x e => ?_) (.l2 (by rw [upd_ne ab]; exact h1) (g5 vs' ds' h')) n (fun b hb => ⟨(ho b hb).1, (ho b hb).2, .inl hb⟩) (fun b _ n => .inl n)
      rw [upd_ne (ne_mem (List.mem_cons_of_mem a g2) hc).symm]
      exact e
    · have q := ho a (List.mem_cons_self ..)
      have pa : p ≠ a := fun z => by rw [z, h1] at hp; cases hp
      have hF : F p = none := r.fh.back hp
      have keep : ∀ c, c ≠ a → ∀ x, H c = some x → upd (upd H p (.lst [])) a (.lst ((as ++ [p]).map V.ref)) c = some x := fun c hc x e => by
        rw [upd_ne hc, upd_ne (ne_of_none e hp)]
        exact e
      refine k F _ _ (a :: (as ++ [p])) (Ex.refl F) (Ex.mut (r.fh.trans (Ex.new hp)) q.1) (Ex.mut (r.h0.trans (Ex.new hp)) q.2) r.nw (fun c hc x e => keep c (ne_mem (List.mem_cons_self ..) hc).symm x e)
        (.l2 upd_same (OwnLs.append (h2.keep (Ex.refl F) fun c hc x e => keep c (ne_mem hc n1) x e) (.cons (by rw [upd_ne pa, upd_same]) .nil .nil))) ?_ (fun b hb => ?_) (fun b _ n => .inl n)
      · have dom : ∀ c ∈ a :: as, c ≠ p := fun c hc z => by
          subst z
          rcases List.mem_cons.mp hc with rfl | hc
          · exact pa rfl
          · have lsd : ∀ {as : List Addr} {dss : List (List D)}, OwnLs K F H as dss → c ∈ as → H c ≠ none := by
              intro as
              induction as with
              | nil => intro _ _ q; cases q
              | cons b as ih =>
                intro dss q hm
                cases q with
                | cons q1 _ q3 =>
                  rcases List.mem_cons.mp hm with rfl | hm
                  · rw [q1]; simp
                  · exact ih q3 hm
            exact lsd h2 hc hp
        rw [← List.cons_append, List.nodup_append]
        refine ⟨n, by simp, fun x hx y hy => ?_⟩
        simp only [List.mem_singleton] at hy
        subst hy
        exact dom x hx
      · rcases List.mem_cons.mp hb with rfl | hb
        · exact ⟨q.1, q.2, .inl (List.mem_cons_self ..)⟩
        · rcases List.mem_append.mp hb with hb | hb
          · exact ⟨(ho b (List.mem_cons_of_mem _ hb)).1, (ho b (List.mem_cons_of_mem _ hb)).2, .inl (List.mem_cons_of_mem _ hb)⟩
          · simp only [List.mem_singleton] at hb
            subst hb
            exact ⟨hF, r.h0.back hp, .inr hp⟩
end
def dApp (i : Nat) (de : DE) : DS := fun P ρ => match nth ρ i with
  | .l1 ds => de ρ fun d => ds.length < 1000000 ∧ P.nx (put ρ i (.l1 (ds ++ [d])))
  | _ => False
def dIns (i : Nat) (dk de : DE) : DS := fun P ρ => match nth ρ i with
  | .l1 ds => dk ρ fun x => match x with
    | .int k => de ρ fun d => ds.length < 1000000 ∧ 0 ≤ k ∧ k < 2 ^ 63 ∧ P.nx (put ρ i (.l1 (ds.take k.toNat ++ [d] ++ ds.drop k.toNat)))
    | _ => False
  | _ => False
def dPop (i : Nat) : DS := fun P ρ => match nth ρ i with
  | .l1 ds => ds ≠ [] ∧ P.nx (put ρ i (.l1 ds.dropLast))
  | _ => False
def dSetI (i : Nat) (dk de : DE) : DS := fun P ρ => de ρ fun d => match nth ρ i with
  | .l1 ds => dk ρ fun x => match x with
    | .int k => ∃ n, ixN ds.length k = some n ∧ P.nx (put ρ i (.l1 (ds.set n d)))
    | _ => False
  | _ => False
def dAppMv (i j : Nat) : DS := fun P ρ => match nth ρ i with
  | .l1 ds => match nth (put ρ j (nth ρ j).frz) j with
    | .fz d => ds.length < 1000000 ∧ i ≠ j ∧ P.nx (put (put ρ j (nth ρ j).frz) i (.l1 (ds ++ [d])))
    | _ => False
  | _ => False
def dApp2Nil (i : Nat) : DS := fun P ρ => match nth ρ i with
  | .l2 dss => dss.length < 1000000 ∧ P.nx (put ρ i (.l2 (dss ++ [[]])))
  | _ => False
def dApp2 (i : Nat) (dk de : DE) : DS := fun P ρ => match nth ρ i with
  | .l2 dss => dk ρ fun x => match x with
    | .int k => ∃ n ds, ixN dss.length k = some n ∧ dss[n]? = some ds ∧ de ρ fun d => ds.length < 1000000 ∧ P.nx (put ρ i (.l2 (dss.set n (ds ++ [d]))))
    | _ => False
  | _ => False
section
variable {X : Cx} {pos : Pos} {e f : Expr} {te tf : TE} {de df : DE}
theorem st_slot {K : PySem.W.Frag} {H : Hp} {a : Addr} {vs : List V} (h : H a = some (.lst vs)) : tyV K "list" (.ref a) H := .inl ⟨rfl, vs, .inl (.inl h)⟩
theorem qs_app {i : Nat} {x : Str} {p1 p2 p3 : Pos} (h : QE true X e te de) (hv : QE false X (.Name x p1) (tVar i) (dVar false i)) (hb : attributeBase (.Name x p1) "append" X.env (eval (.Name x p1) X.env) = eval (.Name x p1) X.env := by rfl)
    (hfew : ((backTo p3 (starEach [e] X.env)).all (fun x => !x.1) && (backToKw p3 (keywordEach [] X.env)).all (fun x => x.1.isSome)
      && decide (([e] : List Expr).length + ([] : List Keyword).length + (if ([] : List Keyword).isEmpty then 0 else 1) < 30)) = true := by rfl)
    (hline : (p2.endLine == p3.line) = true := by rfl) (hs : starEach [e] X.env = (false, eval e X.env) :: starEach [] X.env := by rfl) (hpl : (backTo p3 (starEach [] X.env)).any (·.1) = false := by rfl)
    (hsw : swapsWith (.Call (.Attribute (.Name x p1) "append" p2) [e] [] p3) none pos.line X.env = pure false := by rfl) :
    QSt X (.Expr (.Call (.Attribute (.Name x p1) "append" p2) [e] [] p3) pos) (tDrop (tBM X.K "list" rAppend (tVar i) (tCons te tNil))) (dApp i de) :=
  ⟨ps_expr (pe_bm PySem.F.plainAttrs_list PySem.F.slot_list_append PySem.F.type_list_append mt_append hv.pe (pa_cons h.pe pa_nil hs) hb hfew hline hs hpl) hsw, fun H0 F0 F H ρ σ P E r q g => by
    unfold dApp at q
    split at q
    · rename_i ds hi
      obtain ⟨a, vs, e1, e2, e3, _⟩ := r.l1 hi
      refine ⟨_, e1, st_slot e2, h.se H0 F0 F H ρ σ _ _ r q fun v d F2 H2 s hv hq => ?_⟩
      have r2 := r.step s
      obtain ⟨a', vs', e1', e2', e3', k⟩ := r2.l1 hi
      cases e1.symm.trans e1'
      refine ⟨a, vs', v, rfl, rfl, e2', by rw [e3'.len]; exact sz_lt hq.1, g.nx F2 _ _ _ (k _ _ (e3'.append (.one hv))) hq.2⟩
    · exact q.elim⟩
end
end DL

/-! DL F: more changes; dicts -/
namespace DL
open PySem L2
section
variable {X : Cx} {pos : Pos} {e f : Expr} {te tf : TE} {de df : DE}
theorem qs_ins {i : Nat} {x : Str} {p1 p2 p3 : Pos} (h : QE false X e te de) (h2 : QE true X f tf df) (hv : QE false X (.Name x p1) (tVar i) (dVar false i)) (hb : attributeBase (.Name x p1) "insert" X.env (eval (.Name x p1) X.env) = eval (.Name x p1) X.env := by rfl)
    (hfew : ((backTo p3 (starEach [e, f] X.env)).all (fun x => !x.1) && (backToKw p3 (keywordEach [] X.env)).all (fun x => x.1.isSome)
      && decide (([e, f] : List Expr).length + ([] : List Keyword).length + (if ([] : List Keyword).isEmpty then 0 else 1) < 30)) = true := by rfl)
    (hline : (p2.endLine == p3.line) = true := by rfl) (hs : starEach [e, f] X.env = (false, eval e X.env) :: starEach [f] X.env := by rfl) (hs2 : starEach [f] X.env = (false, eval f X.env) :: starEach [] X.env := by rfl)
    (hpl : (backTo p3 (starEach [f] X.env)).any (·.1) = false := by rfl)
    (hsw : swapsWith (.Call (.Attribute (.Name x p1) "insert" p2) [e, f] [] p3) none pos.line X.env = pure false := by rfl) :
    QSt X (.Expr (.Call (.Attribute (.Name x p1) "insert" p2) [e, f] [] p3) pos) (tDrop (tBM X.K "list" (fun x vs H Q => ∃ (l : Addr) (xs : List V) (i : Int) (y : V), x = .ref l ∧ vs = [.int i, y] ∧ H l = some (.lst xs) ∧ xs.length < sizeLine ∧ 0 ≤ i ∧ i < 2 ^ 63 ∧
    Q .non (upd H l (.lst (xs.take i.toNat ++ [y] ++ xs.drop i.toNat)))) (tVar i) (tCons te (tCons tf tNil)))) (dIns i de df) :=
  ⟨ps_expr (pe_bm PySem.F.plainAttrs_list PySem.F.slot_list_insert PySem.F.type_list_insert mt_insert hv.pe (pa_cons h.pe (pa_cons h2.pe pa_nil hs2) hs) hb hfew hline hs hpl) hsw, fun H0 F0 F H ρ σ P E r q g => by
    unfold dIns at q
    split at q
    · rename_i ds hi
      obtain ⟨a, vs, e1, e2, e3, _⟩ := r.l1 hi
      refine ⟨_, e1, st_slot e2, h.se H0 F0 F H ρ σ _ _ r q fun v d F2 H2 s hv hq => ?_⟩
      split at hq
      · cases hv
        refine h2.se H0 F0 F2 H2 ρ σ _ _ (r.step s) hq fun v d F3 H3 s3 hv hq => ?_
        have r2 := (r.step s).step s3
        obtain ⟨a', vs', e1', e2', e3', k⟩ := r2.l1 hi
        cases e1.symm.trans e1'
        refine ⟨a, vs', _, v, rfl, rfl, e2', by rw [e3'.len]; exact sz_lt hq.1, hq.2.1, hq.2.2.1, g.nx F3 _ _ _ (k _ _ (((e3'.take _).append (.one hv)).append (e3'.drop _))) hq.2.2.2⟩
      · exact hq.elim
    · exact q.elim⟩
theorem qs_pop {i : Nat} {x : Str} {p1 p2 p3 : Pos} (hv : QE false X (.Name x p1) (tVar i) (dVar false i)) (hb : attributeBase (.Name x p1) "pop" X.env (eval (.Name x p1) X.env) = eval (.Name x p1) X.env := by rfl)
    (hline : (p2.endLine == p3.line) = true := by rfl)
    (hsw : swapsWith (.Call (.Attribute (.Name x p1) "pop" p2) [] [] p3) none pos.line X.env = pure false := by rfl) :
    QSt X (.Expr (.Call (.Attribute (.Name x p1) "pop" p2) [] [] p3) pos) (tDrop (tBM0 X.K "list" rPop (tVar i))) (dPop i) :=
  ⟨ps_expr (pe_bm0 PySem.F.plainAttrs_list PySem.F.slot_list_pop PySem.F.type_list_pop mt_pop hv.pe hb hline) hsw, fun H0 F0 F H ρ σ P E r q g => by
    unfold dPop at q
    split at q
    · rename_i ds hi
      obtain ⟨a, vs, e1, e2, e3, k⟩ := r.l1 hi
      have hl : vs.length - 1 < vs.length := by
        rw [e3.len]
        have := List.length_pos_iff.mpr q.1
        omega
      refine ⟨_, e1, st_slot e2, a, vs, vs[vs.length - 1], rfl, rfl, e2, List.getElem?_eq_getElem hl, g.nx F _ _ _ (k _ _ ?_) q.2⟩
      rw [List.dropLast_eq_take, List.dropLast_eq_take, e3.len]
      exact e3.take _
    · exact q.elim⟩
theorem qs_setI {i : Nat} {x : Str} {p1 p2 : Pos} {o : Expr} {to : TE} {dk : DE} (h : QE true X e te de) (hi : QE false X o to dk) (hv : QE false X (.Name x p1) (tVar i) (dVar false i)) (hs : swapsWithSole [.Subscript (.Name x p1) o p2] e pos.line X.env = pure false := by rfl)
    (hw : swappedStores [.Subscript (.Name x p1) o p2] e X.env = pure none := by rfl) (hg : PG X (.Subscript (.Name x p1) o p2) (gSub (tVar i) to rSetL)) :
    QSt X (.Assign [.Subscript (.Name x p1) o p2] e pos) (tAsg te (gSub (tVar i) to rSetL)) (dSetI i dk de) :=
  ⟨ps_asg h.pe hg hs hw, fun H0 F0 F H ρ σ P E r q g => h.se H0 F0 F H ρ σ _ _ r q fun v d F2 H2 s hv hq => by
    have r2 := r.step s
    split at hq
    · rename_i ds hii
      obtain ⟨a, vs, e1, e2, e3, _⟩ := r2.l1 hii
      refine ⟨_, e1, hi.se H0 F0 F2 H2 ρ σ _ _ r2 hq fun w dw F3 H3 s3 hw hq => ?_⟩
      have r3 := r2.step s3
      obtain ⟨a', vs', e1', e2', e3', k⟩ := r3.l1 hii
      cases e1.symm.trans e1'
      split at hq
      · cases hw
        obtain ⟨n, hn, hq⟩ := hq
        exact ⟨a, vs', _, n, rfl, rfl, e2', by rw [e3'.len]; exact hn, g.nx F3 _ _ _ (k _ _ (RepL.set (hv.up s3.fF) n e3')) hq⟩
      · exact hq.elim
    · exact hq.elim⟩
theorem nth_put_ne : ∀ {ρ : Env} {i j : Nat} {s : Sl}, i ≠ j → nth (put ρ j s) i = nth ρ i
  | [], _, _, _, _ => rfl
  | _ :: _, 0, 0, _, h => (h rfl).elim
  | _ :: _, 0, _ + 1, _, _ => rfl
  | _ :: _, _ + 1, 0, _, _ => rfl
  | _ :: r, i + 1, j + 1, _, h => nth_put_ne (ρ := r) (i := i) (j := j) fun z => h (congrArg (· + 1) z)
/-- xs.append(y), y a list of one's own that is given away -/
theorem qs_appMv {i j : Nat} {x y : Str} {p1 p2 p3 p4 : Pos} (hv : QE false X (.Name x p1) (tVar i) (dVar false i)) (hy : QE false X (.Name y p4) (tVar j) (dVar false j)) (hb : attributeBase (.Name x p1) "append" X.env (eval (.Name x p1) X.env) = eval (.Name x p1) X.env := by rfl)
    (hfew : ((backTo p3 (starEach [.Name y p4] X.env)).all (fun x => !x.1) && (backToKw p3 (keywordEach [] X.env)).all (fun x => x.1.isSome)
      && decide (([.Name y p4] : List Expr).length + ([] : List Keyword).length + (if ([] : List Keyword).isEmpty then 0 else 1) < 30)) = true := by rfl)
    (hline : (p2.endLine == p3.line) = true := by rfl) (hs : starEach [.Name y p4] X.env = (false, eval (.Name y p4) X.env) :: starEach [] X.env := by rfl) (hpl : (backTo p3 (starEach [] X.env)).any (·.1) = false := by rfl)
    (hsw : swapsWith (.Call (.Attribute (.Name x p1) "append" p2) [.Name y p4] [] p3) none pos.line X.env = pure false := by rfl) :
    QSt X (.Expr (.Call (.Attribute (.Name x p1) "append" p2) [.Name y p4] [] p3) pos) (tDrop (tBM X.K "list" rAppend (tVar i) (tCons (tVar j) tNil))) (dAppMv i j) :=
  ⟨ps_expr (pe_bm PySem.F.plainAttrs_list PySem.F.slot_list_append PySem.F.type_list_append mt_append hv.pe (pa_cons hy.pe pa_nil hs) hb hfew hline hs hpl) hsw, fun H0 F0 F H ρ σ P E r q g => by
    unfold dAppMv at q
    split at q
    · rename_i ds hi
      split at q
      · rename_i d hj
        obtain ⟨F2, eF, r2⟩ := r.frz1 j
        obtain ⟨os, h1, _, _⟩ := r2.sl
        obtain ⟨v, o, _, _, f1, f2, _, _⟩ := h1.at j (by rw [hj]; exact Sl.noConfusion)
        rw [hj] at f2
        cases f2 with
        | @fz v _ hr =>
          have hi2 : nth (put ρ j (nth ρ j).frz) i = .l1 ds := by rw [nth_put_ne q.2.1]; exact hi
          obtain ⟨a, vs, e1, e2, e3, k⟩ := r2.l1 hi2
          exact ⟨_, e1, st_slot e2, _, f1, a, vs, v, rfl, rfl, e2, by rw [e3.len]; exact sz_lt q.1, g.nx F2 _ _ _ (k _ _ (e3.append (.one hr))) q.2.2⟩
      · exact q.elim
    · exact q.elim⟩
/-- xs.append([]), xs a list of lists of one's own -/
theorem qs_app2Nil {i : Nat} {x : Str} {p1 p2 p3 p4 : Pos} (hv : QE false X (.Name x p1) (tVar i) (dVar false i)) (hb : attributeBase (.Name x p1) "append" X.env (eval (.Name x p1) X.env) = eval (.Name x p1) X.env := by rfl)
    (hfew : ((backTo p3 (starEach [.List [] p4] X.env)).all (fun x => !x.1) && (backToKw p3 (keywordEach [] X.env)).all (fun x => x.1.isSome)
      && decide (([.List [] p4] : List Expr).length + ([] : List Keyword).length + (if ([] : List Keyword).isEmpty then 0 else 1) < 30)) = true := by rfl)
    (hline : (p2.endLine == p3.line) = true := by rfl) (hs : starEach [.List [] p4] X.env = (false, eval (.List [] p4) X.env) :: starEach [] X.env := by rfl) (hpl : (backTo p3 (starEach [] X.env)).any (·.1) = false := by rfl)
    (hsw : swapsWith (.Call (.Attribute (.Name x p1) "append" p2) [.List [] p4] [] p3) none pos.line X.env = pure false := by rfl) :
    QSt X (.Expr (.Call (.Attribute (.Name x p1) "append" p2) [.List [] p4] [] p3) pos) (tDrop (tBM X.K "list" rAppend (tVar i) (tCons (tLst tNil) tNil))) (dApp2Nil i) :=
  ⟨ps_expr (pe_bm PySem.F.plainAttrs_list PySem.F.slot_list_append PySem.F.type_list_append mt_append hv.pe (pa_cons (pe_lst pa_nil) pa_nil hs) hb hfew hline hs hpl) hsw, fun H0 F0 F H ρ σ P E r q g => by
    unfold dApp2Nil at q
    split at q
    · rename_i dss hi
      obtain ⟨a, as, e1, e2, e3, _, k⟩ := r.l2 hi
      refine ⟨_, e1, st_slot e2, Nat.zero_le _, fun p hp => ?_⟩
      have k' := k p hp
      rw [List.map_append] at k'
      exact ⟨a, _, _, rfl, rfl, by rw [upd_ne (ne_of_none e2 hp)]; exact e2, by rw [List.length_map, e3]; exact sz_lt q.1, g.nx F _ _ _ k' q.2⟩
    · exact q.elim⟩
/-- xs[k].append(e), xs a list of lists of one's own -/
theorem qs_app2 {i : Nat} {x : Str} {o : Expr} {to : TE} {dk : DE} {p1 p2 p3 p5 : Pos} (h : QE true X e te de) (hi : QE false X o to dk) (hv : QE false X (.Name x p1) (tVar i) (dVar false i)) (hpx : PlainIx o)
    (hb : attributeBase (.Subscript (.Name x p1) o p5) "append" X.env (eval (.Subscript (.Name x p1) o p5) X.env) = eval (.Subscript (.Name x p1) o p5) X.env := by rfl)
    (hfew : ((backTo p3 (starEach [e] X.env)).all (fun x => !x.1) && (backToKw p3 (keywordEach [] X.env)).all (fun x => x.1.isSome)
      && decide (([e] : List Expr).length + ([] : List Keyword).length + (if ([] : List Keyword).isEmpty then 0 else 1) < 30)) = true := by rfl)
    (hline : (p2.endLine == p3.line) = true := by rfl) (hs : starEach [e] X.env = (false, eval e X.env) :: starEach [] X.env := by rfl) (hpl : (backTo p3 (starEach [] X.env)).any (·.1) = false := by rfl)
    (hsw : swapsWith (.Call (.Attribute (.Subscript (.Name x p1) o p5) "append" p2) [e] [] p3) none pos.line X.env = pure false := by rfl) :
    QSt X (.Expr (.Call (.Attribute (.Subscript (.Name x p1) o p5) "append" p2) [e] [] p3) pos) (tDrop (tBM X.K "list" rAppend (tOp (rIx X.K) (tVar i) to) (tCons te tNil))) (dApp2 i dk de) :=
  ⟨ps_expr (pe_bm PySem.F.plainAttrs_list PySem.F.slot_list_append PySem.F.type_list_append mt_append (pe_ix ix_seq hv.pe hi.pe hpx) (pa_cons h.pe pa_nil hs) hb hfew hline hs hpl) hsw, fun H0 F0 F H ρ σ P E r q g => by
    unfold dApp2 at q
    split at q
    · rename_i dss hii
      obtain ⟨a, as, e1, e2, e3, _, _⟩ := r.l2 hii
      refine ⟨_, e1, hi.se H0 F0 F H ρ σ _ _ r q fun v d F2 H2 s hv hq => ?_⟩
      have r2 := r.step s
      obtain ⟨a', as', e1', e2', e3', k2, _⟩ := r2.l2 hii
      cases e1.symm.trans e1'
      split at hq
      · cases hv
        obtain ⟨n, ds, hn, hds, hq⟩ := hq
        obtain ⟨b, vs, b1, b2, b3, _⟩ := k2 n ds hds
        refine .inl ⟨a, _, _, .ref b, rfl, rfl, .inl (.inl e2'), ?_, st_slot b2, h.se H0 F0 F2 H2 ρ σ _ _ r2 hq fun w dw F3 H3 s3 hw hq => ?_⟩
        · unfold atI
          rw [List.length_map, e3', hn]
          show (as'.map V.ref)[n]? = _
          rw [List.getElem?_map, b1]
          rfl
        · have r3 := r2.step s3
          obtain ⟨a'', as'', e1'', e2'', e3'', k3, _⟩ := r3.l2 hii
          cases e1.symm.trans e1''
          have ea : as''.map V.ref = as'.map V.ref := by
            have := s3.hH _ _ e2'
            rw [e2''] at this
            exact (HO.lst.inj (Option.some.inj this))
          obtain ⟨b', vs', b1', b2', b3', k4⟩ := k3 n ds hds
          have eb : b' = b := by
            have z : (as''.map V.ref)[n]? = (as'.map V.ref)[n]? := by rw [ea]
            rw [List.getElem?_map, List.getElem?_map, b1, b1'] at z
            simpa using z
          subst eb
          exact ⟨b', vs', w, rfl, rfl, b2', by rw [b3'.len]; exact sz_lt hq.1, g.nx F3 _ _ _ (k4 _ _ (b3'.append (.one hw))) hq.2⟩
      · exact hq.elim
    · exact q.elim⟩
end
/-! ### dicts with whole numbers as keys -/
def lookI {α : Type} (m : List (Int × α)) (k : Int) : Option α := (m.find? fun p => decide (p.1 = k)).map (·.2)
def putI {α : Type} (m : List (Int × α)) (k : Int) (d : α) : List (Int × α) :=
  if (m.any fun p => decide (p.1 = k)) = true then m.map (fun p => if p.1 = k then (p.1, d) else p) else m ++ [(k, d)]
theorem inl_dec (a b : Int) : decide ((Sum.inl a : Key) = Sum.inl b) = decide (a = b) := by
  by_cases h : a = b
  · subst h; simp
  · rw [decide_eq_false h, decide_eq_false (fun z => h (Sum.inl.inj z))]
section
variable {K : PySem.W.Frag} {H F : Hp}
theorem RepD.len : ∀ {kvs : List (Key × V)} {m : List (Int × D)}, RepD K H kvs m → kvs.length = m.length
  | _, [], h => by cases h; rfl
  | _, _ :: _, h => by
    cases h with
    | cons _ h2 => simp only [List.length_cons, RepD.len h2]
theorem RepD.look : ∀ {m : List (Int × D)} {kvs : List (Key × V)} (k : Int), RepD K H kvs m → (lookI m k = none ∧ valV kvs (.inl k : Key) = none) ∨ ∃ d v, lookI m k = some d ∧ valV kvs (.inl k : Key) = some v ∧ Rep K H v d
  | [], _, k, h => by cases h; exact .inl ⟨rfl, rfl⟩
  | (k0, d) :: m, _, k, h => by
    cases h with
    | @cons _ v kvs _ _ h1 h2 =>
      by_cases e : k0 = k
      · subst e
        refine .inr ⟨d, v, ?_, ?_, h1⟩
        · simp [lookI]
        · simp [valV]
      · have e1 : lookI ((k0, d) :: m) k = lookI m k := by simp [lookI, List.find?_cons, e]
        have e2 : valV ((Sum.inl k0, v) :: kvs) (.inl k : Key) = valV kvs (.inl k) := by simp [valV, List.find?_cons, e]
        rw [e1, e2]
        exact RepD.look k h2
theorem RepD.any {m : List (Int × D)} {kvs : List (Key × V)} (k : Int) (h : RepD K H kvs m) : (kvs.any fun p => decide (p.1 = (.inl k : Key))) = m.any fun p => decide (p.1 = k) := by
  induction m generalizing kvs with
  | nil => cases h; rfl
  | cons p m ih =>
    cases h with
    | cons h1 h2 => rw [List.any_cons, List.any_cons, ih h2, inl_dec]
theorem RepD.append : ∀ {m n : List (Int × D)} {kvs kus : List (Key × V)}, RepD K H kvs m → RepD K H kus n → RepD K H (kvs ++ kus) (m ++ n)
  | [], _, _, _, h, g => by cases h; exact g
  | _ :: _, _, _, _, h, g => by
    cases h with
    | cons h1 h2 => exact .cons h1 (RepD.append h2 g)
theorem RepD.mapPut {k : Int} {v : V} {d : D} (hv : Rep K H v d) : ∀ {m : List (Int × D)} {kvs : List (Key × V)}, RepD K H kvs m → RepD K H (kvs.map fun kv => if kv.1 = (.inl k : Key) then (kv.1, v) else kv) (m.map fun p => if p.1 = k then (p.1, d) else p)
  | [], _, h => by cases h; exact .nil
  | (k0, d0) :: m, _, h => by
    cases h with
    | @cons _ v0 kvs _ _ h1 h2 =>
      simp only [List.map_cons]
      by_cases e : k0 = k
      · subst e
        rw [if_pos rfl, if_pos rfl]
        exact .cons hv (RepD.mapPut hv h2)
      · rw [if_neg (fun z => e (Sum.inl.inj z)), if_neg e]
        exact .cons h1 (RepD.mapPut hv h2)
theorem RepD.put {m : List (Int × D)} {kvs : List (Key × V)} {v : V} {d : D} (k : Int) (h : RepD K H kvs m) (hv : Rep K H v d) : RepD K H (putK kvs (.inl k : Key) v) (putI m k d) := by
  unfold putK putI
  rw [h.any k]
  split
  · exact h.mapPut hv
  · exact h.append (.cons hv .nil)
end
def Sl.dic : Bool → Sl → (List (Int × D) → Prop) → Prop
  | _, .fz (.dct m), Q => Q m
  | _, .dk m, Q => Q m
  | false, .dl m, Q => Q (m.map fun p => (p.1, D.lst p.2))
  | _, _, _ => False
def dGet (b : Bool) (i : Nat) (dk : DE) : DE := fun ρ Q => Sl.dic b (nth ρ i) fun m => dk ρ fun x => match x with | .int k => ∃ d, lookI m k = some d ∧ Q d | _ => False
def dInD (neg : Bool) (dk : DE) (i : Nat) : DT := fun ρ Q => dk ρ fun x => match x with | .int k => Sl.dic false (nth ρ i) fun m => Q (xor neg (lookI m k).isSome) | _ => False
def dPut (i : Nat) (dk de : DE) : DS := fun P ρ => de ρ fun d => match nth ρ i with
  | .dk m => dk ρ fun x => match x with
    | .int k => m.length < 1000000 ∧ P.nx (put ρ i (.dk (putI m k d)))
    | _ => False
  | _ => False
def dPutNil (i : Nat) (dk : DE) : DS := fun P ρ => match nth ρ i with
  | .dl m => dk ρ fun x => match x with
    | .int k => m.length < 1000000 ∧ lookI m k = none ∧ P.nx (put ρ i (.dl (m ++ [(k, [])])))
    | _ => False
  | _ => False
def dAppD (i : Nat) (dk de : DE) : DS := fun P ρ => match nth ρ i with
  | .dl m => dk ρ fun x => match x with
    | .int k => ∃ ds, lookI m k = some ds ∧ de ρ fun d => ds.length < 1000000 ∧ P.nx (put ρ i (.dl (putI m k (ds ++ [d]))))
    | _ => False
  | _ => False
def dNewK (i : Nat) : DS := fun P ρ => P.nx (put ρ i (.dk []))
def dNewL (i : Nat) : DS := fun P ρ => P.nx (put ρ i (.dl []))
def dNew2 (i : Nat) : DS := fun P ρ => P.nx (put ρ i (.l2 []))
section
variable {K : PySem.W.Frag} {F H H0 F0 : Hp} {s : Sl} {v : Option V} {o : List Addr} {b : Bool} {ρ : Env} {σ : St}
theorem slot_dic {Q : List (Int × D) → Prop} (e : Ex F H) (h : SlotOk K F H s v o) (q : Sl.dic b s Q) : ∃ a kvs m, v = some (.ref a) ∧ H a = some (.dK kvs) ∧ RepD K (pick b F H) kvs m ∧ Q m := by
  cases h with
  | un => cases b <;> exact q.elim
  | fz h =>
    cases h with
    | dct h1 h2 => exact ⟨_, _, _, rfl, e _ _ h1, h2.up (pick_of e), by cases b <;> exact q⟩
    | _ => cases b <;> exact q.elim
  | l1 h1 h2 => cases b <;> exact q.elim
  | l2 h1 h2 => cases b <;> exact q.elim
  | dk h1 h2 => exact ⟨_, _, _, rfl, h1, h2.up (pick_of e), by cases b <;> exact q⟩
  | dl h1 h2 =>
    cases b with
    | true => exact q.elim
    | false => exact ⟨_, _, _, rfl, h1, h2.rep e, q⟩
theorem dic_ne {Q : List (Int × D) → Prop} (q : Sl.dic b s Q) : s ≠ .un := by
  intro e
  subst e
  cases b <;> exact q.elim
theorem Rel.dic (r : Rel K H0 F0 F H ρ σ) {i : Nat} {Q : List (Int × D) → Prop} (q : Sl.dic b (nth ρ i) Q) : ∃ a kvs m, σ[i]? = some (some (.ref a)) ∧ H a = some (.dK kvs) ∧ RepD K (pick b F H) kvs m ∧ Q m := by
  obtain ⟨os, h1, _, _⟩ := r.sl
  obtain ⟨v, o, _, _, e1, e2, _, _⟩ := h1.at i (dic_ne q)
  obtain ⟨a, kvs, m, rfl, h, h2, hq⟩ := slot_dic r.fh e2 q
  exact ⟨a, kvs, m, e1, h, h2, hq⟩
end
section
variable {X : Cx} {pos : Pos} {e f : Expr} {te tf : TE} {de df : DE} {b : Bool}
theorem qe_get {i : Nat} {x : Str} {p1 : Pos} (hu : X.A.units + 1 < cLine) (hv : QE false X (.Name x p1) (tVar i) (dVar false i)) (h : QE false X e te de) (hs : NoSl e) : QE b X (.Subscript (.Name x p1) e pos) (tDGet (tVar i) te) (dGet b i de) := ⟨pe_dget hu hv.pe h.pe hs, fun H0 F0 F H ρ σ Q R r q k => by
  obtain ⟨a, kvs, m, e1, e2, e3, q⟩ := r.dic q
  refine ⟨_, e1, h.se H0 F0 F H ρ σ _ _ r q fun v d F2 H2 s hv hq => ?_⟩
  split at hq
  · cases hv
    obtain ⟨d, hd, hq⟩ := hq
    rcases e3.look _ with ⟨z, _⟩ | ⟨d', w, z1, z2, z3⟩
    · rw [z] at hd; cases hd
    · obtain rfl := Option.some.inj (z1.symm.trans hd)
      refine ⟨a, w, rfl, .inl ⟨kvs, .inl _, .inl (s.hH _ _ e2), rfl, z2.symm⟩, k w _ F2 H2 s (z3.stp s) hq⟩
  · exact hq.elim⟩
theorem qt_in {i : Nat} {x : Str} {p1 : Pos} (hu : X.A.units + 1 < cLine) (h : QE false X e te de) (hv : QE false X (.Name x p1) (tVar i) (dVar false i)) (h1 : behindInMarks .In (.Name x p1) = false := by rfl) : QT X (.Compare e [.In] [.Name x p1] pos) (tB (tDIn te (tVar i))) (dInD false de i) :=
  ⟨pt_cmp (pc_din hu h.pe hv.pe) h1, fun H0 F0 F H ρ σ Q R r q k => h.se H0 F0 F H ρ σ _ _ r q fun v d F2 H2 s hv hq => by
  split at hq
  · cases hv
    obtain ⟨a, kvs, m, e1, e2, e3, q⟩ := (r.step s).dic hq
    refine ⟨_, e1, a, _, rfl, DGet.k (k := .inl _) e2, _, rfl, ?_⟩
    rcases e3.look _ with ⟨z, z2⟩ | ⟨d', w, z1, z2, z3⟩
    · rw [z] at q; rw [z2]; exact k _ F2 H2 s q
    · rw [z1] at q; rw [z2]; exact k _ F2 H2 s q
  · exact hq.elim⟩
theorem qt_nin {i : Nat} {x : Str} {p1 : Pos} (hu : X.A.units + 1 < cLine) (h : QE false X e te de) (hv : QE false X (.Name x p1) (tVar i) (dVar false i)) (h1 : behindInMarks .NotIn (.Name x p1) = false := by rfl) : QT X (.Compare e [.NotIn] [.Name x p1] pos) (tB (tDNotIn te (tVar i))) (dInD true de i) :=
  ⟨pt_cmp (pc_dnotin hu h.pe hv.pe) h1, fun H0 F0 F H ρ σ Q R r q k => h.se H0 F0 F H ρ σ _ _ r q fun v d F2 H2 s hv hq => by
  split at hq
  · cases hv
    obtain ⟨a, kvs, m, e1, e2, e3, q⟩ := (r.step s).dic hq
    refine ⟨_, e1, a, _, rfl, DGet.k (k := .inl _) e2, _, rfl, ?_⟩
    rcases e3.look _ with ⟨z, z2⟩ | ⟨d', w, z1, z2, z3⟩
    · rw [z] at q; rw [z2]; exact k _ F2 H2 s q
    · rw [z1] at q; rw [z2]; exact k _ F2 H2 s q
  · exact hq.elim⟩
theorem qs_put {i : Nat} {x : Str} {p1 p2 : Pos} {o : Expr} {to : TE} {dk : DE} (hu : X.A.units + 1 < cLine) (h : QE true X e te de) (hi : QE false X o to dk) (hv : QE false X (.Name x p1) (tVar i) (dVar false i)) (hs : swapsWith e (some (.Subscript (.Name x p1) o p2)) pos.line X.env = pure false := by rfl) :
    QSt X (.Assign [.Subscript (.Name x p1) o p2] e pos) (sDPut (tVar i) to te) (dPut i dk de) := ⟨ps_dput hu hv.pe hi.pe h.pe hs, fun H0 F0 F H ρ σ P E r q g => h.se H0 F0 F H ρ σ _ _ r q fun v d F2 H2 s hv hq => by
    have r2 := r.step s
    split at hq
    · rename_i m hii
      obtain ⟨a, kvs, e1, e2, e3, _⟩ := r2.dk hii
      refine ⟨_, e1, hi.se H0 F0 F2 H2 ρ σ _ _ r2 hq fun w dw F3 H3 s3 hw hq => ?_⟩
      have r3 := r2.step s3
      obtain ⟨a', kvs', e1', e2', e3', k⟩ := r3.dk hii
      cases e1.symm.trans e1'
      split at hq
      · cases hw
        exact ⟨a, _, rfl, DPut.k (k := .inl _) e2' (by rw [e3'.len]; exact sz_lt hq.1), g.nx F3 _ _ _ (k _ _ (e3'.put _ (hv.up s3.fF))) hq.2⟩
      · exact hq.elim
    · exact hq.elim⟩
theorem qs_newK {i : Nat} {x : Str} {p1 p2 : Pos} (hN : X.N.Nodup) (hi : X.N[i]? = some x) (hx : Loc X.env.scope x) (hs : swapsWith (.Dict [] [] p2) (some (.Name x p1)) pos.line X.env = pure false := by rfl)
    (hf : X.fn x = true ∨ X.env.scope.names.lookup x = some .local := by first | exact .inl rfl | exact .inr rfl | assumption) : QSt X (.Assign [.Name x p1] (.Dict [] [] p2) pos) (tAsg tDNewK (gName i)) (dNewK i) := ⟨ps_set hN hi hx pe_dnewK hs hf, fun H0 F0 F H ρ σ P E r q g p hp =>
  g.nx F _ _ _ (r.setOwn (Stp.grow r.fh (Ex.new hp)) i (.dk upd_same .nil) (by simp) (fun a ha => by simp only [List.mem_singleton] at ha; subst ha; exact ⟨r.fh.back hp, hp⟩)) q⟩
theorem qs_newL {i : Nat} {x : Str} {p1 p2 : Pos} (hN : X.N.Nodup) (hi : X.N[i]? = some x) (hx : Loc X.env.scope x) (hs : swapsWith (.Dict [] [] p2) (some (.Name x p1)) pos.line X.env = pure false := by rfl)
    (hf : X.fn x = true ∨ X.env.scope.names.lookup x = some .local := by first | exact .inl rfl | exact .inr rfl | assumption) : QSt X (.Assign [.Name x p1] (.Dict [] [] p2) pos) (tAsg tDNewK (gName i)) (dNewL i) := ⟨ps_set hN hi hx pe_dnewK hs hf, fun H0 F0 F H ρ σ P E r q g p hp =>
  g.nx F _ _ _ (r.setOwn (Stp.grow r.fh (Ex.new hp)) i (.dl upd_same .nil) (by simp) (fun a ha => by simp only [List.mem_singleton] at ha; subst ha; exact ⟨r.fh.back hp, hp⟩)) q⟩
theorem qs_new2 {i : Nat} {x : Str} {p1 p2 : Pos} (hN : X.N.Nodup) (hi : X.N[i]? = some x) (hx : Loc X.env.scope x) (hs : swapsWith (.List [] p2) (some (.Name x p1)) pos.line X.env = pure false := by rfl)
    (hf : X.fn x = true ∨ X.env.scope.names.lookup x = some .local := by first | exact .inl rfl | exact .inr rfl | assumption) : QSt X (.Assign [.Name x p1] (.List [] p2) pos) (tAsg (tLst tNil) (gName i)) (dNew2 i) := ⟨ps_set hN hi hx (pe_lst pa_nil) hs hf, fun H0 F0 F H ρ σ P E r q g => ⟨Nat.zero_le _, fun p hp =>
  g.nx F _ _ _ (r.setOwn (Stp.grow r.fh (Ex.new hp)) i (.l2 (as := []) upd_same .nil) (by simp) (fun a ha => by simp only [List.mem_singleton] at ha; subst ha; exact ⟨r.fh.back hp, hp⟩)) q⟩⟩
end
end DL

/-! DL G: comprehensions, built-in calls, calls of defs -/
namespace DL
open PySem L2

/-! ### comprehensions -/
def dLcG (j : Nat) (dt : DT) (de : DE) (ρ : Env) (Q : List D → Prop) : List D → List D → Prop
  | [], acc => Q acc
  | x :: xs, acc => dt (put ρ j (.fz x)) fun c => (c = true → de (put ρ j (.fz x)) fun d => dLcG j dt de ρ Q xs (acc ++ [d])) ∧ (c = false → dLcG j dt de ρ Q xs acc)
def dLc (dl : DA) (j : Nat) (dt : DT) (de : DE) : DA := fun ρ Q => dl ρ fun ds => ds.length ≤ 1000000 ∧ dLcG j dt de ρ Q ds []
def dYes : DT := fun _ Q => Q true
/-- what holds between two turns of a comprehension: D the new list -/
def LcW (K : PySem.W.Frag) (H0 F0 F H : Hp) (ρ : Env) (σ : St) (D : Addr) (G : List DL.D → Prop) (k : Nat) (H' : Hp) : Prop := ∃ F' os vs acc, Slots K F' H' ρ σ os ∧ os.Nodup ∧ (∀ a ∈ os, F' a = none ∧ H0 a = none) ∧ D ∉ os ∧ Ex F0 F' ∧ (∀ a, F0 a = none → F' a ≠ none → H0 a = none) ∧
  Stp F H F' H' ∧ H D = none ∧ F' D = none ∧ H' D = some (.lst vs) ∧ RepL K F' vs acc ∧ acc.length ≤ k ∧ G acc
section
variable {K : PySem.W.Frag} {H0 F0 F H : Hp} {ρ : Env} {σ : St} {D : Addr} {te : TE} {de : DE} {tt : TT} {dt : DT} {j : Nat}
theorem set_none_set (σ : St) (j : Nat) (v : Option V) : (wipe σ [j]).set j v = σ.set j v := by
  show (σ.set j none).set j v = σ.set j v
  rw [List.set_set]
theorem lcw_turn (h0 : Ex H0 H) {G : Nat → List DL.D → Prop} {k : Nat} {H' : Hp} {x : DL.D} {v : V} (ht : ST K tt dt) (he : SE true K te de) (w : LcW K H0 F0 F H ρ σ D (G k) k H')
    (hx : ∀ F', Ex F F' → Rep K F' v x) (hk : k < 1000000) (hg : ∀ acc, G k acc → dt (put ρ j (.fz x)) fun c => (c = true → de (put ρ j (.fz x)) fun d => G (k + 1) (acc ++ [d])) ∧ (c = false → G (k + 1) acc)) :
    wipe ((wipe σ [j]).set j (some v)) [j] = wipe σ [j] ∧ tt ((wipe σ [j]).set j (some v)) H' fun b H3 => if b = true then te ((wipe σ [j]).set j (some v)) H3 fun y H4 => ∃ acc, H4 D = some (.lst acc) ∧ acc.length < sizeLine ∧ LcW K H0 F0 F H ρ σ D (G (k + 1)) (k + 1) (upd H4 D (.lst (acc ++ [y])))
      else LcW K H0 F0 F H ρ σ D (G (k + 1)) (k + 1) H3 := by
  obtain ⟨F', os, vs, acc, s1, s2, s3, s4, f0, nw, st, hD, fD, hD', hv, hl, g⟩ := w
  rw [set_none_set]
  refine ⟨?_, ?_⟩
  · show (σ.set j (some v)).set j none = σ.set j none
    rw [List.set_set]
  have fh := st.fh
  have h0' : Ex H0 H' := h0.trans st.hH
  have r : Rel K H0 F0 F' H' ρ σ := ⟨⟨os, s1, s2, s3⟩, f0, fh, h0', nw⟩
  have rx := r.putFz j (hx F' st.fF)
  have keep : ∀ F2 H2, Stp F' H' F2 H2 → Slots K F2 H2 ρ σ os ∧ (∀ a ∈ os, F2 a = none ∧ H0 a = none) ∧ Ex F0 F2 ∧ (∀ a, F0 a = none → F2 a ≠ none → H0 a = none) ∧ F2 D = none ∧ H2 D = some (.lst vs) := fun F2 H2 s => by
    refine ⟨s1.keep s.fF (fun a _ x e => s.hH a x e), fun a ha => ⟨?_, (s3 a ha).2⟩, f0.trans s.fF, fun a e n => ?_, ?_, s.hH _ _ hD'⟩
    · cases q : F2 a with
      | none => rfl
      | some o => exact (s1.dom a ha (s.nw a (s3 a ha).1 (by rw [q]; simp))).elim
    · by_cases q : F' a = none
      · exact h0'.back (s.nw a q n)
      · exact nw a e q
    · cases q : F2 D with
      | none => rfl
      | some o =>
        have := s.nw D fD (by rw [q]; simp)
        rw [this] at hD'
        cases hD'
  refine ht H0 F0 F' H' _ _ _ _ rx (hg acc g) fun c F2 H2 s hq => ?_
  cases c with
  | false =>
    rw [if_neg Bool.false_ne_true]
    obtain ⟨k1, k2, k3, k4, k5, k6⟩ := keep F2 H2 s
    exact ⟨F2, os, vs, acc, k1, s2, k2, s4, k3, k4, st.trans s, hD, k5, k6, hv.up s.fF, Nat.le_succ_of_le hl, hq.2 rfl⟩
  | true =>
    rw [if_pos rfl]
    refine he H0 F0 F2 H2 _ _ _ _ (rx.step s) (hq.1 rfl) fun y d F3 H3 s' hy hq => ?_
    have ss := s.trans s'
    obtain ⟨k1, k2, k3, k4, k5, k6⟩ := keep F3 H3 ss
    refine ⟨vs, k6, by rw [hv.len]; exact sz_lt (Nat.lt_of_le_of_lt hl hk), F3, os, vs ++ [y], acc ++ [d], k1.keep (Ex.refl _) (fun a ha x e => ?_), s2, k2, s4, k3, k4, ?_, hD, k5, upd_same, (hv.up ss.fF).append (.one hy), by simp; exact hl, hq⟩
    · rw [upd_ne (ne_mem ha s4)]
      exact e
    · have t := st.trans ss
      exact ⟨t.fF, Ex.mut t.hH hD, Ex.mut t.fh k5, t.nw⟩
theorem lcw_start (r : Rel K H0 F0 F H ρ σ) (hD : H D = none) {G : List DL.D → Prop} (g : G []) : LcW K H0 F0 F H ρ σ D G 0 (upd H D (.lst [])) := by
  obtain ⟨os, s1, s2, s3⟩ := r.sl
  refine ⟨F, os, [], [], s1.keep (Ex.refl F) (fun a ha x e => ?_), s2, s3, fun z => s1.dom D z hD, r.f0, r.nw, Stp.grow r.fh (Ex.new hD), hD, r.fh.back hD, upd_same, .nil, Nat.zero_le _, g⟩
  rw [upd_ne (ne_of_none e hD)]
  exact e
/-- a clause's tests -/
structure QTs (X : Cx) (ifs : List Expr) (tt : TT) (dt : DT) : Prop where
  pt : PTs X ifs tt
  st : ST X.K tt dt
theorem qts_nil {X : Cx} : QTs X [] tYes dYes := ⟨pts_nil, fun _ _ F H _ _ _ _ r q k => k true F H (Stp.refl r.fh) q⟩
theorem qts_one {X : Cx} {c : Expr} (h : QT X c tt dt) : QTs X [c] tt dt := ⟨pts_one h.pt, h.st⟩
theorem sl_lcL {tl : TE} {dl : DA} (hl : SF K tl dl) (ht : ST K tt dt) (he : SE true K te de) : SL K (tLc (iList K tl) (gName j) tt te [j]) (dLc dl j dt de) := fun H0 F0 F1 H1 ρ σ Q R r1 q k =>
  hl H0 F0 F1 H1 ρ σ _ _ r1 q fun a vs ds F H s hs hv q => ⟨a, rfl, ⟨vs, s.fh.seq hs⟩, fun D hD => by
    have r := r1.step s
    refine lc_list (K := K) (a := a) (xs := vs) (fun k H' => LcW K H0 F0 F H ρ σ D (fun acc => dLcG j dt de ρ Q (ds.drop k) acc) k H') (lcw_start r hD q.2) (fun k H' _ w => ?_) (fun k x H' hx w => ?_) (fun H' w => ?_)
    · obtain ⟨F', os, vs, acc, s1, s2, s3, s4, f0, nw, st, _⟩ := w
      exact st.fh.seq (st.fF.seq hs)
    · have hk : k < ds.length := by
        have := (List.getElem?_eq_some_iff.mp hx).1
        rw [hv.len] at this
        exact this
      obtain ⟨v, e1, e2⟩ := hv.get (List.getElem?_eq_getElem hk)
      obtain rfl : v = x := Option.some.inj (e1.symm.trans hx)
      refine lcw_turn (G := fun k acc => dLcG j dt de ρ Q (ds.drop k) acc) (x := ds[k]) r.h0 ht he w (fun F' e => e2.up e) (Nat.lt_of_lt_of_le hk q.1) fun acc g => ?_
      rw [List.drop_eq_getElem_cons hk] at g
      exact g
    · obtain ⟨F', os, ws, acc, s1, s2, s3, s4, f0, nw, st, hD0, fD, hD', hv', hl, g⟩ := w
      rw [hv.len, List.drop_length] at g
      exact k D ws acc F' H' (s.trans st) (s.hH.back hD) fD hD' hv' g⟩
theorem sl_lcR {ta : TA} {lo : Int} {F H : Hp} {n : Nat} {ds : List DL.D} (ht : ST K tt dt) (he : SE true K te de) (r : Rel K H0 F0 F H ρ σ) {Q : List DL.D → Prop} (hn : n = ds.length) (hd : ∀ k (h : k < ds.length), ds[k] = .int (lo + (k : Nat))) (q : ds.length ≤ 1000000 ∧ dLcG j dt de ρ Q ds []) {R : VK}
    (k : ∀ p vs es F2 H2, Stp F H F2 H2 → H p = none → F2 p = none → H2 p = some (.lst vs) → RepL K F2 vs es → Q es → R (.ref p) H2) (D : Addr) (hD : H D = none) :
    ∃ W : Nat → Nat → Hp → Prop, (∃ m, W 0 m (upd H D (.lst []))) ∧ ∀ i m H, W i m H →
      ((Itr lo n).stop i H ∧ R (.ref D) H) ∨ ((Itr lo n).go i H ∧ ∃ Nx : Hp → Prop, (∀ H', Nx H' → ∃ m', m' < m ∧ W (i + 1) m' H') ∧ ∀ x H', (Itr lo n).yld i H x H' → gName j x (wipe σ [j]) H' fun σ2 H2 => wipe σ2 [j] = wipe σ [j] ∧ tt σ2 H2 fun b H3 =>
        if b = true then te σ2 H3 fun y H4 => ∃ acc, H4 D = some (.lst acc) ∧ acc.length < sizeLine ∧ Nx (upd H4 D (.lst (acc ++ [y]))) else Nx H3) := by
  subst hn
  refine lc_range (fun k H' => LcW K H0 F0 F H ρ σ D (fun acc => dLcG j dt de ρ Q (ds.drop k) acc) k H') (lcw_start r hD q.2) (fun k H' hk w => ?_) (fun H' w => ?_)
  · refine lcw_turn (G := fun k acc => dLcG j dt de ρ Q (ds.drop k) acc) (x := ds[k]) r.h0 ht he w (fun F' e => by rw [hd k hk]; exact .int _) (Nat.lt_of_lt_of_le hk q.1) fun acc g => ?_
    rw [List.drop_eq_getElem_cons hk] at g
    exact g
  · obtain ⟨F', os, ws, acc, s1, s2, s3, s4, f0, nw, st, hD0, fD, hD', hv', hl, g⟩ := w
    rw [List.drop_length] at g
    exact k D ws acc F' H' st hD fD hD' hv' g
theorem sl_lcR1 {ta : TA} {da : DA} (ha : SA false K ta da) (ht : ST K tt dt) (he : SE true K te de) : SL K (tLc (iRng1 ta) (gName j) tt te [j]) (dLc (dRng1 da) j dt de) := fun H0 F0 F1 H1 ρ σ Q R r1 q k =>
  ha H0 F0 F1 H1 ρ σ _ _ r1 q fun vs ds F H s hv q => by
    split at q
    · rename_i j2
      cases hv with
      | cons h1 h2 =>
        cases h1
        cases h2
        refine ⟨_, rfl, q.1.1, q.1.2, fun D hD => ?_⟩
        exact sl_lcR (ta := ta) (lo := 0) ht he (r1.step s) (by rw [rangeD_len, Int.sub_zero]) (fun k h => by rw [rangeD_len] at h; exact rangeD_get h) q.2 (fun p vs es F2 H2 s2 hp => k p vs es F2 H2 (s.trans s2) (s.hH.back hp)) D hD
    · exact q.elim
theorem sl_lcR2 {ta : TA} {da : DA} (ha : SA false K ta da) (ht : ST K tt dt) (he : SE true K te de) : SL K (tLc (iRng2 ta) (gName j) tt te [j]) (dLc (dRng2 da) j dt de) := fun H0 F0 F1 H1 ρ σ Q R r1 q k =>
  ha H0 F0 F1 H1 ρ σ _ _ r1 q fun vs ds F H s hv q => by
    split at q
    · cases hv with
      | cons h1 h2 =>
        cases h1
        cases h2 with
        | cons h3 h4 =>
          cases h3
          cases h4
          refine ⟨_, _, rfl, q.1, fun D hD => ?_⟩
          exact sl_lcR (ta := ta) ht he (r1.step s) (by rw [rangeD_len]) (fun k h => by rw [rangeD_len] at h; exact rangeD_get h) q.2 (fun p vs es F2 H2 s2 hp => k p vs es F2 H2 (s.trans s2) (s.hH.back hp)) D hD
    · exact q.elim
end
/-- what a comprehension's parts are -/
structure QC (X : Cx) (iter : Expr) (x : Str) (px : Pos) (ifs : List Expr) (elt : Expr) (scope : Scope) (j : Nat) (wi : TI) (tt : TT) (te : TE) (dl : DA) : Prop where
  hc : X.calm = true
  hN : X.N.Nodup
  pi : PI X (.Name x px) iter wi
  ok : BlkOk X.N X.env.scope scope [(x, j)]
  pg : ∀ (s : Shared) (H : Hp) (C : Addr) (cl : List (Str × Addr)) (fp : List Addr), PG (X.blk s H scope (compEnvC scope cl C X.env) fp) (.Name x px) (gName j)
  pt : ∀ (s : Shared) (H : Hp) (C : Addr) (cl : List (Str × Addr)) (fp : List Addr), PTs (X.blk s H scope (compEnvC scope cl C X.env) fp) ifs tt
  pe : ∀ (s : Shared) (H : Hp) (C : Addr) (cl : List (Str × Addr)) (fp : List Addr), PE (X.blk s H scope (compEnvC scope cl C X.env) fp) elt te
  fs : ∀ x, foldedSetIterable iter X.env x = pure x
  sl : SL X.K (tLc wi (gName j) tt te [j]) dl
section
variable {X : Cx} {iter elt : Expr} {x : Str} {px pos : Pos} {ifs : List Expr} {scope : Scope} {j : Nat} {wi : TI} {tt : TT} {te tl : TE} {dl : DA} {dt : DT} {de : DE}
theorem qc_L (hc : X.calm = true) (hN : X.N.Nodup) (h : QF X iter tl dl) (ok : BlkOk X.N X.env.scope scope [(x, j)])
    (hg : ∀ (s : Shared) (H : Hp) (C : Addr) (cl : List (Str × Addr)) (fp : List Addr), PG (X.blk s H scope (compEnvC scope cl C X.env) fp) (.Name x px) (gName j))
    (ht : ∀ (s : Shared) (H : Hp) (C : Addr) (cl : List (Str × Addr)) (fp : List Addr), QTs (X.blk s H scope (compEnvC scope cl C X.env) fp) ifs tt dt)
    (he : ∀ (s : Shared) (H : Hp) (C : Addr) (cl : List (Str × Addr)) (fp : List Addr), QE true (X.blk s H scope (compEnvC scope cl C X.env) fp) elt te de)
    (fs : ∀ x, foldedSetIterable iter X.env x = pure x := by intro _; rfl) : QC X iter x px ifs elt scope j (iList X.K tl) tt te (dLc dl j dt de) :=
  ⟨hc, hN, pi_list h.pe, ok, hg, fun s H C cl fp => (ht s H C cl fp).pt, fun s H C cl fp => (he s H C cl fp).pe, fs, sl_lcL h.sf (ht X.s_0 X.H_0 0 [] []).st (he X.s_0 X.H_0 0 [] []).se⟩
theorem qc_R1 {a : Expr} {p p2 : Pos} {ta : TA} {da : DA} (hc : X.calm = true) (hN : X.N.Nodup) (hm : X.mg "range" = none) (h : QA false X [a] ta da) (ok : BlkOk X.N X.env.scope scope [(x, j)])
    (hg : ∀ (s : Shared) (H : Hp) (C : Addr) (cl : List (Str × Addr)) (fp : List Addr), PG (X.blk s H scope (compEnvC scope cl C X.env) fp) (.Name x px) (gName j))
    (ht : ∀ (s : Shared) (H : Hp) (C : Addr) (cl : List (Str × Addr)) (fp : List Addr), QTs (X.blk s H scope (compEnvC scope cl C X.env) fp) ifs tt dt)
    (he : ∀ (s : Shared) (H : Hp) (C : Addr) (cl : List (Str × Addr)) (fp : List Addr), QE true (X.blk s H scope (compEnvC scope cl C X.env) fp) elt te de)
    (hgl : Gl X "range" := by rfl) (hs : starEach [a] X.env = [(false, eval a X.env)] := by rfl)
    (fs : ∀ x, foldedSetIterable (.Call (.Name "range" p) [a] [] p2) X.env x = pure x := by intro _; rfl) : QC X (.Call (.Name "range" p) [a] [] p2) x px ifs elt scope j (iRng1 ta) tt te (dLc (dRng1 da) j dt de) :=
  ⟨hc, hN, pi_range1 hgl hm h.pa hs, ok, hg, fun s H C cl fp => (ht s H C cl fp).pt, fun s H C cl fp => (he s H C cl fp).pe, fs, sl_lcR1 h.sa (ht X.s_0 X.H_0 0 [] []).st (he X.s_0 X.H_0 0 [] []).se⟩
theorem qc_R2 {a b : Expr} {p p2 : Pos} {ta : TA} {da : DA} (hc : X.calm = true) (hN : X.N.Nodup) (hm : X.mg "range" = none) (h : QA false X [a, b] ta da) (ok : BlkOk X.N X.env.scope scope [(x, j)])
    (hg : ∀ (s : Shared) (H : Hp) (C : Addr) (cl : List (Str × Addr)) (fp : List Addr), PG (X.blk s H scope (compEnvC scope cl C X.env) fp) (.Name x px) (gName j))
    (ht : ∀ (s : Shared) (H : Hp) (C : Addr) (cl : List (Str × Addr)) (fp : List Addr), QTs (X.blk s H scope (compEnvC scope cl C X.env) fp) ifs tt dt)
    (he : ∀ (s : Shared) (H : Hp) (C : Addr) (cl : List (Str × Addr)) (fp : List Addr), QE true (X.blk s H scope (compEnvC scope cl C X.env) fp) elt te de)
    (hgl : Gl X "range" := by rfl) (hs : starEach [a, b] X.env = [(false, eval a X.env), (false, eval b X.env)] := by rfl) (hs2 : starEach [b] X.env = [(false, eval b X.env)] := by rfl)
    (fs : ∀ x, foldedSetIterable (.Call (.Name "range" p) [a, b] [] p2) X.env x = pure x := by intro _; rfl) : QC X (.Call (.Name "range" p) [a, b] [] p2) x px ifs elt scope j (iRng2 ta) tt te (dLc (dRng2 da) j dt de) :=
  ⟨hc, hN, pi_range2 hgl hm h.pa hs hs2, ok, hg, fun s H C cl fp => (ht s H C cl fp).pt, fun s H C cl fp => (he s H C cl fp).pe, fs, sl_lcR2 h.sa (ht X.s_0 X.H_0 0 [] []).st (he X.s_0 X.H_0 0 [] []).se⟩
theorem ql_lc (h : QC X iter x px ifs elt scope j wi tt te dl) : QL X (.ListComp elt [⟨.Name x px, iter, ifs, 0⟩] scope pos) (tLc wi (gName j) tt te [j]) dl := ⟨pe_lc (own := [(x, j)]) h.hc h.hN h.pi h.ok h.pg h.pt h.pe h.fs, h.sl⟩
/-- y = [..] on one line -/
theorem qs_setLcL {i : Nat} {y : Str} {py spos : Pos} (h : QC X iter x px ifs elt scope j wi tt te dl) (hy : X.N[i]? = some y) (hyl : X.env.scope.names.lookup y = some .local)
    (hsw : swapsWith (.ListComp elt [⟨.Name x px, iter, ifs, 0⟩] scope pos) (some (.Name y py)) spos.line X.env = pure true) : QSt X (.Assign [.Name y py] (.ListComp elt [⟨.Name x px, iter, ifs, 0⟩] scope pos) spos) (tAsg (tLc wi (gName j) tt te [j]) (gName i)) (dSetL i dl) :=
  ⟨ps_setLc (own := [(x, j)]) h.hc h.hN hy hyl hsw h.pi h.ok h.pg h.pt h.pe h.fs, fun H0 F0 F H ρ σ P E r q g =>
    h.sl H0 F0 F H ρ σ _ _ r q fun p vs ds F2 H2 s hp hf h2 hv hq => g.nx _ _ _ _ (r.setOwn s i (.l1 h2 hv) (by simp) (fun a ha => by simp only [List.mem_singleton] at ha; subst ha; exact ⟨hf, hp⟩)) hq⟩
theorem qs_setLcF {i : Nat} {y : Str} {py spos : Pos} (h : QC X iter x px ifs elt scope j wi tt te dl) (hy : X.N[i]? = some y) (hyl : X.env.scope.names.lookup y = some .local)
    (hsw : swapsWith (.ListComp elt [⟨.Name x px, iter, ifs, 0⟩] scope pos) (some (.Name y py)) spos.line X.env = pure true) : QSt X (.Assign [.Name y py] (.ListComp elt [⟨.Name x px, iter, ifs, 0⟩] scope pos) spos) (tAsg (tLc wi (gName j) tt te [j]) (gName i)) (dSet i (dL dl)) :=
  ⟨ps_setLc (own := [(x, j)]) h.hc h.hN hy hyl hsw h.pi h.ok h.pg h.pt h.pe h.fs, fun H0 F0 F H ρ σ P E r q g =>
    h.sl H0 F0 F H ρ σ _ _ r q fun p vs ds F2 H2 s hp hf h2 hv hq => g.nx _ _ _ _ ((r.step (Stp.own s hp hf h2)).putFz i (.lst upd_same (hv.up (Ex.new hf)))) hq⟩
end
end DL

/-! DL H: built-in calls, == of data, calls of defs, a def's promise -/
namespace DL
open PySem L2

/-! ### == of data -/
mutual
def D.py : D → PyData
  | .non => .none
  | .bl b => .bool b
  | .int i => .int i
  | .str s => .str s
  | .lst xs => .list (D.pyAll xs)
  | .tup xs => .tuple (D.pyAll xs)
  | .dct _ => .dict []
  | .scr ns => .list (ns.map PyData.int)
def D.pyAll : List D → List PyData
  | [] => []
  | x :: xs => D.py x :: D.pyAll xs
end
mutual
def D.plain : D → Bool
  | .dct _ => false
  | .lst xs => D.plainAll xs
  | .tup xs => D.plainAll xs
  | _ => true
def D.plainAll : List D → Bool
  | [] => true
  | x :: xs => D.plain x && D.plainAll xs
end
section
variable {K : PySem.W.Frag} {H : Hp}
theorem dp_ints : ∀ ns : List Int, DpAll K H (ns.map V.int) (ns.map PyData.int)
  | [] => .nil
  | n :: ns => .cons (.int n) (dp_ints ns)
mutual
theorem Rep.dp : ∀ (d : D) (v : V), Rep K H v d → d.plain = true → Dp K H v d.py
  | .non, _, h, _ => by cases h; exact .non
  | .bl _, _, h, _ => by cases h; exact .bl _
  | .int _, _, h, _ => by cases h; exact .int _
  | .str _, _, h, _ => by cases h; exact .str _
  | .lst ds, _, h, p => by
    cases h with
    | lst h1 h2 => exact .lst (.inl (.inl h1)) (RepL.dp ds _ h2 p)
  | .tup ds, _, h, p => by
    cases h with
    | tup h1 h2 => exact .tup (.inl (.inl h1)) (RepL.dp ds _ h2 p)
  | .dct _, _, _, p => by cases p
  | .scr ns, _, h, _ => by
    cases h with
    | scr h1 => exact .lst h1 (dp_ints ns)
theorem RepL.dp : ∀ (ds : List D) (vs : List V), RepL K H vs ds → D.plainAll ds = true → DpAll K H vs (D.pyAll ds)
  | [], _, h, _ => by cases h; exact .nil
  | d :: ds, _, h, p => by
    cases h with
    | cons h1 h2 =>
      have q : (D.plain d && D.plainAll ds) = true := p
      rw [Bool.and_eq_true] at q
      exact .cons (Rep.dp d _ h1 q.1) (RepL.dp ds _ h2 q.2)
end
end
def D.shp (d : D) : Prop := d.plain = true ∧ SeqAt.shaped d.py = true
def oEqD (neg : Bool) : DR2 := fun x y Q => x.shp ∧ y.shp ∧ Q (.bl (xor neg (PyData.eqv x.py y.py)))
section
variable {K : PySem.W.Frag} {b : Bool}
theorem r2_eqD : R2D false b K (rEqD K) (oEqD false) := fun F H x y d e Q R ef hx hy q k =>
  ⟨_, _, Rep.dp d x hx q.1.1, Rep.dp e y hy q.2.1.1, q.1.2, q.2.1.2, k _ _ F H (Stp.refl ef) (.bl _) (by simpa using q.2.2)⟩
theorem r2_neD : R2D false b K (rNeD K) (oEqD true) := fun F H x y d e Q R ef hx hy q k =>
  ⟨_, _, Rep.dp d x hx q.1.1, Rep.dp e y hy q.2.1.1, q.1.2, q.2.1.2, k _ _ F H (Stp.refl ef) (.bl _) (by simpa using q.2.2)⟩
end
section
variable {X : Cx} {b : Bool} {pos : Pos} {e f : Expr} {ta tb : TE} {da db : DE}
theorem qe_eqD (hu : X.A.units + 64 < cLine) (ha : QE false X e ta da) (hb : QE false X f tb db) : QE b X (.Compare e [.Eq] [f] pos) (tOp (rEqD X.K) ta tb) (dOp (oEqD false) da db) := ⟨pe_cmpR (op_eqD hu) ha.pe hb.pe (nomark _), se_op r2_eqD ha.se hb.se⟩
theorem qe_neD (hu : X.A.units + 64 < cLine) (ha : QE false X e ta da) (hb : QE false X f tb db) : QE b X (.Compare e [.NotEq] [f] pos) (tOp (rNeD X.K) ta tb) (dOp (oEqD true) da db) := ⟨pe_cmpR (op_neD hu) ha.pe hb.pe (nomark _), se_op r2_neD ha.se hb.se⟩
theorem qt_eqD (hu : X.A.units + 64 < cLine) (ha : QE false X e ta da) (hb : QE false X f tb db) : QT X (.Compare e [.Eq] [f] pos) (tTest (tOp (rEqD X.K) ta tb)) (dT (dOp (oEqD false) da db)) := ⟨pt_cmpR (op_eqD hu) ha.pe hb.pe (nomark _), st_test (se_op r2_eqD ha.se hb.se)⟩
theorem qt_neD (hu : X.A.units + 64 < cLine) (ha : QE false X e ta da) (hb : QE false X f tb db) : QT X (.Compare e [.NotEq] [f] pos) (tTest (tOp (rNeD X.K) ta tb)) (dT (dOp (oEqD true) da db)) := ⟨pt_cmpR (op_neD hu) ha.pe hb.pe (nomark _), st_test (se_op r2_neD ha.se hb.se)⟩
end

/-! ### built-in calls -/
def dI2 (g : Int → Int → Int) (da : DA) : DE := fun ρ Q => da ρ fun xs => match xs with | [.int i, .int j] => Q (.int (g i j)) | _ => False
def gMin (i j : Int) : Int := if j < i then j else i
def gMax (i j : Int) : Int := if j > i then j else i
def rI2 (g : Int → Int → Int) : List V → Hp → VK → Prop := fun xs H Q => ∃ i j, xs = [.int i, .int j] ∧ Q (.int (g i j)) H
def D.ty : D → String
  | .non => "NoneType" | .bl _ => "bool" | .int _ => "int" | .str _ => "str" | .lst _ => "list" | .tup _ => "tuple" | .dct _ => "dict" | .scr _ => "list"
inductive TyIn : String → Prop
  | int : TyIn "int" | bool : TyIn "bool" | list : TyIn "list" | tuple : TyIn "tuple" | str : TyIn "str"
def isiB (t T : String) : Bool := t == T || (t == "bool" && T == "int")
def D.isi (d : D) (T : String) : Bool := isiB d.ty T
def dIsi (T : String) (da : DE) : DE := fun ρ Q => da ρ fun d => Q (.bl (d.isi T))
def dAll (dl : DA) : DE := fun ρ Q => dl ρ fun ds => ∃ bs : List Bool, ds = bs.map D.bl ∧ Q (.bl (bs.all id))
def dLenSet (dl : DA) : DE := fun ρ Q => dl ρ fun ds => ∃ ns : List Int, ds = ns.map D.int ∧ ns.Nodup ∧ ns.length ≤ 4000 ∧ Q (.int ns.length)
def oInL (neg : Bool) (x : D) (ds : List D) (Q : D → Prop) : Prop := ∃ (k : Int) (ns : List Int), x = .int k ∧ ds = ns.map D.int ∧ Q (.bl (xor neg (decide (k ∈ ns))))
def dInL (neg : Bool) (da : DE) (dl : DA) : DE := fun ρ Q => da ρ fun x => dl ρ fun ds => oInL neg x ds Q
theorem inV_ints (k : Int) (ns : List Int) : inV (.int k) (ns.map V.int) = decide (k ∈ ns) := by
  unfold inV
  rw [Bool.eq_iff_iff, List.any_eq_true, decide_eq_true_iff]
  constructor
  · rintro ⟨y, hy, e⟩
    obtain ⟨n, hn, rfl⟩ := List.mem_map.mp hy
    have : n = k := by simpa [eqV] using e
    exact this ▸ hn
  · intro h
    exact ⟨.int k, List.mem_map.mpr ⟨k, h, rfl⟩, by simp [eqV]⟩
theorem flat_ints (ns : List Int) : (ns.map V.int).all flatV = true := by
  rw [List.all_eq_true]
  intro y hy
  obtain ⟨n, _, rfl⟩ := List.mem_map.mp hy
  rfl
theorem RepL.bools_inv {K : PySem.W.Frag} {H : Hp} : ∀ {ns : List Bool} {vs : List V}, RepL K H vs (ns.map D.bl) → vs = ns.map V.bl
  | [], _, h => by cases h; rfl
  | n :: ns, _, h => by
    cases h with
    | cons h1 h2 =>
      cases h1
      rw [RepL.bools_inv h2]
      rfl
theorem kit_NoneType {K : PySem.W.Frag} {T : String} (hT : TyIn T) : PySem.W.kitOne K (.type "NoneType") (.type T) = some (isiB "NoneType" T) := by cases hT <;> exact kit_ty (by decide +kernel)
theorem kit_bool {K : PySem.W.Frag} {T : String} (hT : TyIn T) : PySem.W.kitOne K (.type "bool") (.type T) = some (isiB "bool" T) := by cases hT <;> exact kit_ty (by decide +kernel)
theorem kit_int {K : PySem.W.Frag} {T : String} (hT : TyIn T) : PySem.W.kitOne K (.type "int") (.type T) = some (isiB "int" T) := by cases hT <;> exact kit_ty (by decide +kernel)
theorem kit_str {K : PySem.W.Frag} {T : String} (hT : TyIn T) : PySem.W.kitOne K (.type "str") (.type T) = some (isiB "str" T) := by cases hT <;> exact kit_ty (by decide +kernel)
theorem kit_list {K : PySem.W.Frag} {T : String} (hT : TyIn T) : PySem.W.kitOne K (.type "list") (.type T) = some (isiB "list" T) := by cases hT <;> exact kit_ty (by decide +kernel)
theorem kit_tuple {K : PySem.W.Frag} {T : String} (hT : TyIn T) : PySem.W.kitOne K (.type "tuple") (.type T) = some (isiB "tuple" T) := by cases hT <;> exact kit_ty (by decide +kernel)
theorem kit_dict {K : PySem.W.Frag} {T : String} (hT : TyIn T) : PySem.W.kitOne K (.type "dict") (.type T) = some (isiB "dict" T) := by cases hT <;> exact kit_ty (by decide +kernel)
theorem isi_ok {K : PySem.W.Frag} {H : Hp} {v : V} {d : D} {T : String} (h : Rep K H v d) (hT : TyIn T) : ∃ t : String, TyX K H v (.type t) ∧ PySem.W.kitOne K (.type t) (.type T) = some (d.isi T) := by
  cases h with
  | non => exact ⟨_, .base .non, kit_NoneType hT⟩
  | bl => exact ⟨_, .base (.bl _), kit_bool hT⟩
  | int => exact ⟨_, .base (.int _), kit_int hT⟩
  | str => exact ⟨_, .base (.str _), kit_str hT⟩
  | lst h1 _ => exact ⟨_, .base (.lst h1), kit_list hT⟩
  | tup h1 _ => exact ⟨_, .base (.tup h1), kit_tuple hT⟩
  | dct h1 _ => exact ⟨_, .base (.dK h1), kit_dict hT⟩
  | scr h1 =>
    rcases h1 with (h1 | ⟨o, h1⟩) | ⟨o, _, _, h1, h2, _⟩
    · exact ⟨_, .base (.lst h1), kit_list hT⟩
    · exact ⟨_, .base (.frz h1), kit_list hT⟩
    · exact ⟨_, .kList h1 h2, kit_list hT⟩
section
variable {X : Cx} {b : Bool} {pos : Pos} {e f : Expr} {te tf ta : TE} {de df : DE} {dl : DA} {da : DA}
theorem qe_min {p : Pos} {x y : Expr} {ta : TA} (hc : X.calm = true) (hm : X.mg "min" = none) (h : QA false X [x, y] ta da) (hg : Gl X "min" := by rfl) (hv : bootBuiltins "min" = some (.builtin "min") := by decide +kernel)
    (he : starEach [x, y] X.env = (false, eval x X.env) :: starEach [y] X.env := by rfl) (hpl : (backTo pos (starEach [y] X.env)).any (·.1) = false := by rfl) : QE b X (.Call (.Name "min" p) [x, y] [] pos) (tCB (rI2 gMin) ta) (dI2 gMin da) :=
  ⟨pe_callB (call_min2 hc) hg hm hv h.pa (by decide) (by decide) he hpl, fun H0 F0 F H ρ σ Q R r q k => h.sa H0 F0 F H ρ σ _ _ r q fun vs ds F2 H2 s hv hq => by
    split at hq
    · cases hv with
      | cons h1 h2 => cases h1; cases h2 with
        | cons h3 h4 => cases h3; cases h4; exact ⟨_, _, rfl, k _ _ F2 H2 s (.int _) hq⟩
    · exact hq.elim⟩
theorem qe_max {p : Pos} {x y : Expr} {ta : TA} (hc : X.calm = true) (hm : X.mg "max" = none) (h : QA false X [x, y] ta da) (hg : Gl X "max" := by rfl) (hv : bootBuiltins "max" = some (.builtin "max") := by decide +kernel)
    (he : starEach [x, y] X.env = (false, eval x X.env) :: starEach [y] X.env := by rfl) (hpl : (backTo pos (starEach [y] X.env)).any (·.1) = false := by rfl) : QE b X (.Call (.Name "max" p) [x, y] [] pos) (tCB (rI2 gMax) ta) (dI2 gMax da) :=
  ⟨pe_callB (call_max2 hc) hg hm hv h.pa (by decide) (by decide) he hpl, fun H0 F0 F H ρ σ Q R r q k => h.sa H0 F0 F H ρ σ _ _ r q fun vs ds F2 H2 s hv hq => by
    split at hq
    · cases hv with
      | cons h1 h2 => cases h1; cases h2 with
        | cons h3 h4 => cases h3; cases h4; exact ⟨_, _, rfl, k _ _ F2 H2 s (.int _) hq⟩
    · exact hq.elim⟩
theorem qe_isi {p p2 : Pos} {x : Expr} {T : String} {n : Str} (hT : TyIn T) (hm : X.mg "isinstance" = none) (hmT : X.mg n = none) (h : QE false X x te de) (hg : Gl X "isinstance" := by rfl) (hgT : Gl X n := by rfl) (hv : bootBuiltins "isinstance" = some (.builtin "isinstance") := by decide +kernel)
    (hvT : bootBuiltins n = some (.type T) := by decide +kernel) (hn : n ≠ "__name__" := by decide) (hd : (n == ("__debug__" : Str)) = false := by decide)
    (he : starEach [x, .Name n p2] X.env = (false, eval x X.env) :: starEach [.Name n p2] X.env := by rfl) (he2 : starEach [.Name n p2] X.env = (false, eval (.Name n p2) X.env) :: starEach [] X.env := by rfl) (hpl : (backTo pos (starEach [.Name n p2] X.env)).any (·.1) = false := by rfl) :
    QE b X (.Call (.Name "isinstance" p) [x, .Name n p2] [] pos) (tCB (rIsi X.K) (tCons te (tCons (tC (.ty T)) tNil))) (dIsi T de) :=
  ⟨pe_callB call_isi hg hm hv (pa_cons h.pe (pa_cons (pe_bltn (v := .ty T) hgT hmT hvT rfl hn hd) pa_nil he2) he) (by decide) (by decide) he hpl, fun H0 F0 F H ρ σ Q R r q k => h.se H0 F0 F H ρ σ _ _ r q fun v d F2 H2 s hv hq => by
    obtain ⟨t, h1, h2⟩ := isi_ok hv hT
    exact ⟨v, .ty T, _, _, _, rfl, .ty T, h1, h2, k _ _ F2 H2 s (.bl _) hq⟩⟩
theorem qe_all {p : Pos} {x : Expr} (hc : X.calm = true) (hm : X.mg "all" = none) (h : QS false X x te dl) (hg : Gl X "all" := by rfl) (hv : bootBuiltins "all" = some (.builtin "all") := by decide +kernel) (he : starEach [x] X.env = (false, eval x X.env) :: starEach [] X.env := by rfl) :
    QE b X (.Call (.Name "all" p) [x] [] pos) (tCB (rAll X.K) (tCons te tNil)) (dAll dl) := ⟨pe_callB (cr_all hc) hg hm hv (pa_cons h.pe pa_nil he) (by decide) (by decide) he, fun H0 F0 F H ρ σ Q R r q k =>
  h.ss H0 F0 F H ρ σ _ _ r q fun a vs ds F2 H2 s hs hr hq => by
    obtain ⟨bs, rfl, hq⟩ := hq
    obtain rfl := hr.bools_inv
    exact ⟨a, bs, rfl, hs, k _ _ F2 H2 s (.bl _) hq⟩⟩
theorem qe_lenSet {p p2 q : Pos} {x : Expr} (hc : X.calm = true) (hm : X.mg "len" = none) (hm2 : X.mg "set" = none) (h : QS false X x te dl) (hg : Gl X "len" := by rfl) (hg2 : Gl X "set" := by rfl) (he : starEach [x] X.env = (false, eval x X.env) :: starEach [] X.env := by rfl) :
    QE b X (.Call (.Name "len" p) [.Call (.Name "set" p2) [x] [] q] [] pos) (RZ.tLenSetI X.K te) (dLenSet dl) := ⟨RZ.pe_lenSetI hg hm hg2 hm2 h.pe hc he, fun H0 F0 F H ρ σ Q R r q k =>
  h.ss H0 F0 F H ρ σ _ _ r q fun a vs ds F2 H2 s hs hr hq => by
    obtain ⟨ns, rfl, h1, h2, hq⟩ := hq
    obtain rfl := hr.ints_inv
    exact ⟨a, ns, rfl, hs, h1, h2, k _ _ F2 H2 s (.int _) hq⟩⟩
theorem se_inL {neg : Bool} (h : SE false X.K te de) (h2 : SI false X.K tf dl) : SE b X.K (tOp (rIn X.K neg) te tf) (dInL neg de dl) := fun H0 F0 F H ρ σ Q R r q k =>
  h H0 F0 F H ρ σ _ _ r q fun v d F2 H2 s hv hq => h2 H0 F0 F2 H2 ρ σ _ _ (r.step s) hq fun a vs ds F3 H3 s3 hs hr hq => by
    obtain ⟨n, ns, rfl, rfl, hq⟩ := hq
    cases hv
    obtain rfl := hr.ints_inv
    refine ⟨a, _, rfl, hs, rfl, flat_ints ns, k _ _ F3 H3 (s.trans s3) (.bl _) ?_⟩
    rw [inV_ints]
    cases neg with
    | false => simpa using hq
    | true => simpa using hq
theorem qt_ninL (h : QE false X e te de) (h2 : QI false X f tf dl) (hm : behindInMarks .NotIn f = false := by rfl) : QT X (.Compare e [.NotIn] [f] pos) (tTest (tOp (rIn X.K true) te tf)) (dT (dInL true de dl)) := ⟨pt_cmpR op_notIn_seq h.pe h2.pe hm, st_test (se_inL h.se h2.si)⟩

/-! ### calls of defs, a def's promise -/
abbrev DSp := List D → (D → Prop) → Prop
def liftSp (K : PySem.W.Frag) (sp : DSp) : Sp := fun vs H Q _ => ∃ F ds Q0, Ex F H ∧ RepL K F vs ds ∧ sp ds Q0 ∧ ∀ d v F2 H2, Q0 d → Stp F H F2 H2 → Rep K F2 v d → Q v H2
def dCall (sp : DSp) (da : DA) : DE := fun ρ Q => da ρ fun ds => sp ds Q
theorem se_call {ta : TA} {K : PySem.W.Frag} {sp : DSp} {E : XK} (h : SA b K ta da) : SE b K (tCall (liftSp K sp) [] E ta) (dCall sp da) := fun H0 F0 F H ρ σ Q R r q k =>
  h H0 F0 F H ρ σ _ _ r q fun vs ds F2 H2 s hv hq => by
    show liftSp K sp (vs ++ []) H2 R E
    rw [List.append_nil]
    refine ⟨pick b F2 H2, ds, Q, pick_to s.fh, hv, hq, fun d v F3 H3 hq s3 hr => ?_⟩
    cases b with
    | true => exact k v d F3 H3 (s.trans s3) hr hq
    | false => exact k v d F2 H3 (s.trans (Stp.grow s.fh s3.hH)) (hr.up s3.fh) hq
theorem qe_call {k : Nat} {fa : Addr} {fd : FuncData} {ps : List Str} {sp : DSp} {x : Str} {p : Pos} {es : List Expr} {ta : TA} (G : FnOk X.prog X.w X.K X.mg X.base CX0 k fa fd ps (liftSp X.K sp)) (hr : Room k X.A) (hm : X.mg x = some (.ref fa)) (hk : PySem.W.keepIn X.K (.ref fa) = true) (hb : Binds X.K fd ps [])
    (h : QA b X (e :: es) ta da) (hg : Gl X x := by rfl) (hdb : (x == ("__debug__" : Str)) = false := by decide) (he : starEach (e :: es) X.env = (false, eval e X.env) :: starEach es X.env := by rfl) (hpl : (backTo pos (starEach es X.env)).any (·.1) = false := by rfl)  {K : PySem.W.Frag} (hK : X.K = K := by rfl) :
    QE b X (.Call (.Name x p) (e :: es) [] pos) (tCall (liftSp K sp) [] E0 ta) (dCall sp da) := by
  subst hK
  exact ⟨pe_call G hr hg hm hk hb .nil pass0 h.pa hdb he hpl, se_call h.sa⟩
end
def dstart (n : Nat) (ds : List D) : Env := ds.map Sl.fz ++ List.replicate (n - ds.length) .un
theorem slots_un {K : PySem.W.Frag} {F H : Hp} : ∀ n : Nat, Slots K F H (List.replicate n .un) (List.replicate n none) []
  | 0 => .nil
  | n + 1 => .cons (o := []) (os := []) (.un _) (slots_un n)
theorem slots_start {K : PySem.W.Frag} {F H : Hp} {n : Nat} : ∀ {ds : List D} {vs : List V}, RepL K F vs ds → Slots K F H (ds.map Sl.fz ++ List.replicate n .un) (vs.map some ++ List.replicate n none) []
  | [], _, h => by cases h; exact slots_un n
  | d :: ds, _, h => by
    cases h with
    | cons h1 h2 => exact .cons (o := []) (os := []) (.fz h1) (slots_start h2)
def dEnds (Q : D → Prop) : DEnds := { nx := fun _ => Q .non, rt := Q }
/-- THE RULE for a def -/
theorem fn_ok {P : Program} {w : World} {K : PySem.W.Frag} {mg : Str → Option Value} {base : Heap} {x qual : Str} {st : Stmt} {f : Addr} {fd : FuncData} {N ps : List Str} {k : Nat} {sp : DSp} {d : DS} (F : Fun K x qual st f fd) (S : FnScope N ps (defScope st))
    (hl : ∀ ds Q, sp ds Q → ds.length = ps.length)
    (hd : ∀ ds Q, sp ds Q → d (dEnds Q) (dstart N.length ds))
    (hbody : ∀ (cdv : Value) (A : Around) (outer : List PySem.Env) (s : Shared) (H : Hp) (E : XK), Room k (A.deeper (PyProof.Rows.envOfC qual (defScope st) s.heap.objs.size f cdv)) →
      ∃ t, QSs (cxOf CX0 P w K mg base N qual (defScope st) f cdv A outer s H E).nox (defBody st) t d) : FnOk P w K mg base CX0 (k + 1) f fd ps (liftSp K sp) := by
  refine F.ok S (fun vs H Q E h => ?_) (fun cdv A outer s H vs Q E hr h => ?_)
  · obtain ⟨F', ds, Q0, e, hv, hs, _⟩ := h
    rw [hv.len]
    exact hl ds Q0 hs
  · obtain ⟨F', ds, Q0, e, hv, hs, k⟩ := h
    obtain ⟨t, ht⟩ := hbody cdv A outer s H E hr
    refine ⟨t, ht.ps, ?_⟩
    refine ht.ss H F' F' H (dstart N.length ds) (L2.start N vs) (dEnds Q0) _ ⟨⟨[], ?_, List.nodup_nil, fun a ha => by cases ha⟩, Ex.refl _, e, Ex.refl _, fun a e n => (n e).elim⟩ (hd ds Q0 hs) ⟨?_, ?_, ?_, ?_⟩
    · unfold dstart L2.start
      rw [hv.len]
      exact slots_start hv
    · intro F2 H2 ρ2 σ2 r q
      exact k .non .non F2 H2 q ⟨r.f0, r.h0, r.fh, r.nw⟩ .non
    · intro F2 H2 v d e1 e2 e3 e4 hr q
      exact k d v F2 H2 q ⟨e1, e3, e2, e4⟩ hr
    · intro _ _ _ _ _ q; exact q.elim
    · intro _ _ _ _ _ q; exact q.elim
end DL

/-! DL I: short names; what a law's text gives -/
namespace DL
open PySem L2
abbrev oAdd : DR2 := oI fun i j => .int (i + j)
abbrev oSub : DR2 := oI fun i j => .int (i - j)
abbrev oMul : DR2 := oIc CMul fun i j => .int (i * j)
abbrev oDiv : DR2 := oIc CDivN fun i j => .int (i.fdiv j)
abbrev oMod : DR2 := oIc (fun _ j => j ≠ 0) fun i j => .int (i.fmod j)
abbrev oPow : DR2 := oIc CPow fun i j => .int (i ^ j.toNat)
abbrev oLt : DR2 := oI fun i j => .bl (decide (i < j))
abbrev oLe : DR2 := oI fun i j => .bl (decide (i ≤ j))
abbrev oGt : DR2 := oI fun i j => .bl (decide (j < i))
abbrev oGe : DR2 := oI fun i j => .bl (decide (j ≤ i))
abbrev dints (ns : List Int) : D := .lst (ns.map D.int)

/-- a def of the text, with its promise -/
def Has (P : Program) (w : World) (K : PySem.W.Frag) (mg : Str → Option Value) (base : Heap) (k : Nat) (x : Str) (ps : List Str) (sp : DSp) : Prop :=
  ∃ (fa : Addr) (fd : FuncData), FnOk P w K mg base CX0 k fa fd ps (liftSp K sp) ∧ mg x = some (.ref fa) ∧ PySem.W.keepIn K (.ref fa) = true ∧ Binds K fd ps []
/-- built-in names that the text leaves alone -/
structure Bt (mg : Str → Option Value) : Prop where
  len : mg "len" = none
  range : mg "range" = none
  list : mg "list" = none
  sorted : mg "sorted" = none
  min : mg "min" = none
  max : mg "max" = none
  isinstance : mg "isinstance" = none
  int : mg "int" = none
  bool : mg "bool" = none
  tuple : mg "tuple" = none
  str : mg "str" = none
  all : mg "all" = none
  set : mg "set" = none
/-- the law's promise -/
def sp_law : DSp := fun ds Q => ∃ ns : List Int, ds = [.scr ns] ∧ ns.length ≤ 63 ∧ Q (.bl true)

theorem has_mk {P : Program} {w : World} {K : PySem.W.Frag} {mg : Str → Option Value} {base : Heap} {k : Nat} {x qual : Str} {st : Stmt} {fa : Addr} {fd : FuncData} {ps : List Str} {sp : DSp} (F : Fun K x qual st fa fd) (G : FnOk P w K mg base CX0 k fa fd ps (liftSp K sp)) (hm : mg x = some (.ref fa))
    (hb : Binds K fd ps []) : Has P w K mg base k x ps sp := ⟨fa, fd, G, hm, F.kp, hb⟩
theorem ln_law : ∀ ds Q, sp_law ds Q → ds.length = 1 := by
  rintro ds Q ⟨ns, rfl, _⟩
  rfl
theorem walk_law {l : PySem.W.OpenLaw} {q : Program} {loose : List Str} {XP : (Str → Option Value) → Heap → Prop} {YP : World → Heap → Prop} {d : DefRec} {K : Params → PySem.W.Frag} {k : Nat} (hn : l.most = some 63) (hdf : d.params.defaults = [])
    (hY : ∀ (w : World) (h : Heap), YP w h → (K w.params).In h)
    (F : ∀ (w : World) (mg : Str → Option Value) (fa : Addr) (h : Heap), (K w.params).In h → h.Ns mainGlobals mg → mg d.name = some (.ref fa) →
      ∃ fd : FuncData, (∀ (s : Shared) (u : Value), BindsTo s fd ⟨[u], []⟩ [("script", u)]) ∧ ∀ base : Heap, (K w.params).In base → base.Ns mainGlobals mg → FnOk l.prog w (K w.params) mg base CX0 k fa fd ["script"] (liftSp (K w.params) sp_law)) (hr : Room k callerA) :
    PySem.W.WalkO q loose XP YP l.row.toRowW d [] (fun f vs => PySem.call f vs) :=
  L2.walk_of (n := 63) (k := k) (x := "script") (CX := fun _ => CX0) (sp := fun w => liftSp (K w.params) sp_law) hn (by decide) hdf hr hY F
    (fun _ H a ns hl _ hS => ⟨H, [.scr ns], fun d => d = .bl true, Ex.refl _, .cons (.scr hS) .nil, ⟨ns, rfl, hl, rfl⟩, fun d v F2 H2 e _ hr => by subst e; cases hr; rfl⟩) fun _ _ _ _ _ z => z
/-- a statement, then the rest, with a word between them -/
def dJoin (a b : DS) : DS := fun P ρ => ∃ Mid : Env → Prop, a { P with nx := Mid } ρ ∧ ∀ ρ', Mid ρ' → b P ρ'
theorem qss_cut {X : Cx} {st : Stmt} {rest : List Stmt} {t u : TS} {d d' : DS} (h1 : QSt X st t d) (h2 : QSs X rest u d') : QSs X (st :: rest) (tSeq t u) (dJoin d d') := ⟨pss_cons h1.ps h2.ps, fun H0 F0 F H ρ σ P E r q g => by
  obtain ⟨Mid, q1, q2⟩ := q
  exact h1.ss H0 F0 F H ρ σ _ _ r q1 ⟨fun F H ρ σ r q => h2.ss H0 F0 F H ρ σ P E r (q2 ρ q) g, g.rt, g.bk, g.ct⟩⟩
/-! ### ranges, comprehensions -/
theorem rangeD_nil {lo hi : Int} (h : hi ≤ lo) : rangeD lo hi = [] := by
  unfold rangeD
  rw [show (hi - lo).toNat = 0 by omega]
  rfl
theorem rangeD_cons {lo hi : Int} (h : lo < hi) : rangeD lo hi = .int lo :: rangeD (lo + 1) hi := by
  unfold rangeD
  obtain ⟨n, hn⟩ : ∃ n, (hi - lo).toNat = n + 1 := ⟨(hi - lo).toNat - 1, by omega⟩
  rw [hn, show (hi - (lo + 1)).toNat = n by omega, List.range_succ_eq_map, List.map_cons, List.map_map]
  simp only [Int.natCast_zero, Int.add_zero, List.cons.injEq, true_and]
  apply List.map_congr_left
  intro i _
  simp only [Function.comp, D.int.injEq]
  omega
def rangeI (lo hi : Int) : List Int := (List.range (hi - lo).toNat).map fun i => lo + (i : Nat)
theorem rangeD_eq (lo hi : Int) : rangeD lo hi = (rangeI lo hi).map D.int := by
  unfold rangeD rangeI
  rw [List.map_map]
  rfl
theorem dLcG_map {j : Nat} {de : DE} {ρ : Env} {Q : List D → Prop} (f : D → D) : ∀ {xs : List D} {acc : List D}, (∀ x ∈ xs, ∀ R : D → Prop, R (f x) → de (put ρ j (.fz x)) R) → Q (acc ++ xs.map f) → dLcG j dYes de ρ Q xs acc
  | [], acc, _, q => by simpa [dLcG] using q
  | x :: xs, acc, h, q => by
    refine ⟨fun _ => h x (List.mem_cons_self ..) _ (dLcG_map f (fun y hy => h y (List.mem_cons_of_mem _ hy)) (by simpa using q)), fun h => nomatch h⟩
theorem dLcG_filter {j : Nat} {dt : DT} {de : DE} {ρ : Env} {Q : List D → Prop} (p : D → Bool) (f : D → D) : ∀ {xs : List D} {acc : List D}, (∀ x ∈ xs, ∀ R : Bool → Prop, R (p x) → dt (put ρ j (.fz x)) R) →
    (∀ x ∈ xs, ∀ R : D → Prop, p x = true → R (f x) → de (put ρ j (.fz x)) R) → Q (acc ++ (xs.filter p).map f) → dLcG j dt de ρ Q xs acc
  | [], acc, _, _, q => by simpa [dLcG] using q
  | x :: xs, acc, ht, h, q => by
    refine ht x (List.mem_cons_self ..) _ ⟨fun hp => h x (List.mem_cons_self ..) _ hp (dLcG_filter p f (fun y hy => ht y (List.mem_cons_of_mem _ hy)) (fun y hy => h y (List.mem_cons_of_mem _ hy)) ?_), fun hp => dLcG_filter p f (fun y hy => ht y (List.mem_cons_of_mem _ hy)) (fun y hy => h y (List.mem_cons_of_mem _ hy)) ?_⟩
    · rw [List.filter_cons, if_pos hp] at q
      simpa using q
    · rw [List.filter_cons, if_neg (by rw [hp]; exact Bool.false_ne_true)] at q
      exact q
/-! ### items -/
theorem atI_nat {α : Type} {xs : List α} {i : Int} {x : α} (h0 : 0 ≤ i) (h : xs[i.toNat]? = some x) : atI xs i = some x := by
  have hl := (List.getElem?_eq_some_iff.mp h).1
  unfold atI ixN
  rw [if_pos h0, if_pos (by omega)]
  exact h
theorem atI_map {α β : Type} {f : α → β} {xs : List α} {i : Int} {x : α} (h0 : 0 ≤ i) (h : xs[i.toNat]? = some x) : atI (xs.map f) i = some (f x) := atI_nat h0 (by rw [List.getElem?_map, h]; rfl)
theorem atI_getD {f : Int → D} {xs : List Int} {i : Int} (h0 : 0 ≤ i) (h : i < xs.length) : atI (xs.map f) i = some (f (xs.getD i.toNat 0)) := by
  refine atI_map h0 ?_
  have : i.toNat < xs.length := by omega
  rw [List.getD_eq_getElem?_getD, List.getElem?_eq_getElem this]
  rfl
theorem shp_ints (ns : List Int) : (dints ns).shp := by
  have h1 : ∀ ns : List Int, D.plainAll (ns.map D.int) = true := fun ns => by
    induction ns with
    | nil => rfl
    | cons n ns ih => exact ih
  have h2 : ∀ ns : List Int, PyData.canLayAll0 (D.pyAll (ns.map D.int)) = true := fun ns => by
    induction ns with
    | nil => rfl
    | cons n ns ih =>
      show (PyData.canLay0 (.int n) && PyData.canLayAll0 (D.pyAll (ns.map D.int))) = true
      rw [ih]
      simp [PyData.canLay0]
  have h3 : ∀ ns : List Int, PyData.depthAll (D.pyAll (ns.map D.int)) = 0 := fun ns => by
    induction ns with
    | nil => rfl
    | cons n ns ih =>
      show max (PyData.depth (.int n)) (PyData.depthAll (D.pyAll (ns.map D.int))) = 0
      rw [ih]
      simp [PyData.depth]
  refine ⟨h1 ns, ?_⟩
  unfold SeqAt.shaped
  show (PyData.canLayAll0 (D.pyAll (ns.map D.int)) && decide (PyData.depthAll (D.pyAll (ns.map D.int)) + 1 ≤ 64)) = true
  rw [h2, h3]
  decide
theorem eqv_dints (ns ms : List Int) : PyData.eqv (dints ns).py (dints ms).py = decide (ns = ms) := by
  show PyData.eqvAll (D.pyAll (ns.map D.int)) (D.pyAll (ms.map D.int)) = decide (ns = ms)
  induction ns generalizing ms with
  | nil =>
    cases ms with
    | nil => rfl
    | cons m ms => rfl
  | cons n ns ih =>
    cases ms with
    | nil => rfl
    | cons m ms =>
      show (PyData.eqv (.int n) (.int m) && PyData.eqvAll (D.pyAll (ns.map D.int)) (D.pyAll (ms.map D.int))) = _
      rw [ih]
      show ((n == m) && decide (ns = ms)) = _
      rw [Bool.eq_iff_iff]
      simp
end DL

/-! DL J: lists of lists of one's own: made by a comprehension; an item popped from one and appended to another -/
namespace DL
open PySem L2

/-! ### x = [[] for y in ..] -/
def dSet2 (i : Nat) (dl : DA) : DS := fun P ρ => dl ρ fun ds => ds.length ≤ 1000000 ∧ P.nx (put ρ i (.l2 (List.replicate ds.length [])))
/-- between two turns: D the new list, its items empty lists at as -/
def NlW (K : PySem.W.Frag) (H : Hp) (D : Addr) (k : Nat) (H' : Hp) : Prop := ∃ as : List Addr, Ex H H' ∧ H D = none ∧ H' D = some (.lst (as.map V.ref)) ∧ as.length = k ∧ as.Nodup ∧ (∀ a ∈ as, H a = none ∧ a ≠ D ∧ H' a = some (.lst []))
section
variable {K : PySem.W.Frag} {H : Hp} {σ : St} {D : Addr} {j : Nat}
theorem nlw_start (hD : H D = none) : NlW K H D 0 (upd H D (.lst [])) := ⟨[], Ex.new hD, hD, upd_same, rfl, .nil, fun _ h => by cases h⟩
theorem nlw_turn {k : Nat} {H' : Hp} (v : V) (w : NlW K H D k H') (hk : k < 1000000) :
    wipe ((wipe σ [j]).set j (some v)) [j] = wipe σ [j] ∧ tYes ((wipe σ [j]).set j (some v)) H' fun b H3 => if b = true then tLst tNil ((wipe σ [j]).set j (some v)) H3 fun y H4 => ∃ acc, H4 D = some (.lst acc) ∧ acc.length < sizeLine ∧ NlW K H D (k + 1) (upd H4 D (.lst (acc ++ [y])))
      else NlW K H D (k + 1) H3 := by
  obtain ⟨as, e, hD, hD', hl, nd, ha⟩ := w
  refine ⟨?_, ?_⟩
  · show ((wipe σ [j]).set j (some v)).set j none = σ.set j none
    rw [set_none_set, List.set_set]
  unfold tYes
  simp only [if_true]
  refine ⟨Nat.zero_le _, fun p hp => ?_⟩
  have pD : p ≠ D := fun z => by rw [z, hD'] at hp; cases hp
  have hpH : H p = none := e.back hp
  refine ⟨as.map V.ref, by rw [upd_ne pD.symm]; exact hD', by rw [List.length_map, hl]; exact sz_lt hk, as ++ [p], ?_, hD, ?_, by rw [List.length_append, hl]; rfl, ?_, fun a hm => ?_⟩
  · exact Ex.mut (e.trans (Ex.new hp)) hD
  · rw [upd_same, List.map_append]; rfl
  · rw [List.nodup_append]
    refine ⟨nd, by simp, fun a h1 b h2 => ?_⟩
    simp only [List.mem_singleton] at h2
    subst h2
    intro z
    subst z
    rw [(ha a h1).2.2] at hp
    cases hp
  · rcases List.mem_append.mp hm with hm | hm
    · obtain ⟨h1, h2, h3⟩ := ha a hm
      refine ⟨h1, h2, ?_⟩
      rw [upd_ne h2, upd_ne (fun z => by rw [z, hp] at h3; cases h3)]
      exact h3
    · simp only [List.mem_singleton] at hm
      subst hm
      exact ⟨hpH, pD, by rw [upd_ne pD, upd_same]⟩
theorem ownLs_nil {F H' : Hp} : ∀ {as : List Addr}, (∀ a ∈ as, H' a = some (.lst [])) → OwnLs K F H' as (List.replicate as.length [])
  | [], _ => .nil
  | a :: as, h => .cons (h a (List.mem_cons_self ..)) .nil (ownLs_nil fun b hb => h b (List.mem_cons_of_mem _ hb))
theorem nlw_end {H0 F0 F : Hp} {ρ : Env} {n i : Nat} {H' : Hp} (r : Rel K H0 F0 F H ρ σ) (w : NlW K H D n H') : Rel K H0 F0 F H' (put ρ i (.l2 (List.replicate n []))) (σ.set i (some (.ref D))) := by
  obtain ⟨as, e, hD, hD', hl, nd, ha⟩ := w
  subst hl
  refine r.setOwn (Stp.grow r.fh e) i (.l2 hD' (ownLs_nil fun a h => (ha a h).2.2)) (List.nodup_cons.mpr ⟨fun z => (ha D z).2.1 rfl, nd⟩) fun a h => ?_
  rcases List.mem_cons.mp h with rfl | h
  · exact ⟨r.fh.back hD, hD⟩
  · exact ⟨r.fh.back (ha a h).1, (ha a h).1⟩
end
structure QC2 (X : Cx) (iter : Expr) (x : Str) (px : Pos) (elt : Expr) (scope : Scope) (j : Nat) (wi : TI) (dl : DA) : Prop where
  hc : X.calm = true
  hN : X.N.Nodup
  pi : PI X (.Name x px) iter wi
  ok : BlkOk X.N X.env.scope scope [(x, j)]
  pg : ∀ (s : Shared) (H : Hp) (C : Addr) (cl : List (Str × Addr)) (fp : List Addr), PG (X.blk s H scope (compEnvC scope cl C X.env) fp) (.Name x px) (gName j)
  pe : ∀ (s : Shared) (H : Hp) (C : Addr) (cl : List (Str × Addr)) (fp : List Addr), PE (X.blk s H scope (compEnvC scope cl C X.env) fp) elt (tLst tNil)
  fs : ∀ x, foldedSetIterable iter X.env x = pure x
  go : ∀ (H0 F0 F H : Hp) (ρ : Env) (σ : St) (i : Nat) (Q : Env → Prop) (R : VK), Rel X.K H0 F0 F H ρ σ → (dl ρ fun ds => ds.length ≤ 1000000 ∧ Q (put ρ i (.l2 (List.replicate ds.length [])))) →
    (∀ D F2 H2 ρ2, Rel X.K H0 F0 F2 H2 ρ2 (σ.set i (some (.ref D))) → Q ρ2 → R (.ref D) H2) → tLc wi (gName j) tYes (tLst tNil) [j] σ H R
section
variable {X : Cx} {iter : Expr} {x : Str} {px pos p4 : Pos} {scope : Scope} {j : Nat} {wi : TI} {tl : TE} {dl : DA}
theorem qc2_L (hc : X.calm = true) (hN : X.N.Nodup) (h : QF X iter tl dl) (ok : BlkOk X.N X.env.scope scope [(x, j)])
    (hg : ∀ (s : Shared) (H : Hp) (C : Addr) (cl : List (Str × Addr)) (fp : List Addr), PG (X.blk s H scope (compEnvC scope cl C X.env) fp) (.Name x px) (gName j))
    (fs : ∀ x, foldedSetIterable iter X.env x = pure x := by intro _; rfl) : QC2 X iter x px (.List [] p4) scope j (iList X.K tl) dl :=
  ⟨hc, hN, pi_list h.pe, ok, hg, fun s H C cl fp => pe_lst pa_nil, fs, fun H0 F0 F1 H1 ρ σ i Q R r1 q k => h.sf H0 F0 F1 H1 ρ σ _ _ r1 q fun a vs ds F H s hs hv q => ⟨a, rfl, ⟨vs, s.fh.seq hs⟩, fun D hD => by
    have r := r1.step s
    refine lc_list (K := X.K) (a := a) (xs := vs) (fun k H' => NlW X.K H D k H') (nlw_start hD) (fun k H' _ w => ?_) (fun k x H' hx w => ?_) (fun H' w => ?_)
    · obtain ⟨as, e, _⟩ := w
      exact e.seq (s.fh.seq hs)
    · have := (List.getElem?_eq_some_iff.mp hx).1
      rw [hv.len] at this
      exact nlw_turn x w (Nat.lt_of_lt_of_le this q.1)
    · rw [hv.len] at w
      exact k D F H' _ (nlw_end r w) q.2⟩⟩
theorem qc2_R1 {a : Expr} {p p2 : Pos} {ta : TA} {da : DA} (hc : X.calm = true) (hN : X.N.Nodup) (hm : X.mg "range" = none) (h : QA false X [a] ta da) (ok : BlkOk X.N X.env.scope scope [(x, j)])
    (hg : ∀ (s : Shared) (H : Hp) (C : Addr) (cl : List (Str × Addr)) (fp : List Addr), PG (X.blk s H scope (compEnvC scope cl C X.env) fp) (.Name x px) (gName j))
    (hgl : Gl X "range" := by rfl) (hs : starEach [a] X.env = [(false, eval a X.env)] := by rfl)
    (fs : ∀ x, foldedSetIterable (.Call (.Name "range" p) [a] [] p2) X.env x = pure x := by intro _; rfl) : QC2 X (.Call (.Name "range" p) [a] [] p2) x px (.List [] p4) scope j (iRng1 ta) (dRng1 da) :=
  ⟨hc, hN, pi_range1 hgl hm h.pa hs, ok, hg, fun s H C cl fp => pe_lst pa_nil, fs, fun H0 F0 F1 H1 ρ σ i Q R r1 q k => h.sa H0 F0 F1 H1 ρ σ _ _ r1 q fun vs ds F H s hv q => by
    split at q
    · cases hv with
      | cons h1 h2 =>
        cases h1
        cases h2
        refine ⟨_, rfl, q.1.1, q.1.2, fun D hD => ?_⟩
        have r := r1.step s
        have ql := q.2.1
        have qq := q.2.2
        rw [rangeD_len, Int.sub_zero] at ql qq
        refine lc_range (fun k H' => NlW X.K H D k H') (nlw_start hD) (fun k H' hk w => ?_) (fun H' w => ?_)
        · exact nlw_turn _ w (by omega)
        · exact k D F H' _ (nlw_end r w) qq
    · exact q.elim⟩
theorem qs_setLc2 {i : Nat} {y : Str} {py spos : Pos} (h : QC2 X iter x px (.List [] p4) scope j wi dl) (hy : X.N[i]? = some y) (hyl : X.env.scope.names.lookup y = some .local)
    (hsw : swapsWith (.ListComp (.List [] p4) [⟨.Name x px, iter, [], 0⟩] scope pos) (some (.Name y py)) spos.line X.env = pure true) : QSt X (.Assign [.Name y py] (.ListComp (.List [] p4) [⟨.Name x px, iter, [], 0⟩] scope pos) spos) (tAsg (tLc wi (gName j) tYes (tLst tNil) [j]) (gName i)) (dSet2 i dl) :=
  ⟨ps_setLc (own := [(x, j)]) h.hc h.hN hy hyl hsw h.pi h.ok h.pg (fun _ _ _ _ _ => pts_nil) h.pe h.fs, fun H0 F0 F H ρ σ P E r q g =>
    h.go H0 F0 F H ρ σ i P.nx _ r q fun D F2 H2 ρ2 r2 q2 => g.nx _ _ _ _ r2 q2⟩
end

/-! ### xs[k].append(ys.pop(0)); xs.append(ys[k].pop(..)) -/
def dApp2Pop (i : Nat) (dk : DE) (j : Nat) : DS := fun P ρ => match nth ρ i with
  | .l2 dss => dk ρ fun x => match x with
    | .int k => ∃ n ds, ixN dss.length k = some n ∧ dss[n]? = some ds ∧ i ≠ j ∧ match nth ρ j with
      | .l1 (y :: ys) => ds.length < 1000000 ∧ P.nx (put (put ρ j (.l1 ys)) i (.l2 (dss.set n (ds ++ [y]))))
      | _ => False
    | _ => False
  | _ => False
def dAppPop2At (i j : Nat) (dk : DE) (dp : DE) : DS := fun P ρ => match nth ρ i with
  | .l1 es => match nth ρ j with
    | .l2 dss => dk ρ fun x => match x with
      | .int k => ∃ n ds, ixN dss.length k = some n ∧ dss[n]? = some ds ∧ i ≠ j ∧ dp ρ fun z => match z with
        | .int m => ∃ q y, 0 ≤ m ∧ m < 2 ^ 62 ∧ q = m.toNat ∧ ds[q]? = some y ∧ es.length < 1000000 ∧ P.nx (put (put ρ j (.l2 (dss.set n (ds.eraseIdx q)))) i (.l1 (es ++ [y])))
        | _ => False
      | _ => False
    | _ => False
  | _ => False
def dAppPop2 (i j : Nat) (dk : DE) : DS := fun P ρ => match nth ρ i with
  | .l1 es => match nth ρ j with
    | .l2 dss => dk ρ fun x => match x with
      | .int k => ∃ n ds y, ixN dss.length k = some n ∧ dss[n]? = some ds ∧ i ≠ j ∧ ds[ds.length - 1]? = some y ∧ es.length < 1000000 ∧ P.nx (put (put ρ j (.l2 (dss.set n ds.dropLast))) i (.l1 (es ++ [y])))
      | _ => False
    | _ => False
  | _ => False
section
variable {X : Cx} {pos : Pos} {o : Expr} {to : TE} {dk : DE}
theorem map_ref_inj : ∀ {as bs : List Addr}, as.map V.ref = bs.map V.ref → as = bs
  | [], [], _ => rfl
  | [], _ :: _, h => by cases h
  | _ :: _, [], h => by cases h
  | a :: as, b :: bs, h => by
    simp only [List.map_cons, List.cons.injEq, V.ref.injEq] at h
    rw [h.1, map_ref_inj h.2]
theorem Rel.sep {K : PySem.W.Frag} {H0 F0 F H : Hp} {ρ : Env} {σ : St} (r : Rel K H0 F0 F H ρ σ) {i j : Nat} (hij : i ≠ j) (hi : nth ρ i ≠ .un) (hj : nth ρ j ≠ .un) :
    ∃ v1 o1 v2 o2, σ[i]? = some v1 ∧ SlotOk K F H (nth ρ i) v1 o1 ∧ σ[j]? = some v2 ∧ SlotOk K F H (nth ρ j) v2 o2 ∧ ∀ x ∈ o1, x ∉ o2 := by
  obtain ⟨os, h1, h2, _⟩ := r.sl
  obtain ⟨v, o, os1, os2, e1, e2, e3, k⟩ := h1.at i hi
  subst e3
  have g := k F H .un v [] (Ex.refl F) (fun _ _ _ e => e) (.un v)
  have nj : nth (put ρ i .un) j = nth ρ j := nth_put_ne (fun z => hij z.symm)
  obtain ⟨v2, o2, a1, a2, f1, f2, f3, _⟩ := g.at j (by rw [nj]; exact hj)
  rw [nj] at f2
  refine ⟨v, o, v2, o2, e1, e2, ?_, f2, fun x hx hx2 => ?_⟩
  · rw [List.getElem?_set_ne hij] at f1
    exact f1
  · have m : x ∈ os1 ++ [] ++ os2 := by rw [f3]; simp [hx2]
    simp only [List.append_nil, List.mem_append] at m
    simp only [List.nodup_append, List.mem_append] at h2
    rcases m with m | m
    · exact h2.1.2.2 x m x hx rfl
    · exact h2.2.2 x (.inr hx) x m rfl
/-- an own list and an own list of lists stand apart -/
theorem Rel.sep12 {K : PySem.W.Frag} {H0 F0 F H : Hp} {ρ : Env} {σ : St} (r : Rel K H0 F0 F H ρ σ) {i j : Nat} {dss : List (List D)} {ds : List D} (hij : i ≠ j) (hi : nth ρ i = .l2 dss) (hj : nth ρ j = .l1 ds) {a l : Addr} {as : List Addr}
    (e1 : σ[i]? = some (some (.ref a))) (e2 : H a = some (.lst (as.map V.ref))) (f1 : σ[j]? = some (some (.ref l))) : a ≠ l ∧ l ∉ as := by
  obtain ⟨v1, o1, v2, o2, g1, g2, g3, g4, g5⟩ := r.sep hij (by rw [hi]; exact Sl.noConfusion) (by rw [hj]; exact Sl.noConfusion)
  rw [hi] at g2
  rw [hj] at g4
  rw [e1] at g1
  rw [f1] at g3
  cases g1
  cases g3
  cases g4
  cases g2 with
  | @l2 _ as2 _ h1 h2 =>
    rw [e2] at h1
    obtain rfl := map_ref_inj (HO.lst.inj (Option.some.inj h1))
    exact ⟨fun z => g5 a (List.mem_cons_self ..) (z ▸ List.mem_singleton.mpr rfl), fun z => g5 l (List.mem_cons_of_mem _ z) (List.mem_singleton.mpr rfl)⟩
theorem qs_app2pop {i j : Nat} {x y : Str} {p1 p2 p3 p4 p5 p6 p7 : Pos} {kz : Nat} {pz : Pos} (hi : QE false X o to dk) (hv : QE false X (.Name x p1) (tVar i) (dVar false i)) (hy : QE false X (.Name y p4) (tVar j) (dVar false j)) (hpx : PlainIx o)
    (hb : attributeBase (.Subscript (.Name x p1) o p5) "append" X.env (eval (.Subscript (.Name x p1) o p5) X.env) = eval (.Subscript (.Name x p1) o p5) X.env := by rfl)
    (hb2 : attributeBase (.Name y p4) "pop" X.env (eval (.Name y p4) X.env) = eval (.Name y p4) X.env := by rfl)
    (hf2 : ((backTo p7 (starEach [.Constant (.int 0) kz pz] X.env)).all (fun x => !x.1) && (backToKw p7 (keywordEach [] X.env)).all (fun x => x.1.isSome)
      && decide (([.Constant (.int 0) kz pz] : List Expr).length + ([] : List Keyword).length + (if ([] : List Keyword).isEmpty then 0 else 1) < 30)) = true := by rfl)
    (hl2 : (p6.endLine == p7.line) = true := by rfl) (hs2 : starEach [.Constant (.int 0) kz pz] X.env = (false, eval (.Constant (.int 0) kz pz) X.env) :: starEach [] X.env := by rfl) (hpl2 : (backTo p7 (starEach [] X.env)).any (·.1) = false := by rfl)
    (hfew : ((backTo p3 (starEach [.Call (.Attribute (.Name y p4) "pop" p6) [.Constant (.int 0) kz pz] [] p7] X.env)).all (fun x => !x.1) && (backToKw p3 (keywordEach [] X.env)).all (fun x => x.1.isSome)
      && decide (([.Call (.Attribute (.Name y p4) "pop" p6) [.Constant (.int 0) kz pz] [] p7] : List Expr).length + ([] : List Keyword).length + (if ([] : List Keyword).isEmpty then 0 else 1) < 30)) = true := by rfl)
    (hline : (p2.endLine == p3.line) = true := by rfl) (hs : starEach [.Call (.Attribute (.Name y p4) "pop" p6) [.Constant (.int 0) kz pz] [] p7] X.env = (false, eval (.Call (.Attribute (.Name y p4) "pop" p6) [.Constant (.int 0) kz pz] [] p7) X.env) :: starEach [] X.env := by rfl) (hpl : (backTo p3 (starEach [] X.env)).any (·.1) = false := by rfl)
    (hsw : swapsWith (.Call (.Attribute (.Subscript (.Name x p1) o p5) "append" p2) [.Call (.Attribute (.Name y p4) "pop" p6) [.Constant (.int 0) kz pz] [] p7] [] p3) none pos.line X.env = pure false := by rfl) :
    QSt X (.Expr (.Call (.Attribute (.Subscript (.Name x p1) o p5) "append" p2) [.Call (.Attribute (.Name y p4) "pop" p6) [.Constant (.int 0) kz pz] [] p7] [] p3) pos)
      (tDrop (tBM X.K "list" rAppend (tOp (rIx X.K) (tVar i) to) (tCons (tBM X.K "list" rPopAt (tVar j) (tCons (tC (.int 0)) tNil)) tNil))) (dApp2Pop i dk j) :=
  ⟨ps_expr (pe_bm PySem.F.plainAttrs_list PySem.F.slot_list_append PySem.F.type_list_append mt_append (pe_ix ix_seq hv.pe hi.pe hpx)
    (pa_cons (pe_bm PySem.F.plainAttrs_list PySem.F.slot_list_pop PySem.F.type_list_pop mt_popAt hy.pe (pa_cons pe_int pa_nil hs2) hb2 hf2 hl2 hs2 hpl2) pa_nil hs) hb hfew hline hs hpl) hsw, fun H0 F0 F H ρ σ P E r q g => by
    unfold dApp2Pop at q
    split at q
    · rename_i dss hii
      obtain ⟨a, as, e1, e2, e3, _, _⟩ := r.l2 hii
      refine ⟨_, e1, hi.se H0 F0 F H ρ σ _ _ r q fun v d F2 H2 s hv hq => ?_⟩
      have r2 := r.step s
      obtain ⟨a', as', e1', e2', e3', k2, _⟩ := r2.l2 hii
      cases e1.symm.trans e1'
      split at hq
      · cases hv
        obtain ⟨n, ds, hn, hds, hij, hq⟩ := hq
        obtain ⟨b, vs, b1, b2, b3, _⟩ := k2 n ds hds
        split at hq
        · rename_i y0 ys hj
          obtain ⟨l, ws, f1, f2, f3, kj⟩ := r2.l1 hj
          refine .inl ⟨a, _, _, .ref b, rfl, rfl, .inl (.inl e2'), ?_, st_slot b2, ?_⟩
          · unfold atI
            rw [List.length_map, e3', hn]
            show (as'.map V.ref)[n]? = _
            rw [List.getElem?_map, b1]
            rfl
          cases f3 with
          | @cons v0 ws0 _ _ g1 g2 =>
            refine ⟨_, f1, st_slot f2, l, v0 :: ws0, 0, 0, v0, rfl, rfl, f2, by decide, by decide, ?_, rfl, ?_⟩
            · unfold seqIndex?
              simp
            have r3 := kj ws0 ys g2
            have hii3 : nth (put ρ j (.l1 ys)) i = .l2 dss := by rw [nth_put_ne hij]; exact hii
            obtain ⟨a3, as3, x1, x2, x3, k3, _⟩ := r3.l2 hii3
            cases e1.symm.trans x1
            obtain ⟨b3', vs3, y1, y2, y3, k4⟩ := k3 n ds hds
            have la := (r2.sep12 hij hii hj e1 e2' f1).1
            have ea : as3 = as' := by
              rw [upd_ne la, e2'] at x2
              exact (map_ref_inj (HO.lst.inj (Option.some.inj x2))).symm
            subst ea
            rw [b1] at y1
            cases y1
            exact ⟨b, vs3, v0, rfl, rfl, y2, by rw [y3.len]; exact sz_lt hq.1, g.nx F2 _ _ _ (k4 _ _ (y3.append (.one g1))) hq.2⟩
        · exact hq.elim
      · exact hq.elim
    · exact q.elim⟩
theorem qs_appPop2 {i j : Nat} {x y : Str} {p1 p2 p3 p4 p6 p7 p8 : Pos} (hi : QE false X o to dk) (hv : QE false X (.Name x p1) (tVar i) (dVar false i)) (hy : QE false X (.Name y p4) (tVar j) (dVar false j)) (hpx : PlainIx o)
    (hb : attributeBase (.Name x p1) "append" X.env (eval (.Name x p1) X.env) = eval (.Name x p1) X.env := by rfl)
    (hb2 : attributeBase (.Subscript (.Name y p4) o p8) "pop" X.env (eval (.Subscript (.Name y p4) o p8) X.env) = eval (.Subscript (.Name y p4) o p8) X.env := by rfl)
    (hl2 : (p6.endLine == p7.line) = true := by rfl)
    (hfew : ((backTo p3 (starEach [(.Call (.Attribute (.Subscript (.Name y p4) o p8) "pop" p6) [] [] p7)] X.env)).all (fun x => !x.1) && (backToKw p3 (keywordEach [] X.env)).all (fun x => x.1.isSome)
      && decide (([(.Call (.Attribute (.Subscript (.Name y p4) o p8) "pop" p6) [] [] p7)] : List Expr).length + ([] : List Keyword).length + (if ([] : List Keyword).isEmpty then 0 else 1) < 30)) = true := by rfl)
    (hline : (p2.endLine == p3.line) = true := by rfl) (hs : starEach [(.Call (.Attribute (.Subscript (.Name y p4) o p8) "pop" p6) [] [] p7)] X.env = (false, eval (.Call (.Attribute (.Subscript (.Name y p4) o p8) "pop" p6) [] [] p7) X.env) :: starEach [] X.env := by rfl) (hpl : (backTo p3 (starEach [] X.env)).any (·.1) = false := by rfl)
    (hsw : swapsWith (.Call (.Attribute (.Name x p1) "append" p2) [(.Call (.Attribute (.Subscript (.Name y p4) o p8) "pop" p6) [] [] p7)] [] p3) none pos.line X.env = pure false := by rfl) :
    QSt X (.Expr (.Call (.Attribute (.Name x p1) "append" p2) [(.Call (.Attribute (.Subscript (.Name y p4) o p8) "pop" p6) [] [] p7)] [] p3) pos)
      (tDrop (tBM X.K "list" rAppend (tVar i) (tCons (tBM0 X.K "list" rPop (tOp (rIx X.K) (tVar j) to)) tNil))) (dAppPop2 i j dk) :=
  ⟨ps_expr (pe_bm PySem.F.plainAttrs_list PySem.F.slot_list_append PySem.F.type_list_append mt_append hv.pe (pa_cons (pe_bm0 PySem.F.plainAttrs_list PySem.F.slot_list_pop PySem.F.type_list_pop mt_pop (pe_ix ix_seq hy.pe hi.pe hpx) hb2 hl2) pa_nil hs) hb hfew hline hs hpl) hsw, fun H0 F0 F H ρ σ P E r q g => by
    unfold dAppPop2 at q
    split at q
    · rename_i es hii
      split at q
      · rename_i dss hjj
        obtain ⟨l, ws, f1, f2, f3, _⟩ := r.l1 hii
        obtain ⟨a, as, e1, e2, e3, _, _⟩ := r.l2 hjj
        refine ⟨_, f1, st_slot f2, _, e1, hi.se H0 F0 F H ρ σ _ _ r q fun v d F2 H2 s hv hq => ?_⟩
        have r2 := r.step s
        obtain ⟨a', as', e1', e2', e3', k2, _⟩ := r2.l2 hjj
        cases e1.symm.trans e1'
        split at hq
        · cases hv
          obtain ⟨n, ds, y0, hn, hds, hij, hy0, hz, hq⟩ := hq
          obtain ⟨b, vs, b1, b2, b3, kb⟩ := k2 n ds hds
          obtain ⟨v0, hv0, rv0⟩ := b3.get hy0
          refine .inl ⟨a, _, _, .ref b, rfl, rfl, .inl (.inl e2'), ?_, st_slot b2, b, vs, v0, rfl, rfl, b2, by rw [b3.len]; exact hv0, ?_⟩
          · unfold atI
            rw [List.length_map, e3', hn]
            show (as'.map V.ref)[n]? = _
            rw [List.getElem?_map, b1]
            rfl
          have r4 := kb vs.dropLast ds.dropLast (by rw [List.dropLast_eq_take, List.dropLast_eq_take, b3.len]; exact b3.take _)
          have hii4 : nth (put ρ j (.l2 (dss.set n ds.dropLast))) i = .l1 es := by rw [nth_put_ne hij]; exact hii
          obtain ⟨l4, ws4, g1, g2, g3, kl⟩ := r4.l1 hii4
          cases f1.symm.trans g1
          exact ⟨l, ws4, v0, rfl, rfl, g2, by rw [g3.len]; exact sz_lt hz, g.nx F2 _ _ _ (kl _ _ (g3.append (.one rv0))) hq⟩
        · exact hq.elim
      · exact q.elim
    · exact q.elim⟩
theorem qs_appPop2At {i j : Nat} {x y : Str} {p1 p2 p3 p4 p6 p7 p8 : Pos} {f : Expr} {tf : TE} {dp : DE} (hi : QE false X o to dk) (hf : QE false X f tf dp) (hv : QE false X (.Name x p1) (tVar i) (dVar false i)) (hy : QE false X (.Name y p4) (tVar j) (dVar false j)) (hpx : PlainIx o)
    (hb : attributeBase (.Name x p1) "append" X.env (eval (.Name x p1) X.env) = eval (.Name x p1) X.env := by rfl)
    (hb2 : attributeBase (.Subscript (.Name y p4) o p8) "pop" X.env (eval (.Subscript (.Name y p4) o p8) X.env) = eval (.Subscript (.Name y p4) o p8) X.env := by rfl)
    (hf2 : ((backTo p7 (starEach [f] X.env)).all (fun x => !x.1) && (backToKw p7 (keywordEach [] X.env)).all (fun x => x.1.isSome)
      && decide (([f] : List Expr).length + ([] : List Keyword).length + (if ([] : List Keyword).isEmpty then 0 else 1) < 30)) = true := by rfl)
    (hl2 : (p6.endLine == p7.line) = true := by rfl) (hs2 : starEach [f] X.env = (false, eval f X.env) :: starEach [] X.env := by rfl) (hpl2 : (backTo p7 (starEach [] X.env)).any (·.1) = false := by rfl)
    (hfew : ((backTo p3 (starEach [(.Call (.Attribute (.Subscript (.Name y p4) o p8) "pop" p6) [f] [] p7)] X.env)).all (fun x => !x.1) && (backToKw p3 (keywordEach [] X.env)).all (fun x => x.1.isSome)
      && decide (([(.Call (.Attribute (.Subscript (.Name y p4) o p8) "pop" p6) [f] [] p7)] : List Expr).length + ([] : List Keyword).length + (if ([] : List Keyword).isEmpty then 0 else 1) < 30)) = true := by rfl)
    (hline : (p2.endLine == p3.line) = true := by rfl) (hs : starEach [(.Call (.Attribute (.Subscript (.Name y p4) o p8) "pop" p6) [f] [] p7)] X.env = (false, eval (.Call (.Attribute (.Subscript (.Name y p4) o p8) "pop" p6) [f] [] p7) X.env) :: starEach [] X.env := by rfl) (hpl : (backTo p3 (starEach [] X.env)).any (·.1) = false := by rfl)
    (hsw : swapsWith (.Call (.Attribute (.Name x p1) "append" p2) [(.Call (.Attribute (.Subscript (.Name y p4) o p8) "pop" p6) [f] [] p7)] [] p3) none pos.line X.env = pure false := by rfl) :
    QSt X (.Expr (.Call (.Attribute (.Name x p1) "append" p2) [(.Call (.Attribute (.Subscript (.Name y p4) o p8) "pop" p6) [f] [] p7)] [] p3) pos)
      (tDrop (tBM X.K "list" rAppend (tVar i) (tCons (tBM X.K "list" rPopAt (tOp (rIx X.K) (tVar j) to) (tCons tf tNil)) tNil))) (dAppPop2At i j dk dp) :=
  ⟨ps_expr (pe_bm PySem.F.plainAttrs_list PySem.F.slot_list_append PySem.F.type_list_append mt_append hv.pe (pa_cons (pe_bm PySem.F.plainAttrs_list PySem.F.slot_list_pop PySem.F.type_list_pop mt_popAt (pe_ix ix_seq hy.pe hi.pe hpx) (pa_cons hf.pe pa_nil hs2) hb2 hf2 hl2 hs2 hpl2) pa_nil hs) hb hfew hline hs hpl) hsw, fun H0 F0 F H ρ σ P E r q g => by
    unfold dAppPop2At at q
    split at q
    · rename_i es hii
      split at q
      · rename_i dss hjj
        obtain ⟨l, ws, f1, f2, f3, _⟩ := r.l1 hii
        obtain ⟨a, as, e1, e2, e3, _, _⟩ := r.l2 hjj
        refine ⟨_, f1, st_slot f2, _, e1, hi.se H0 F0 F H ρ σ _ _ r q fun v d F2 H2 s hv hq => ?_⟩
        have r2 := r.step s
        obtain ⟨a', as', e1', e2', e3', k2, _⟩ := r2.l2 hjj
        cases e1.symm.trans e1'
        split at hq
        · cases hv
          obtain ⟨n, ds, hn, hds, hij, hq⟩ := hq
          obtain ⟨b, vs, b1, b2, b3, kb⟩ := k2 n ds hds
          refine .inl ⟨a, _, _, .ref b, rfl, rfl, .inl (.inl e2'), ?_, st_slot b2, hf.se H0 F0 F2 H2 ρ σ _ _ r2 hq fun z dz F3 H3 s3 hz hq => ?_⟩
          · unfold atI
            rw [List.length_map, e3', hn]
            show (as'.map V.ref)[n]? = _
            rw [List.getElem?_map, b1]
            rfl
          split at hq
          · rename_i m
            cases hz
            obtain ⟨q, y0, m0, m1, rfl, hy0, hz, hq⟩ := hq
            have r3 := r2.step s3
            obtain ⟨a3, as3, e13, e23, e33, k3, _⟩ := r3.l2 hjj
            cases e1.symm.trans e13
            obtain ⟨b3', vs3, c1, c2, c3, kb3⟩ := k3 n ds hds
            have ea : as3 = as' := by
              have := s3.hH _ _ e2'
              rw [e23] at this
              exact map_ref_inj (HO.lst.inj (Option.some.inj this))
            subst ea
            rw [b1] at c1
            cases c1
            obtain ⟨v0, hv0, rv0⟩ := c3.get hy0
            refine ⟨b, vs3, m, m.toNat, v0, rfl, rfl, c2, by omega, by omega, ?_, hv0, ?_⟩
            · have hlt := (List.getElem?_eq_some_iff.mp hv0).1
              have z1 : ¬ m < 0 := by omega
              have z2 : m < (vs3.length : Int) := by omega
              simp [seqIndex?, z1, z2, m0]
            have r4 := kb3 _ _ (c3.eraseIdx m.toNat)
            have hii4 : nth (put ρ j (.l2 (dss.set n (ds.eraseIdx m.toNat)))) i = .l1 es := by rw [nth_put_ne hij]; exact hii
            obtain ⟨l4, ws4, g1, g2, g3, kl⟩ := r4.l1 hii4
            cases f1.symm.trans g1
            exact ⟨l, ws4, v0, rfl, rfl, g2, by rw [g3.len]; exact sz_lt hz, g.nx F3 _ _ _ (kl _ _ (g3.append (.one rv0))) hq⟩
          · exact hq.elim
        · exact hq.elim
      · exact q.elim
    · exact q.elim⟩
end
end DL

/-! DL K: xs.index(y) of whole numbers; dicts of lists of one's own; a list that an own call has made -/
namespace DL
open PySem L2
def dIndex (dl : DA) (de : DE) : DE := fun ρ Q => dl ρ fun ds => de ρ fun x => match x with
  | .int k => ∃ (ns : List Int) (j : Nat), ds = ns.map D.int ∧ ns[j]? = some k ∧ (∀ m, m < j → ns[m]? ≠ some k) ∧ Q (.int j)
  | _ => False
section
variable {X : Cx} {pos : Pos} {e f : Expr} {te tf : TE} {de df : DE} {dl : DA} {b : Bool}
theorem repL_ints {K : PySem.W.Frag} {H : Hp} : ∀ {vs : List V} {ns : List Int}, RepL K H vs (ns.map D.int) → vs = ns.map V.int
  | _, [], .nil => rfl
  | _, n :: ns, .cons h1 h2 => by
    cases h1
    rw [repL_ints h2]
    rfl
theorem qe_index {p2 p3 : Pos} (ho : QX false X e te dl) (h : QE false X f tf df)
    (hb : attributeBase e "index" X.env (eval e X.env) = eval e X.env := by rfl)
    (hfew : ((backTo p3 (starEach [f] X.env)).all (fun x => !x.1) && (backToKw p3 (keywordEach [] X.env)).all (fun x => x.1.isSome)
      && decide (([f] : List Expr).length + ([] : List Keyword).length + (if ([] : List Keyword).isEmpty then 0 else 1) < 30)) = true := by rfl)
    (hline : (p2.endLine == p3.line) = true := by rfl) (hs : starEach [f] X.env = (false, eval f X.env) :: starEach [] X.env := by rfl) (hpl : (backTo p3 (starEach [] X.env)).any (·.1) = false := by rfl) {K : PySem.W.Frag} (hK : X.K = K := by rfl) :
    QE b X (.Call (.Attribute e "index" p2) [f] [] p3) (tBM K "list" (rIndex K) te (tCons tf tNil)) (dIndex dl df) := by
  subst hK
  refine ⟨pe_bm PySem.F.plainAttrs_list PySem.F.slot_list_index PySem.F.type_list_index mt_index ho.pe (pa_cons h.pe pa_nil hs) hb hfew hline hs hpl, fun H0 F0 F H ρ σ Q R r q k => ?_⟩
  refine ho.sx H0 F0 F H ρ σ _ _ r q fun a vs ds F2 H2 s hs hr hq => ⟨st_slot hs, h.se H0 F0 F2 H2 ρ σ _ _ (r.step s) hq fun v d F3 H3 s3 hv hq => ?_⟩
  split at hq
  · cases hv
    obtain ⟨ns, j, rfl, h1, h2, hq⟩ := hq
    have ev := repL_ints hr
    subst ev
    refine ⟨a, ns.map V.int, .int _, j, .int _, rfl, rfl, .inl (.inl (s3.hH _ _ hs)), rfl, ?_, by rw [List.getElem?_map, h1]; rfl, by simp [eqV], fun m z hm hz => ?_, k _ _ F3 H3 (s.trans s3) (.int _) hq⟩
    · rw [List.all_eq_true]
      intro x hx
      obtain ⟨n, _, rfl⟩ := List.mem_map.mp hx
      rfl
    · rw [List.getElem?_map] at hz
      cases hn : ns[m]? with
      | none => rw [hn] at hz; cases hz
      | some n =>
        rw [hn] at hz
        cases hz
        have := h2 m hm
        rw [hn] at this
        show (n == _) = false
        rw [beq_eq_false_iff_ne]
        intro z
        exact this (by rw [z])
  · exact hq.elim
end
end DL

/-! DL L: dicts of lists of one's own, changed; a list that an own call has made -/
namespace DL
open PySem L2
section
variable {K : PySem.W.Frag} {F H F' H' : Hp}
theorem OwnD.len : ∀ {kvs : List (Key × V)} {as : List Addr} {m : List (Int × List D)}, OwnD K F H kvs as m → kvs.length = m.length
  | _, _, _, .nil => rfl
  | _, _, _, .cons _ _ h3 => by simp only [List.length_cons, OwnD.len h3]
theorem lookI_pos {α : Type} {k : Int} {d : α} {m : List (Int × α)} : lookI ((k, d) :: m) k = some d := by simp [lookI]
theorem lookI_neg {α : Type} {k j : Int} {d : α} {m : List (Int × α)} (h : k ≠ j) : lookI ((k, d) :: m) j = lookI m j := by simp [lookI, List.find?_cons, h]
theorem OwnD.noKey : ∀ {kvs : List (Key × V)} {as : List Addr} {m : List (Int × List D)} {k : Int}, OwnD K F H kvs as m → lookI m k = none → (kvs.any fun p => decide (p.1 = (.inl k : Key))) = false
  | _, _, _, _, .nil, _ => rfl
  | _, _, _, k, .cons (k := k0) (ds := ds) (m := m) h1 h2 h3, e => by
    by_cases z : k0 = k
    · subst z
      rw [lookI_pos] at e
      cases e
    · rw [lookI_neg z] at e
      rw [List.any_cons, OwnD.noKey h3 e, inl_dec, decide_eq_false z]
      rfl
theorem OwnD.append : ∀ {kvs kus : List (Key × V)} {as bs : List Addr} {m n : List (Int × List D)}, OwnD K F H kvs as m → OwnD K F H kus bs n → OwnD K F H (kvs ++ kus) (as ++ bs) (m ++ n)
  | _, _, _, _, _, _, .nil, g => g
  | _, _, _, _, _, _, .cons h1 h2 h3, g => .cons h1 h2 (OwnD.append h3 g)
/-- keys apart -/
def KeysApart (m : List (Int × List D)) : Prop := (m.map (·.1)).Nodup
theorem putI_at {α : Type} {k : Int} {d : α} : ∀ {m : List (Int × α)}, (lookI m k).isSome → putI m k d = m.map fun p => if p.1 = k then (p.1, d) else p := by
  intro m h
  unfold putI
  rw [if_pos]
  induction m with
  | nil => cases h
  | cons p m ih =>
    obtain ⟨k0, d0⟩ := p
    by_cases z : k0 = k
    · simp [z]
    · rw [lookI_neg z] at h
      rw [List.any_cons, ih h, Bool.or_true]
/-- the first list under a key, by its address; keys apart -/
theorem OwnD.at : ∀ {kvs : List (Key × V)} {as : List Addr} {m : List (Int × List D)} {k : Int} {ds : List D}, OwnD K F H kvs as m → KeysApart m → lookI m k = some ds → as.Nodup →
    ∃ b vs, valV kvs (.inl k : Key) = some (.ref b) ∧ b ∈ as ∧ H b = some (.lst vs) ∧ RepL K F vs ds ∧ ∀ vs' ds', RepL K F vs' ds' → OwnD K F (upd H b (.lst vs')) kvs as (m.map fun p => if p.1 = k then (p.1, ds') else p)
  | _, _, _, _, _, .nil, _, e, _ => by cases e
  | _, _, _, k, ds, .cons (k := k0) (a := a) (vs := vs) (ds := ds0) (kvs := kvs) (as := as) (m := m) h1 h2 h3, ka, e, n => by
    obtain ⟨n1, n2⟩ := List.nodup_cons.mp n
    have ka' : k0 ∉ m.map (·.1) ∧ (m.map (·.1)).Nodup := List.nodup_cons.mp ka
    by_cases z : k0 = k
    · subst z
      rw [lookI_pos] at e
      cases e
      refine ⟨a, vs, by simp [valV], List.mem_cons_self .., h1, h2, fun vs' ds' h' => ?_⟩
      have rest : (m.map fun p => if p.1 = k0 then (p.1, ds') else p) = m := by
        have : ∀ p ∈ m, (if p.1 = k0 then (p.1, ds') else p) = p := fun p hp => if_neg fun (z : p.1 = k0) => ka'.1 (List.mem_map.mpr ⟨p, hp, z⟩)
        rw [List.map_congr_left this, List.map_id']
      rw [List.map_cons, if_pos rfl, rest]
      refine .cons upd_same h' (h3.keep (Ex.refl F) fun b hb x e => ?_)
      rw [upd_ne (ne_mem hb n1)]
      exact e
    · rw [lookI_neg z] at e
      obtain ⟨b, vs2, g1, g2, g3, g4, g5⟩ := OwnD.at h3 ka'.2 e n2
      refine ⟨b, vs2, ?_, List.mem_cons_of_mem _ g2, g3, g4, fun vs' ds' h' => ?_⟩
      · rw [← g1]
        simp [valV, List.find?_cons, z]
      · rw [List.map_cons, if_neg z]
        refine .cons ?_ h2 (g5 vs' ds' h')
        rw [upd_ne (ne_mem g2 n1).symm]
        exact h1
end
section
variable {K : PySem.W.Frag} {H0 F0 F H : Hp} {ρ : Env} {σ : St}
theorem OwnD.dom : ∀ {kvs : List (Key × V)} {as : List Addr} {m : List (Int × List D)}, OwnD K F H kvs as m → ∀ c ∈ as, H c ≠ none
  | _, _, _, .nil, c, h => by cases h
  | _, _, _, .cons h1 _ h3, c, h => by
    rcases List.mem_cons.mp h with rfl | h
    · rw [h1]; simp
    · exact OwnD.dom h3 c h
theorem Rel.dl (r : Rel K H0 F0 F H ρ σ) {i : Nat} {m : List (Int × List D)} (h : nth ρ i = .dl m) : ∃ a kvs, σ[i]? = some (some (.ref a)) ∧ H a = some (.dK kvs) ∧ kvs.length = m.length ∧
    (∀ k ds, KeysApart m → lookI m k = some ds → ∃ b vs, valV kvs (.inl k : Key) = some (.ref b) ∧ H b = some (.lst vs) ∧ RepL K F vs ds ∧ ∀ vs' ds', RepL K F vs' ds' → Rel K H0 F0 F (upd H b (.lst vs')) (put ρ i (.dl (putI m k ds'))) σ) ∧
    (∀ p k, H p = none → lookI m k = none → Rel K H0 F0 F (upd (upd H p (.lst [])) a (.dK (putK kvs (.inl k : Key) (.ref p)))) (put ρ i (.dl (m ++ [(k, [])]))) σ) := by
  obtain ⟨v, o, e1, e2, n, ho, k⟩ := r.mutate i (by rw [h]; exact Sl.noConfusion)
  rw [h] at e2
  cases e2 with
  | @dl a kvs as _ h1 h2 =>
    obtain ⟨n1, n2⟩ := List.nodup_cons.mp n
    refine ⟨a, kvs, e1, h1, h2.len, fun j ds ka hj => ?_, fun p j hp hj => ?_⟩
    · obtain ⟨b, vs, g1, g2, g3, g4, g5⟩ := h2.at ka hj n2
      refine ⟨b, vs, g1, g3, g4, fun vs' ds' h' => ?_⟩
      have q := ho b (List.mem_cons_of_mem _ g2)
      have ab : a ≠ b := (ne_mem g2 n1).symm
      rw [putI_at (by rw [hj]; rfl)]
      refine k F _ _ (a :: as) (Ex.refl F) (Ex.mut r.fh q.1) (Ex.mut r.h0 q.2) r.nw (fun c hc x e => ?_) (.dl (by rw [upd_ne ab]; exact h1) (g5 vs' ds' h')) n (fun b hb => ⟨(ho b hb).1, (ho b hb).2, .inl hb⟩) (fun b _ n => .inl n)
      rw [upd_ne (ne_mem (List.mem_cons_of_mem a g2) hc).symm]
      exact e
    · have q := ho a (List.mem_cons_self ..)
      have pa : p ≠ a := fun z => by rw [z, h1] at hp; cases hp
      have hF : F p = none := r.fh.back hp
      have keep : ∀ (o : HO) c, c ≠ a → ∀ x, H c = some x → upd (upd H p (.lst [])) a o c = some x := fun o c hc x e => by
        rw [upd_ne hc, upd_ne (ne_of_none e hp)]
        exact e
      have e3 : putK kvs (.inl j : Key) (.ref p) = kvs ++ [(.inl j, .ref p)] := by
        unfold putK
        rw [h2.noKey hj]
        rfl
      rw [e3]
      refine k F _ _ (a :: (as ++ [p])) (Ex.refl F) (Ex.mut (r.fh.trans (Ex.new hp)) q.1) (Ex.mut (r.h0.trans (Ex.new hp)) q.2) r.nw (fun c hc x e => keep _ c (ne_mem (List.mem_cons_self ..) hc).symm x e)
        (.dl upd_same (OwnD.append (h2.keep (Ex.refl F) fun c hc x e => keep _ c (ne_mem hc n1) x e) (.cons (by rw [upd_ne pa, upd_same]) .nil .nil))) ?_ (fun b hb => ?_) (fun b _ n => .inl n)
      · have dom : ∀ c ∈ a :: as, c ≠ p := fun c hc z => by
          subst z
          rcases List.mem_cons.mp hc with rfl | hc
          · exact pa rfl
          · exact h2.dom c hc hp
        rw [← List.cons_append, List.nodup_append]
        refine ⟨n, by simp, fun c hc d hd => ?_⟩
        rw [List.mem_singleton.mp hd]
        exact dom c hc
      · rw [← List.cons_append] at hb
        rcases List.mem_append.mp hb with hb | hb
        · exact ⟨(ho b hb).1, (ho b hb).2, .inl hb⟩
        · rw [List.mem_singleton.mp hb]
          exact ⟨hF, r.h0.back hp, .inr hp⟩
end
def dAppK (i : Nat) (dk de : DE) : DS := fun P ρ => match nth ρ i with
  | .dl m => dk ρ fun x => match x with
    | .int k => ∃ ds, lookI m k = some ds ∧ KeysApart m ∧ de ρ fun d => ds.length < 1000000 ∧ P.nx (put ρ i (.dl (putI m k (ds ++ [d]))))
    | _ => False
  | _ => False
section
variable {X : Cx} {pos : Pos} {e f : Expr} {te tf : TE} {de df : DE} {b : Bool}
theorem qs_putNil {i j : Nat} {x y : Str} {p1 p2 p4 p5 : Pos} (hu : X.A.units + 1 < cLine) (hi : QE false X (.Name y p5) (tVar j) (dVar false j)) (hv : QE false X (.Name x p1) (tVar i) (dVar false i)) (hs : swapsWith (.List [] p4) (some (.Subscript (.Name x p1) (.Name y p5) p2)) pos.line X.env = pure false := by rfl) :
    QSt X (.Assign [.Subscript (.Name x p1) (.Name y p5) p2] (.List [] p4) pos) (sDPut (tVar i) (tVar j) (tLst tNil)) (dPutNil i (dVar false j)) := ⟨ps_dput hu hv.pe hi.pe (pe_lst pa_nil) hs, fun H0 F0 F H ρ σ P E r q g => ⟨Nat.zero_le _, fun p hp => by
    unfold dPutNil at q
    split at q
    · rename_i m hii
      obtain ⟨a, kvs, e1, e2, e3, _, k⟩ := r.dl hii
      have hk : tVar j σ H (fun v _ => ∃ k, v = .int k ∧ m.length < 1000000 ∧ lookI m k = none ∧ P.nx (put ρ i (.dl (m ++ [(k, [])])))) := hi.se H0 F0 F H ρ σ _ _ r q fun v d F2 H2 s hv hq => by
        split at hq
        · cases hv
          exact ⟨_, rfl, hq⟩
        · exact hq.elim
      obtain ⟨v, f1, key, rfl, hq⟩ := hk
      exact ⟨_, e1, _, f1, a, _, rfl, DPut.k (k := .inl _) (by rw [upd_ne (ne_of_none e2 hp)]; exact e2) (by rw [e3]; exact sz_lt hq.1), g.nx F _ _ _ (k p key hp hq.2.1) hq.2.2⟩
    · exact q.elim⟩⟩
/-- d[k].append(e), d a dict of lists of one's own -/
theorem qs_appK {i : Nat} {x : Str} {o : Expr} {to : TE} {dk : DE} {p1 p2 p3 p5 : Pos} (hu : X.A.units + 1 < cLine) (h : QE true X e te de) (hi : QE false X o to dk) (hv : QE false X (.Name x p1) (tVar i) (dVar false i)) (hpx : NoSl o)
    (hb : attributeBase (.Subscript (.Name x p1) o p5) "append" X.env (eval (.Subscript (.Name x p1) o p5) X.env) = eval (.Subscript (.Name x p1) o p5) X.env := by rfl)
    (hfew : ((backTo p3 (starEach [e] X.env)).all (fun x => !x.1) && (backToKw p3 (keywordEach [] X.env)).all (fun x => x.1.isSome)
      && decide (([e] : List Expr).length + ([] : List Keyword).length + (if ([] : List Keyword).isEmpty then 0 else 1) < 30)) = true := by rfl)
    (hline : (p2.endLine == p3.line) = true := by rfl) (hs : starEach [e] X.env = (false, eval e X.env) :: starEach [] X.env := by rfl) (hpl : (backTo p3 (starEach [] X.env)).any (·.1) = false := by rfl)
    (hsw : swapsWith (.Call (.Attribute (.Subscript (.Name x p1) o p5) "append" p2) [e] [] p3) none pos.line X.env = pure false := by rfl) :
    QSt X (.Expr (.Call (.Attribute (.Subscript (.Name x p1) o p5) "append" p2) [e] [] p3) pos) (tDrop (tBM X.K "list" rAppend (tDGet (tVar i) to) (tCons te tNil))) (dAppK i dk de) :=
  ⟨ps_expr (pe_bm PySem.F.plainAttrs_list PySem.F.slot_list_append PySem.F.type_list_append mt_append (pe_dget hu hv.pe hi.pe hpx) (pa_cons h.pe pa_nil hs) hb hfew hline hs hpl) hsw, fun H0 F0 F H ρ σ P E r q g => by
    unfold dAppK at q
    split at q
    · rename_i m hii
      obtain ⟨a, kvs, e1, e2, e3, _, _⟩ := r.dl hii
      refine ⟨_, e1, hi.se H0 F0 F H ρ σ _ _ r q fun v d F2 H2 s hv hq => ?_⟩
      have r2 := r.step s
      obtain ⟨a', kvs', e1', e2', e3', k2, _⟩ := r2.dl hii
      cases e1.symm.trans e1'
      split at hq
      · cases hv
        obtain ⟨ds, hds, ka, hq⟩ := hq
        obtain ⟨b, vs, b1, b2, b3, _⟩ := k2 _ ds ka hds
        refine ⟨a, .ref b, rfl, .inl ⟨kvs', .inl _, .inl e2', rfl, b1.symm⟩, st_slot b2, h.se H0 F0 F2 H2 ρ σ _ _ r2 hq fun w dw F3 H3 s3 hw hq => ?_⟩
        have r3 := r2.step s3
        obtain ⟨a'', kvs'', e1'', e2'', e3'', k3, _⟩ := r3.dl hii
        cases e1.symm.trans e1''
        have ek : kvs'' = kvs' := by
          have := s3.hH _ _ e2'
          rw [e2''] at this
          exact (HO.dK.inj (Option.some.inj this))
        obtain ⟨b', vs', b1', b2', b3', k4⟩ := k3 _ ds ka hds
        rw [ek, b1] at b1'
        cases b1'
        exact ⟨b, vs', w, rfl, rfl, b2', by rw [b3'.len]; exact sz_lt hq.1, g.nx F3 _ _ _ (k4 _ _ (b3'.append (.one hw))) hq.2⟩
      · exact hq.elim
    · exact q.elim⟩
end
/-! ### a new list of whole numbers, made by an own call whose arguments are whole numbers and dicts of such -/
def FlatArg : D → Prop
  | .int _ => True
  | .dct m => ∃ n : List (Int × Int), m = n.map fun p => (p.1, D.int p.2)
  | _ => False
def dCallL (sp : DSp) (da : DA) : DA := fun ρ Q => da ρ fun xs => (∀ x ∈ xs, FlatArg x) ∧ sp xs fun d => match d with
  | .lst ds => (∃ ns : List Int, ds = ns.map D.int) ∧ Q ds
  | _ => False
def dicts (H : Hp) : Hp := fun a => match H a with
  | some (.dK kvs) => some (.dK kvs)
  | _ => none
theorem dicts_ex (H : Hp) : Ex (dicts H) H := fun a x h => by
  unfold dicts at h
  split at h
  · rename_i kvs e
    rw [e]
    exact h
  · cases h
theorem repD_flat {K : PySem.W.Frag} {H H' : Hp} : ∀ {n : List (Int × Int)} {kvs : List (Key × V)}, RepD K H kvs (n.map fun p => (p.1, D.int p.2)) → RepD K H' kvs (n.map fun p => (p.1, D.int p.2))
  | [], _, h => by cases h; exact .nil
  | p :: n, _, h => by
    cases h with
    | cons h1 h2 =>
      cases h1
      exact .cons (.int _) (repD_flat h2)
theorem repL_dicts {K : PySem.W.Frag} {H : Hp} : ∀ {vs : List V} {ds : List D}, RepL K H vs ds → (∀ x ∈ ds, FlatArg x) → RepL K (dicts H) vs ds
  | _, _, .nil, _ => .nil
  | _, _, .cons (d := d) h1 h2, h => by
    refine .cons ?_ (repL_dicts h2 fun x hx => h x (List.mem_cons_of_mem _ hx))
    have := h d (List.mem_cons_self ..)
    cases h1 with
    | int => exact .int _
    | dct e r =>
      obtain ⟨n, rfl⟩ := this
      refine .dct ?_ (repD_flat r)
      unfold dicts
      rw [e]
    | _ => exact this.elim
theorem sl_call {ta : TA} {da : DA} {K : PySem.W.Frag} {sp : DSp} {E : XK} (h : SA true K ta da) : SL K (tCall (liftSp K sp) [] E ta) (dCallL sp da) := fun H0 F0 F H ρ σ Q R r q k =>
  h H0 F0 F H ρ σ _ _ r q fun vs ds F2 H2 s hv hq => by
    show liftSp K sp (vs ++ []) H2 R E
    rw [List.append_nil]
    refine ⟨dicts H2, ds, _, dicts_ex H2, repL_dicts (hv.up s.fh) hq.1, hq.2, fun d v F3 H3 hq s3 hr => ?_⟩
    split at hq
    · cases hr with
      | @lst a vs' _ e1 e2 =>
        obtain ⟨⟨ns, rfl⟩, hq⟩ := hq
        have hn : H2 a = none := s3.nw a (by
          cases z : dicts H2 a with
          | none => rfl
          | some o =>
            have := s3.fF a o z
            rw [e1] at this
            cases this
            unfold dicts at z
            split at z
            · cases z
            · cases z) (by rw [e1]; simp)
        have st : Stp F H F2 H3 := s.trans (Stp.grow s.fh s3.hH)
        have rl : RepL K F2 vs' (ns.map D.int) := by
          have ev := repL_ints e2
          subst ev
          have : ∀ ns : List Int, RepL K F2 (ns.map V.int) (ns.map D.int) := fun ns => by
            induction ns with
            | nil => exact .nil
            | cons n ns ih => exact .cons (.int _) ih
          exact this ns
        exact k a vs' _ F2 H3 st (s.hH.back hn) (s.fh.back hn) (s3.fh _ _ e1) rl hq
    · exact hq.elim
section
variable {X : Cx} {pos : Pos} {e : Expr}
theorem ql_call {k : Nat} {fa : Addr} {fd : FuncData} {ps : List Str} {sp : DSp} {x : Str} {p : Pos} {es : List Expr} {ta : TA} {da : DA} (G : FnOk X.prog X.w X.K X.mg X.base CX0 k fa fd ps (liftSp X.K sp)) (hr : Room k X.A) (hm : X.mg x = some (.ref fa)) (hk : PySem.W.keepIn X.K (.ref fa) = true) (hb : Binds X.K fd ps [])
    (h : QA true X (e :: es) ta da) (hg : Gl X x := by rfl) (hdb : (x == ("__debug__" : Str)) = false := by decide) (he : starEach (e :: es) X.env = (false, eval e X.env) :: starEach es X.env := by rfl) (hpl : (backTo pos (starEach es X.env)).any (·.1) = false := by rfl)  {K : PySem.W.Frag} (hK : X.K = K := by rfl) :
    QL X (.Call (.Name x p) (e :: es) [] pos) (tCall (liftSp K sp) [] E0 ta) (dCallL sp da) := by
  subst hK
  exact ⟨pe_call G hr hg hm hk hb .nil pass0 h.pa hdb he hpl, sl_call h.sa⟩
end
end DL

/-! F1: readers of the script, the row -/
namespace DL
open PySem L2
local macro_rules | `(tactic| walk_at "w") => `(tactic| conv => whnf)
local macro_rules | `(tactic| walk_at "side") => `(tactic| first | omega | decide | exact Nat.le_of_ble_eq_true rfl | exact ⟨by decide, by decide⟩ | exact Or.inl ⟨by omega, by omega⟩ | exact Or.inr ⟨by omega, by omega⟩ | (show (_ : Int) ≠ 0; omega) | exact ⟨by omega, by omega⟩ | (rw [List.length_map]; omega) | (simp only [List.length_map, List.length_append, List.length_cons, List.length_nil]; omega))
local macro_rules | `(tactic| walk_at "go") => `(tactic| ((repeat ((conv => whnf); first | (refine And.intro ?_ ?_; · walk_at "side") | refine And.intro (fun h => Bool.noConfusion (show false = true from h)) (fun _ => ?_) | refine And.intro (fun _ => ?_) (fun h => Bool.noConfusion (show true = false from h)))); (conv => whnf)))
local macro_rules | `(tactic| walk_at "if") => `(tactic| refine ⟨fun hc => ?_, fun hc => ?_⟩)
theorem fmod_pos {a b : Int} (h : 0 < b) : a.fmod b = a % b := Int.fmod_eq_emod_of_nonneg _ (Int.le_of_lt h)
theorem fmod_rng (a : Int) {b : Int} (h : 0 < b) : 0 ≤ a.fmod b ∧ a.fmod b < b := by
  rw [fmod_pos h]
  exact ⟨Int.emod_nonneg _ (by omega), Int.emod_lt_of_pos _ h⟩
theorem fdiv_pos {a b : Int} (h : 0 < b) : a.fdiv b = a / b := Int.fdiv_eq_ediv_of_nonneg _ (Int.le_of_lt h)
def cellAt (ns : List Int) (k : Int) : Int := ns.getD k.toNat 0
def sp_law_cell_at : DSp := fun ds Q => ∃ (ns : List Int) (k : Int), ds = [.scr ns, .int k] ∧ 0 ≤ k ∧ Q (.int (cellAt ns k))
def d_law_cell_at : DS := (dSeq (dIfS (dT (dOp oLt (dVar false 1) (dLen (dIv false 0)))) (dRet (dIx (dIv true 0) (dVar false 1))) dNext)
  (dRet (dC (.int 0))))
theorem th_law_cell_at : ∀ ds Q, sp_law_cell_at ds Q → d_law_cell_at (dEnds Q) (dstart 2 ds) := by
  rintro ds Q ⟨ns, k, rfl, h0, hq⟩
  walk_at "w"
  refine ⟨fun h => ?_, fun h => ?_⟩
  · walk_at "w"
    rw [decide_eq_true_iff, List.length_map] at h
    exact ⟨_, atI_getD h0 h, hq⟩
  · walk_at "w"
    rw [decide_eq_false_iff_not, List.length_map] at h
    have : cellAt ns k = 0 := by
      unfold cellAt
      rw [List.getD_eq_getElem?_getD, List.getElem?_eq_none (by omega)]
      rfl
    rw [this] at hq
    exact hq
theorem ln_law_cell_at : ∀ ds Q, sp_law_cell_at ds Q → ds.length = 2 := by
  rintro ds Q ⟨ns, k, rfl, _⟩
  rfl
/-- a drawn cell: any number -/
def sp_law_drawn : DSp := fun ds Q => ∃ (ns : List Int) (seed k : Int), ds = [.scr ns, .int seed, .int k] ∧ 0 ≤ k ∧ k ≤ 1000 ∧ ∀ c : Int, Q (.int c)
def d_law_drawn : DS := (dSeq (dIfS (dT (dOp oGt (dVar false 1) (dC (.int 0)))) (dRet (dOp oDiv (dOp oMod (dOp oMul (dVar false 1) (dOp oAdd (dC (.int 48271)) (dOp oMul (dC (.int 2)) (dVar false 2)))) (dC (.int 2147483647))) (dC (.int 3)))) dNext)
  (dRet (dCall sp_law_cell_at (dCons (dVar true 0) (dCons (dOp oAdd (dC (.int 2)) (dVar false 2)) dNil)))))
theorem th_law_drawn : ∀ ds Q, sp_law_drawn ds Q → d_law_drawn (dEnds Q) (dstart 3 ds) := by
  rintro ds Q ⟨ns, seed, k, rfl, h0, h1, hq⟩
  walk_at "w"
  refine ⟨fun h => ?_, fun h => ?_⟩
  · walk_at "go"
    exact hq _
  · walk_at "w"
    exact ⟨ns, 2 + k, rfl, by omega, hq _⟩
theorem ln_law_drawn : ∀ ds Q, sp_law_drawn ds Q → ds.length = 3 := by
  rintro ds Q ⟨ns, seed, k, rfl, _⟩
  rfl

/-! ### the row -/
structure RowInv (k last : Int) (order numbers : List Int) : Prop where
  k0 : 0 ≤ k
  on : order.Nodup
  ob : ∀ x ∈ order, 0 ≤ x ∧ x < k
  ol : (order.length : Int) = k
  nl : (numbers.length : Int) = k
  up : numbers.Pairwise (· < ·)
  nb : ∀ x ∈ numbers, 0 ≤ x ∧ x ≤ last
  lo : -1 ≤ last
  hi : last < 900000000000 + k * 1000000000
theorem RowInv.more {k last p m : Int} {order numbers : List Int} (h : RowInv k last order numbers) (hp : 0 ≤ p ∧ p ≤ k) (hm : 0 ≤ m ∧ m < 1000000000) :
    RowInv (k + 1) (last + 1 + m) (order.take p.toNat ++ [k] ++ order.drop p.toNat) (numbers ++ [last + 1 + m]) := by
  have pe : (order.take p.toNat ++ [k] ++ order.drop p.toNat).Perm (k :: order) := by
    simp only [List.append_assoc, List.singleton_append]
    refine List.perm_middle.trans ?_
    rw [List.take_append_drop]
  have hk : k ∉ order := fun z => by have := (h.ob k z).2; omega
  have e := h.k0
  have hl := h.lo
  have hh := h.hi
  refine ⟨by omega, ?_, fun x hx => ?_, ?_, ?_, ?_, fun x hx => ?_, by omega, by omega⟩
  · exact (pe.nodup_iff).mpr (List.nodup_cons.mpr ⟨hk, h.on⟩)
  · rcases List.mem_cons.mp (pe.mem_iff.mp hx) with rfl | hx
    · omega
    · have := h.ob x hx; omega
  · rw [pe.length_eq, List.length_cons]
    have := h.ol; omega
  · rw [List.length_append, List.length_singleton]
    have := h.nl; omega
  · rw [List.pairwise_append]
    refine ⟨h.up, List.pairwise_singleton _ _, fun x hx y hy => ?_⟩
    simp only [List.mem_singleton] at hy
    have := (h.nb x hx).2
    omega
  · rcases List.mem_append.mp hx with hx | hx
    · have := h.nb x hx; omega
    · simp only [List.mem_singleton] at hx
      omega
/-- what is known of a row -/
structure RowOk (bound : Int) (row : List Int) : Prop where
  nd : row.Nodup
  len : (row.length : Int) ≤ bound
  bd : ∀ x ∈ row, 0 ≤ x ∧ x < 1000000000000
theorem RowInv.row {k last : Int} {order numbers : List Int} (h : RowInv k last order numbers) {bound : Int} (hk : k ≤ bound) (h60 : k ≤ 60) : RowOk bound (order.map fun i => numbers.getD i.toNat 0) := by
  have hn := h.nl
  have at_ : ∀ i ∈ order, ∃ hi : i.toNat < numbers.length, numbers.getD i.toNat 0 = numbers[i.toNat] := fun i hi => by
    have := h.ob i hi
    have hl : i.toNat < numbers.length := by omega
    refine ⟨hl, ?_⟩
    rw [List.getD_eq_getElem?_getD, List.getElem?_eq_getElem hl]
    rfl
  refine ⟨?_, ?_, fun x hx => ?_⟩
  · rw [List.Nodup, List.pairwise_map]
    refine h.on.imp_of_mem fun {a b} ha hb hne e => ?_
    obtain ⟨la, ea⟩ := at_ a ha
    obtain ⟨lb, eb⟩ := at_ b hb
    have ba := h.ob a ha
    have bb := h.ob b hb
    rw [ea, eb] at e
    have inc := List.pairwise_iff_getElem.mp h.up
    rcases Nat.lt_trichotomy a.toNat b.toNat with q | q | q
    · have := inc _ _ la lb q; omega
    · exact hne (by omega)
    · have := inc _ _ lb la q; omega
  · rw [List.length_map]
    have := h.ol; omega
  · obtain ⟨i, hi, rfl⟩ := List.mem_map.mp hx
    obtain ⟨l, e⟩ := at_ i hi
    rw [e]
    have := h.nb _ (List.getElem_mem l)
    have := h.hi
    omega
def sp_law_row_of : DSp := fun ds Q => ∃ (ns : List Int) (bound : Int), ds = [.scr ns, .int bound] ∧ 8 ≤ bound ∧ bound ≤ 60 ∧ ∀ row : List Int, RowOk bound row → Q (dints row)
def d_law_row_of_1 : DS := (dSeq (dSet 10 (dCall sp_law_drawn (dCons (dVar true 0) (dCons (dVar true 5) (dCons (dVar true 9) dNil)))))
  (dSeq (dIns 7 (dOp oMod (dVar false 10) (dOp oAdd (dVar false 9) (dC (.int 1)))) (dVar true 9))
  (dSeq (dSet 6 (dOp oAdd (dOp oAdd (dVar false 6) (dC (.int 1))) (dOp oMod (dOp oDiv (dVar false 10) (dC (.int 64))) (dIx (dLst (dCons (dC (.int 1)) (dCons (dC (.int 7)) (dCons (dC (.int 1000000000)) dNil)))) (dOp oMod (dVar false 3) (dC (.int 3)))))))
  (dApp 8 (dVar true 6)))))
def d_law_row_of_2 : DE := (dIx (dIv true 8) (dVar false 9))
def d_law_row_of_t1 : DS := (dRet (dL (dLc (dS (dVar true 7)) 9 dYes d_law_row_of_2)))
def d_law_row_of : DS := (dSeq (dSet 2 (dCall sp_law_cell_at (dCons (dVar true 0) (dCons (dC (.int 0)) dNil))))
  (dSeq (dSet 3 (dCall sp_law_cell_at (dCons (dVar true 0) (dCons (dC (.int 1)) dNil))))
  (dSeq (dSet 4 (dOp oMod (dVar false 2) (dC (.int 9))))
  (dSeq (dSet 5 (dC (.int 0)))
  (dJoin (dIfS (dT (dOp (oEq false) (dOp oMod (dOp oDiv (dVar false 2) (dC (.int 9))) (dC (.int 4))) (dC (.int 1)))) (dSeq (dSet 4 (dOp oMod (dOp oDiv (dVar false 2) (dC (.int 36))) (dOp oAdd (dVar false 1) (dC (.int 1)))))
  (dSet 5 (dOp oAdd (dC (.int 1)) (dOp oMod (dOp oDiv (dVar false 2) (dC (.int 36))) (dC (.int 1000000007)))))) dNext)
  (dJoin (dIfS (dT (dOp (oEq false) (dOp oMod (dOp oDiv (dVar false 2) (dC (.int 9))) (dC (.int 4))) (dC (.int 2)))) (dSet 4 (dI2 gMin (dCons (dI2 gMax (dCons (dC (.int 0)) (dCons (dOp oSub (dLen (dIv false 0)) (dC (.int 2))) dNil))) (dCons (dVar false 1) dNil)))) dNext)
  (dSeq (dSet 6 (dOp oSub (dIx (dLst (dCons (dC (.int 0)) (dCons (dOp oMod (dOp oDiv (dVar false 3) (dC (.int 6))) (dC (.int 900000000000))) dNil))) (dOp oMod (dOp oDiv (dVar false 3) (dC (.int 3))) (dC (.int 2)))) (dC (.int 1))))
  (dSeq (dSetL 7 (dLst dNil))
  (dSeq (dSetL 8 (dLst dNil))
  (dSeq (dFor (dRng1 (dCons (dVar false 4) dNil)) 9 d_law_row_of_1)
  d_law_row_of_t1))))))))))
theorem at_step (i : Int) (h : 0 ≤ i ∧ i < 3) : ∃ m : Int, atI ([.int 1, .int 7, .int 1000000000] : List D) i = some (.int m) ∧ 0 < m ∧ m ≤ 1000000000 := by
  have : i = 0 ∨ i = 1 ∨ i = 2 := by omega
  rcases this with rfl | rfl | rfl
  · exact ⟨1, rfl, by decide, by decide⟩
  · exact ⟨7, rfl, by decide, by decide⟩
  · exact ⟨1000000000, rfl, by decide, by decide⟩
theorem at_first (i x : Int) (h : 0 ≤ i ∧ i < 2) (hx : 0 ≤ x ∧ x < 900000000000) : ∃ m : Int, atI ([.int 0, .int x] : List D) i = some (.int m) ∧ 0 ≤ m ∧ m < 900000000000 := by
  have : i = 0 ∨ i = 1 := by omega
  rcases this with rfl | rfl
  · exact ⟨0, rfl, by decide, by decide⟩
  · exact ⟨x, rfl, hx⟩
theorem row_of_loop {P : DEnds} {ns : List Int} {bound head scale count seed : Int} (hc : count ≤ 60)
    (hP : ∀ last order numbers s9 s10, RowInv count last order numbers → P.nx [.fz (.scr ns), .fz (.int bound), .fz (.int head), .fz (.int scale), .fz (.int count), .fz (.int seed), .fz (.int last), .l1 (order.map D.int), .l1 (numbers.map D.int), s9, s10]) :
    ∀ (n : Nat) (k last : Int) (order numbers : List Int) (s9 s10 : Sl), count - k = n → RowInv k last order numbers →
      dForG d_law_row_of_1 9 P (rangeD k count) [.fz (.scr ns), .fz (.int bound), .fz (.int head), .fz (.int scale), .fz (.int count), .fz (.int seed), .fz (.int last), .l1 (order.map D.int), .l1 (numbers.map D.int), s9, s10]
  | 0, k, last, order, numbers, s9, s10, hn, h => by
    rw [rangeD_nil (by omega)]
    have : k = count := by omega
    subst this
    exact hP last order numbers s9 s10 h
  | n + 1, k, last, order, numbers, s9, s10, hn, h => by
    rw [rangeD_cons (by omega)]
    have hk := h.k0
    walk_at "go"
    refine ⟨ns, seed, k, rfl, hk, by omega, fun c => ?_⟩
    have e3 := fmod_rng c (show 0 < k + 1 by omega)
    have ol := h.ol
    have nl := h.nl
    walk_at "go"
    obtain ⟨m, hm, m0, m1⟩ := at_step (scale.fmod 3) (fmod_rng _ (by decide))
    refine ⟨_, hm, ?_⟩
    walk_at "go"
    have e4 := fmod_rng (c.fdiv 64) m0
    have g := h.more (p := c.fmod (k + 1)) (m := (c.fdiv 64).fmod m) ⟨e3.1, by omega⟩ ⟨e4.1, by omega⟩
    have := row_of_loop hc hP n (k + 1) _ _ _ (.fz (.int k)) (.fz (.int c)) (by omega) g
    simp only [List.map_append, List.map_take, List.map_drop, List.map_cons, List.map_nil] at this
    exact this
theorem th_law_row_of : ∀ ds Q, sp_law_row_of ds Q → d_law_row_of (dEnds Q) (dstart 11 ds) := by
  rintro ds Q ⟨ns, bound, rfl, b0, b1, hq⟩
  walk_at "w"
  refine ⟨ns, 0, rfl, by decide, ?_⟩
  walk_at "w"
  refine ⟨ns, 1, rfl, by decide, ?_⟩
  generalize cellAt ns 0 = head
  generalize cellAt ns 1 = scale
  walk_at "go"
  refine ⟨fun ρ => ∃ count seed : Int, 0 ≤ count ∧ count ≤ bound ∧ ρ = [.fz (.scr ns), .fz (.int bound), .fz (.int head), .fz (.int scale), .fz (.int count), .fz (.int seed), .un, .un, .un, .un, .un], ?_, ?_⟩
  · walk_at "go"
    refine ⟨fun h => ?_, fun h => ?_⟩
    · walk_at "go"
      have e := fmod_rng (head.fdiv 36) (show 0 < bound + 1 by omega)
      exact ⟨_, _, e.1, by omega, rfl⟩
    · have e := fmod_rng head (show (0 : Int) < 9 by decide)
      exact ⟨_, _, e.1, by omega, rfl⟩
  rintro ρ ⟨count, seed, c0, c1, rfl⟩
  refine ⟨fun ρ => ∃ count seed : Int, 0 ≤ count ∧ count ≤ bound ∧ ρ = [.fz (.scr ns), .fz (.int bound), .fz (.int head), .fz (.int scale), .fz (.int count), .fz (.int seed), .un, .un, .un, .un, .un], ?_, ?_⟩
  · walk_at "go"
    refine ⟨fun h => ?_, fun h => ?_⟩
    · walk_at "go"
      refine ⟨_, _, ?_, ?_, rfl⟩
      · unfold gMin gMax; split <;> split <;> omega
      · unfold gMin gMax; split <;> split <;> omega
    · exact ⟨_, _, c0, c1, rfl⟩
  rintro ρ ⟨count, seed, c0, c1, rfl⟩
  walk_at "go"
  obtain ⟨m, hm, m0, m1⟩ := at_first ((scale.fdiv 3).fmod 2) ((scale.fdiv 6).fmod 900000000000) (fmod_rng _ (by decide)) (fmod_rng _ (by decide))
  refine ⟨_, hm, ?_⟩
  walk_at "go"
  refine row_of_loop (ns := ns) (by omega) (fun last order numbers s9 s10 h => ?_) count.toNat 0 (m - 1) [] [] .un .un (by omega) ⟨by decide, List.nodup_nil, (fun _ h => nomatch h), rfl, rfl, .nil, (fun _ h => nomatch h), by omega, by omega⟩
  have ol := h.ol
  have nl := h.nl
  walk_at "go"
  refine dLcG_map (fun d => match d with | .int i => .int (numbers.getD i.toNat 0) | _ => .non) (fun x hx R hR => ?_) ?_
  · obtain ⟨i, hi, rfl⟩ := List.mem_map.mp hx
    have := h.ob i hi
    walk_at "w"
    exact ⟨_, atI_getD this.1 (by omega), hR⟩
  · have g := hq _ (h.row c1 (by omega))
    rw [List.map_map]
    show Q (.lst ([] ++ _))
    rw [List.nil_append]
    unfold dints at g
    rw [List.map_map] at g
    exact g
theorem ln_law_row_of : ∀ ds Q, sp_law_row_of ds Q → ds.length = 2 := by
  rintro ds Q ⟨ns, k, rfl, _⟩
  rfl
end DL

/-! F2: rising, falling -/
namespace DL
open PySem L2
local macro_rules | `(tactic| walk_at "w") => `(tactic| conv => whnf)
local macro_rules | `(tactic| walk_at "side") => `(tactic| first | omega | decide | exact Nat.le_of_ble_eq_true rfl | exact ⟨by decide, by decide⟩ | exact Or.inl ⟨by omega, by omega⟩ | exact Or.inr ⟨by omega, by omega⟩ | (show (_ : Int) ≠ 0; omega) | exact ⟨by omega, by omega⟩ | (rw [List.length_map]; omega) | (simp only [List.length_map, List.length_append, List.length_cons, List.length_nil]; omega))
local macro_rules | `(tactic| walk_at "go") => `(tactic| ((repeat ((conv => whnf); first | (refine And.intro ?_ ?_; · walk_at "side") | refine And.intro (fun h => Bool.noConfusion (show false = true from h)) (fun _ => ?_) | refine And.intro (fun _ => ?_) (fun h => Bool.noConfusion (show true = false from h)))); (conv => whnf)))
local macro_rules | `(tactic| walk_at "if") => `(tactic| refine ⟨fun hc => ?_, fun hc => ?_⟩)
/-- each two neighbours -/
def nbrs (r : Int → Int → Bool) : List Int → Bool
  | x :: y :: l => r x y && nbrs r (y :: l)
  | _ => true
abbrev rising : List Int → Bool := nbrs fun x y => decide (x < y)
abbrev falling : List Int → Bool := nbrs fun x y => decide (y < x)
theorem nbrs_at {r : Int → Int → Bool} : ∀ {l : List Int}, nbrs r l = true ↔ ∀ k, k + 1 < l.length → r (l.getD k 0) (l.getD (k + 1) 0) = true
  | [] => by simp [nbrs]
  | [x] => by simp [nbrs]
  | x :: y :: l => by
    have ih := nbrs_at (r := r) (l := y :: l)
    simp only [nbrs, Bool.and_eq_true]
    rw [ih]
    constructor
    · rintro ⟨h1, h2⟩ k hk
      cases k with
      | zero => exact h1
      | succ k => exact h2 k (by simp only [List.length_cons] at hk ⊢; omega)
    · intro h
      exact ⟨h 0 (by simp), fun k hk => h (k + 1) (by simp only [List.length_cons] at hk ⊢; omega)⟩
theorem nbrs_of {r : Int → Int → Bool} {l : List Int} (h : ∀ k : Int, 1 ≤ k → k < l.length → r (l.getD (k - 1).toNat 0) (l.getD k.toNat 0) = true) : nbrs r l = true := by
  rw [nbrs_at]
  intro k hk
  have := h (k + 1 : Nat) (by omega) (by omega)
  simpa using this
theorem nbrs_no {r : Int → Int → Bool} {l : List Int} (k : Int) (h1 : 1 ≤ k) (h2 : k < l.length) (h : r (l.getD (k - 1).toNat 0) (l.getD k.toNat 0) = false) : nbrs r l = false := by
  cases e : nbrs r l with
  | false => rfl
  | true =>
    rw [nbrs_at] at e
    have := e (k - 1).toNat (by omega)
    rw [show (k - 1).toNat + 1 = k.toNat by omega, h] at this
    cases this
def sp_row (f : List Int → Bool) : DSp := fun ds Q => ∃ row : List Int, ds = [dints row] ∧ row.length ≤ 1000 ∧ Q (.bl (f row))
def sp_law_rising : DSp := sp_row rising
def sp_law_falling : DSp := sp_row falling
def sp_is_rising : DSp := sp_row rising
def sp_is_falling : DSp := sp_row falling
def d_law_rising_1 : DT := (dT (dOp oGe (dIx (dIv false 0) (dOp oSub (dVar false 1) (dC (.int 1)))) (dIx (dIv false 0) (dVar false 1))))
def d_law_rising_2 : DE := (dVar true 1)
def d_law_rising : DS := (dRet (dOp (oEq false) (dLen (dLc (dRng2 (dCons (dC (.int 1)) (dCons (dLen (dIv false 0)) dNil))) 1 d_law_rising_1 d_law_rising_2)) (dC (.int 0))))
def d_law_falling_1 : DT := (dT (dOp oLe (dIx (dIv false 0) (dOp oSub (dVar false 1) (dC (.int 1)))) (dIx (dIv false 0) (dVar false 1))))
def d_law_falling_2 : DE := (dVar true 1)
def d_law_falling : DS := (dRet (dOp (oEq false) (dLen (dLc (dRng2 (dCons (dC (.int 1)) (dCons (dLen (dIv false 0)) dNil))) 1 d_law_falling_1 d_law_falling_2)) (dC (.int 0))))
def d_is_rising_1 : DS := (dIfS (dT (dOp oGe (dIx (dIv false 0) (dOp oSub (dVar false 1) (dC (.int 1)))) (dIx (dIv false 0) (dVar false 1)))) (dRet (dC (.bl false))) dNext)
def d_is_rising_t1 : DS := (dRet (dC (.bl true)))
def d_is_rising : DS := (dSeq (dFor (dRng2 (dCons (dC (.int 1)) (dCons (dLen (dIv false 0)) dNil))) 1 d_is_rising_1)
  d_is_rising_t1)
def d_is_falling_1 : DS := (dIfS (dT (dOp oLe (dIx (dIv false 0) (dOp oSub (dVar false 1) (dC (.int 1)))) (dIx (dIv false 0) (dVar false 1)))) (dRet (dC (.bl false))) dNext)
def d_is_falling_t1 : DS := (dRet (dC (.bl true)))
def d_is_falling : DS := (dSeq (dFor (dRng2 (dCons (dC (.int 1)) (dCons (dLen (dIv false 0)) dNil))) 1 d_is_falling_1)
  d_is_falling_t1)
theorem rangeI_mem {lo hi x : Int} : x ∈ rangeI lo hi ↔ lo ≤ x ∧ x < hi := by
  unfold rangeI
  rw [List.mem_map]
  constructor
  · rintro ⟨i, hi, rfl⟩
    rw [List.mem_range] at hi
    omega
  · intro h
    exact ⟨(x - lo).toNat, by rw [List.mem_range]; omega, by omega⟩
theorem law_dir {f : List Int → Bool} {r : Int → Int → Bool} (hf : ∀ row, f row = nbrs r row) {row : List Int} {l : List Int} (p : Int → Bool) (hp : ∀ k : Int, 1 ≤ k → k < row.length → p k = !r (row.getD (k - 1).toNat 0) (row.getD k.toNat 0)) (hl : l = (rangeI 1 row.length).filter p) :
    (false ^^ decide ((l.length : Int) = 0)) = f row := by
  rw [hf, Bool.false_xor, Bool.eq_iff_iff, decide_eq_true_iff]
  subst hl
  constructor
  · intro h
    refine nbrs_of fun k h1 h2 => ?_
    have e : (rangeI 1 row.length).filter p = [] := List.length_eq_zero_iff.mp (by omega)
    rw [List.filter_eq_nil_iff] at e
    have := e k (rangeI_mem.mpr ⟨h1, h2⟩)
    rw [hp k h1 h2] at this
    simpa using this
  · intro h
    rw [List.filter_eq_nil_iff.mpr]
    · rfl
    · intro k hk
      have q := rangeI_mem.mp hk
      rw [hp k q.1 q.2]
      cases e : r (row.getD (k - 1).toNat 0) (row.getD k.toNat 0) with
      | true => simp
      | false => rw [nbrs_no k q.1 q.2 e] at h; cases h
theorem filter_map_int (p : Int → Bool) (f : D → Bool) (hf : ∀ k, f (.int k) = p k) (l : List Int) : (((l.map D.int).filter f).map id).length = (l.filter p).length := by
  rw [List.map_id, List.filter_map, List.length_map]
  congr 1
  apply List.filter_congr
  intro x _
  exact hf x
theorem th_law_rising : ∀ ds Q, sp_law_rising ds Q → d_law_rising (dEnds Q) (dstart 2 ds) := by
  rintro ds Q ⟨row, rfl, hl, hq⟩
  walk_at "w"
  refine ⟨⟨by decide, by decide, by omega, by rw [List.length_map]; omega⟩, ?_⟩
  walk_at "w"
  refine ⟨by rw [rangeD_len, List.length_map]; omega, ?_⟩
  rw [List.length_map, rangeD_eq]
  refine dLcG_filter (fun d => match d with | .int k => decide (row.getD k.toNat 0 ≤ row.getD (k - 1).toNat 0) | _ => false) id (fun x hx R hR => ?_) (fun x hx R _ hR => ?_) ?_
  · obtain ⟨k, hk, rfl⟩ := List.mem_map.mp hx
    have := rangeI_mem.mp hk
    walk_at "w"
    refine ⟨_, atI_getD (by omega) (by omega), ?_⟩
    walk_at "w"
    exact ⟨_, atI_getD (by omega) (by omega), hR⟩
  · obtain ⟨k, hk, rfl⟩ := List.mem_map.mp hx
    exact hR
  · walk_at "w"
    rw [← law_dir (f := rising) (fun _ => rfl) (row := row) (fun k => decide (row.getD k.toNat 0 ≤ row.getD (k - 1).toNat 0)) (fun k _ _ => by rw [Bool.eq_iff_iff]; simp) rfl] at hq
    rw [List.nil_append, filter_map_int _ _ (fun k => rfl)]
    exact hq
theorem th_law_falling : ∀ ds Q, sp_law_falling ds Q → d_law_falling (dEnds Q) (dstart 2 ds) := by
  rintro ds Q ⟨row, rfl, hl, hq⟩
  walk_at "w"
  refine ⟨⟨by decide, by decide, by omega, by rw [List.length_map]; omega⟩, ?_⟩
  walk_at "w"
  refine ⟨by rw [rangeD_len, List.length_map]; omega, ?_⟩
  rw [List.length_map, rangeD_eq]
  refine dLcG_filter (fun d => match d with | .int k => decide (row.getD (k - 1).toNat 0 ≤ row.getD k.toNat 0) | _ => false) id (fun x hx R hR => ?_) (fun x hx R _ hR => ?_) ?_
  · obtain ⟨k, hk, rfl⟩ := List.mem_map.mp hx
    have := rangeI_mem.mp hk
    walk_at "w"
    refine ⟨_, atI_getD (by omega) (by omega), ?_⟩
    walk_at "w"
    exact ⟨_, atI_getD (by omega) (by omega), hR⟩
  · obtain ⟨k, hk, rfl⟩ := List.mem_map.mp hx
    exact hR
  · walk_at "w"
    rw [← law_dir (f := falling) (fun _ => rfl) (row := row) (fun k => decide (row.getD (k - 1).toNat 0 ≤ row.getD k.toNat 0)) (fun k _ _ => by rw [Bool.eq_iff_iff]; simp) rfl] at hq
    rw [List.nil_append, filter_map_int _ _ (fun k => rfl)]
    exact hq
theorem is_rising_loop {P : DEnds} {row : List Int} : ∀ (n : Nat) (k : Int) (s1 : Sl), (row.length : Int) - k = n → 1 ≤ k → (∀ j : Int, 1 ≤ j → j < k → row.getD (j - 1).toNat 0 < row.getD j.toNat 0) →
    (rising row = true → ∀ s, P.nx [.fz (dints row), s]) → (rising row = false → P.rt (.bl false)) → dForG d_is_rising_1 1 P (rangeD k row.length) [.fz (dints row), s1]
  | 0, k, s1, hn, h1, hj, g1, g2 => by
    rw [rangeD_nil (by omega)]
    exact g1 (nbrs_of fun j j1 j2 => decide_eq_true (hj j j1 (by omega))) s1
  | n + 1, k, s1, hn, h1, hj, g1, g2 => by
    rw [rangeD_cons (by omega)]
    walk_at "w"
    refine ⟨_, atI_getD (by omega) (by omega), ?_⟩
    walk_at "w"
    refine ⟨_, atI_getD (by omega) (by omega), ?_⟩
    walk_at "w"
    refine ⟨fun h => ?_, fun h => ?_⟩
    · rw [decide_eq_true_iff] at h
      exact g2 (nbrs_no k h1 (by omega) (by rw [decide_eq_false_iff_not]; omega))
    · rw [decide_eq_false_iff_not] at h
      refine is_rising_loop n (k + 1) (.fz (.int k)) (by omega) (by omega) (fun j j1 j2 => ?_) g1 g2
      by_cases e : j = k
      · subst e; omega
      · exact hj j j1 (by omega)
theorem th_is_rising : ∀ ds Q, sp_is_rising ds Q → d_is_rising (dEnds Q) (dstart 2 ds) := by
  rintro ds Q ⟨row, rfl, hl, hq⟩
  walk_at "w"
  refine ⟨⟨by decide, by decide, by omega, by rw [List.length_map]; omega⟩, ?_⟩
  rw [List.length_map]
  by_cases h : (row.length : Int) < 1
  · rw [rangeD_nil (by omega)]
    have : rising row = true := nbrs_of fun j j1 j2 => by omega
    rw [this] at hq
    exact hq
  · refine is_rising_loop (row.length - 1) 1 .un (by omega) (by omega) (fun j j1 j2 => by omega) (fun h s => ?_) (fun h => ?_)
    · rw [h] at hq; exact hq
    · rw [h] at hq; exact hq
theorem is_falling_loop {P : DEnds} {row : List Int} : ∀ (n : Nat) (k : Int) (s1 : Sl), (row.length : Int) - k = n → 1 ≤ k → (∀ j : Int, 1 ≤ j → j < k → row.getD j.toNat 0 < row.getD (j - 1).toNat 0) →
    (falling row = true → ∀ s, P.nx [.fz (dints row), s]) → (falling row = false → P.rt (.bl false)) → dForG d_is_falling_1 1 P (rangeD k row.length) [.fz (dints row), s1]
  | 0, k, s1, hn, h1, hj, g1, g2 => by
    rw [rangeD_nil (by omega)]
    exact g1 (nbrs_of fun j j1 j2 => decide_eq_true (hj j j1 (by omega))) s1
  | n + 1, k, s1, hn, h1, hj, g1, g2 => by
    rw [rangeD_cons (by omega)]
    walk_at "w"
    refine ⟨_, atI_getD (by omega) (by omega), ?_⟩
    walk_at "w"
    refine ⟨_, atI_getD (by omega) (by omega), ?_⟩
    walk_at "w"
    refine ⟨fun h => ?_, fun h => ?_⟩
    · rw [decide_eq_true_iff] at h
      exact g2 (nbrs_no k h1 (by omega) (by rw [decide_eq_false_iff_not]; omega))
    · rw [decide_eq_false_iff_not] at h
      refine is_falling_loop n (k + 1) (.fz (.int k)) (by omega) (by omega) (fun j j1 j2 => ?_) g1 g2
      by_cases e : j = k
      · subst e; omega
      · exact hj j j1 (by omega)
theorem th_is_falling : ∀ ds Q, sp_is_falling ds Q → d_is_falling (dEnds Q) (dstart 2 ds) := by
  rintro ds Q ⟨row, rfl, hl, hq⟩
  walk_at "w"
  refine ⟨⟨by decide, by decide, by omega, by rw [List.length_map]; omega⟩, ?_⟩
  rw [List.length_map]
  by_cases h : (row.length : Int) < 1
  · rw [rangeD_nil (by omega)]
    have : falling row = true := nbrs_of fun j j1 j2 => by omega
    rw [this] at hq
    exact hq
  · refine is_falling_loop (row.length - 1) 1 .un (by omega) (by omega) (fun j j1 j2 => by omega) (fun h s => ?_) (fun h => ?_)
    · rw [h] at hq; exact hq
    · rw [h] at hq; exact hq
theorem ln_row {f : List Int → Bool} : ∀ ds Q, sp_row f ds Q → ds.length = 1 := by
  rintro ds Q ⟨row, rfl, _⟩
  rfl
abbrev ln_law_rising := @ln_row rising
abbrev ln_law_falling := @ln_row falling
abbrev ln_is_rising := @ln_row rising
abbrev ln_is_falling := @ln_row falling
end DL

/-! F3: parts of a row -/
namespace DL
open PySem L2
local macro_rules | `(tactic| walk_at "w") => `(tactic| conv => whnf)
local macro_rules | `(tactic| walk_at "side") => `(tactic| first | omega | decide | exact Nat.le_of_ble_eq_true rfl | exact ⟨by decide, by decide⟩ | exact Or.inl ⟨by omega, by omega⟩ | exact Or.inr ⟨by omega, by omega⟩ | (show (_ : Int) ≠ 0; omega) | exact ⟨by omega, by omega⟩ | (rw [List.length_map]; omega) | (simp only [List.length_map, List.length_append, List.length_cons, List.length_nil]; omega))
local macro_rules | `(tactic| walk_at "go") => `(tactic| ((repeat ((conv => whnf); first | (refine And.intro ?_ ?_; · walk_at "side") | refine And.intro (fun h => Bool.noConfusion (show false = true from h)) (fun _ => ?_) | refine And.intro (fun _ => ?_) (fun h => Bool.noConfusion (show true = false from h)))); (conv => whnf)))
local macro_rules | `(tactic| walk_at "if") => `(tactic| refine ⟨fun hc => ?_, fun hc => ?_⟩)
def cutI (ns : List Int) (lo hi : Option Int) : List Int := (ns.drop (HT.sIx ns.length 0 lo)).take (HT.sIx ns.length ns.length hi - HT.sIx ns.length 0 lo)
theorem cutD_map (ns : List Int) (lo hi : Option Int) : cutD (ns.map D.int) lo hi = (cutI ns lo hi).map D.int := by
  unfold cutD cutI
  simp only [List.length_map, List.map_take, List.map_drop]
theorem cutI_len (ns : List Int) (lo hi : Option Int) : (cutI ns lo hi).length ≤ ns.length := by
  unfold cutI
  simp only [List.length_take, List.length_drop]
  omega
theorem eqv_self (ns : List Int) : PyData.eqv (dints ns).py (dints ns).py = true := by
  rw [eqv_dints]
  exact decide_eq_true rfl
/-- what is left of the second when some are left out, looked for from the left -/
def subB : List Int → List Int → Bool
  | [], _ => true
  | _ :: _, [] => false
  | x :: xs, y :: ys => if y = x then subB xs ys else subB (x :: xs) ys
theorem subB_nil (r : List Int) : subB [] r = true := by cases r <;> rfl
theorem subB_iff : ∀ {r p : List Int}, subB p r = true ↔ p.Sublist r
  | [], [] => by simp [subB]
  | [], x :: xs => by simp [subB]
  | y :: ys, [] => by simp [subB]
  | y :: ys, x :: xs => by
    simp only [subB]
    split
    · rename_i h
      subst h
      rw [subB_iff, List.cons_sublist_cons]
    · rename_i h
      rw [subB_iff]
      constructor
      · intro q; exact q.cons _
      · intro q
        cases q with
        | cons _ q => exact q
        | cons_cons => exact (h rfl).elim
def sp_law_part : DSp := fun ds Q => ∃ part row : List Int, ds = [dints part, dints row] ∧ part.length ≤ 1000 ∧ row.length ≤ 1000 ∧ Q (.bl (subB part row))
def d_law_part_1 : DT := (dAnd (dT (dOp oLt (dVar false 2) (dLen (dIv false 1)))) (dT (dOp (oEq true) (dIx (dIv false 1) (dVar false 2)) (dVar false 3))))
def d_law_part_2 : DS := (dSet 2 (dOp oAdd (dVar false 2) (dC (.int 1))))
def d_law_part_t1 : DS := (dSeq (dIfS (dT (dOp (oEq false) (dVar false 2) (dLen (dIv false 1)))) (dRet (dC (.bl false))) dNext)
  (dSet 2 (dOp oAdd (dVar false 2) (dC (.int 1)))))
def d_law_part_3 : DS := (dSeq (dWhile d_law_part_1 d_law_part_2)
  d_law_part_t1)
def d_law_part_t2 : DS := (dRet (dC (.bl true)))
def d_law_part : DS := (dSeq (dSet 2 (dC (.int 0)))
  (dSeq (dFor (dS (dVar true 0)) 3 d_law_part_3)
  d_law_part_t2))
theorem ln_law_part : ∀ ds Q, sp_law_part ds Q → ds.length = 2 := by
  rintro ds Q ⟨p, r, rfl, _⟩
  rfl
theorem drop_getD {row : List Int} {place : Int} (h0 : 0 ≤ place) (h : place < row.length) : row.drop place.toNat = row.getD place.toNat 0 :: row.drop (place + 1).toNat := by
  have hl : place.toNat < row.length := by omega
  rw [List.drop_eq_getElem_cons hl, List.getD_eq_getElem?_getD, List.getElem?_eq_getElem hl, show (place + 1).toNat = place.toNat + 1 by omega]
  rfl
theorem law_part_loop {P : DEnds} {part row : List Int} : ∀ (xs : List Int) (place : Int) (s3 : Sl), 0 ≤ place → place ≤ row.length →
    (subB xs (row.drop place.toNat) = true → ∀ s2 s3, P.nx [.fz (dints part), .fz (dints row), s2, s3]) → (subB xs (row.drop place.toNat) = false → P.rt (.bl false)) →
    dForG d_law_part_3 3 P (xs.map D.int) [.fz (dints part), .fz (dints row), .fz (.int place), s3]
  | [], place, s3, h0, h1, g1, g2 => g1 (subB_nil _) _ _
  | x :: xs, place, s3, h0, h1, g1, g2 => by
    walk_at "w"
    refine ⟨fun m ρ => ∃ p : Int, ρ = [.fz (dints part), .fz (dints row), .fz (.int p), .fz (.int x)] ∧ 0 ≤ p ∧ p ≤ row.length ∧ (m : Int) = row.length - p ∧ subB (x :: xs) (row.drop place.toNat) = subB (x :: xs) (row.drop p.toNat), ⟨(row.length - place).toNat, place, rfl, h0, h1, by omega, rfl⟩, ?_⟩
    rintro m ρ ⟨p, rfl, p0, p1, hm, he⟩
    walk_at "w"
    refine ⟨fun hc => ?_, fun hc => ?_⟩
    · rw [decide_eq_true_iff, List.length_map] at hc
      walk_at "w"
      refine ⟨_, atI_getD p0 hc, ?_⟩
      walk_at "w"
      refine ⟨fun hd => ?_, fun hd => ?_⟩
      · walk_at "w"
        rw [Bool.true_xor, Bool.not_eq_true', decide_eq_false_iff_not] at hd
        refine ⟨(row.length - (p + 1)).toNat, by omega, p + 1, rfl, by omega, by omega, by omega, ?_⟩
        rw [he, drop_getD p0 hc]
        simp only [subB]
        rw [if_neg hd]
      · rw [Bool.true_xor, Bool.not_eq_false', decide_eq_true_iff] at hd
        have e2 : subB (x :: xs) (row.drop place.toNat) = subB xs (row.drop (p + 1).toNat) := by
          rw [he, drop_getD p0 hc]
          simp only [subB]
          rw [if_pos hd]
        walk_at "w"
        refine ⟨fun hz => ?_, fun _ => ?_⟩
        · rw [Bool.false_xor, decide_eq_true_iff, List.length_map] at hz
          omega
        · rw [e2] at g1 g2
          exact law_part_loop xs (p + 1) (.fz (.int x)) (by omega) (by omega) g1 g2
    · rw [decide_eq_false_iff_not, List.length_map] at hc
      have e : p = row.length := by omega
      walk_at "go"
      refine ⟨fun _ => ?_, fun hz => ?_⟩
      · refine g2 ?_
        rw [he, e]
        simp [subB]
      · rw [Bool.false_xor, decide_eq_false_iff_not, List.length_map] at hz
        exact (hz e).elim
theorem th_law_part : ∀ ds Q, sp_law_part ds Q → d_law_part (dEnds Q) (dstart 4 ds) := by
  rintro ds Q ⟨p, r, rfl, _, _, hq⟩
  walk_at "w"
  refine law_part_loop p 0 .un (by decide) (by omega) (fun h s2 s3 => ?_) (fun h => ?_)
  · rw [show ((0 : Int).toNat) = 0 from rfl, List.drop_zero] at h
    rw [h] at hq
    exact hq
  · rw [show ((0 : Int).toNat) = 0 from rfl, List.drop_zero] at h
    rw [h] at hq
    exact hq
def sp_stands_in : DSp := sp_law_part
def d_stands_in_1 : DS := (dIfS (dAnd (dT (dOp oLt (dVar false 2) (dLen (dIv false 0)))) (dT (dOp (oEq false) (dIx (dIv false 0) (dVar false 2)) (dVar false 3)))) (dSet 2 (dOp oAdd (dVar false 2) (dC (.int 1)))) dNext)
def d_stands_in_t1 : DS := (dRet (dOp (oEq false) (dVar false 2) (dLen (dIv false 0))))
def d_stands_in : DS := (dSeq (dSet 2 (dC (.int 0)))
  (dSeq (dFor (dS (dVar true 1)) 3 d_stands_in_1)
  d_stands_in_t1))
theorem ln_stands_in : ∀ ds Q, sp_stands_in ds Q → ds.length = 2 := ln_law_part
theorem stands_in_loop {P : DEnds} {part row : List Int} : ∀ (ys : List Int) (found : Int) (s3 : Sl), 0 ≤ found → found ≤ part.length →
    (∀ (f : Int) s3, (decide (f = part.length) = subB (part.drop found.toNat) ys) → P.nx [.fz (dints part), .fz (dints row), .fz (.int f), s3]) →
    dForG d_stands_in_1 3 P (ys.map D.int) [.fz (dints part), .fz (dints row), .fz (.int found), s3]
  | [], found, s3, h0, h1, g => by
    refine g found s3 ?_
    by_cases h : found = part.length
    · rw [decide_eq_true h, h, Int.toNat_natCast, List.drop_length]
      rfl
    · rw [decide_eq_false h, drop_getD h0 (by omega)]
      rfl
  | y :: ys, found, s3, h0, h1, g => by
    by_cases h : found < part.length
    · by_cases e : part.getD found.toNat 0 = y
      · have ih := stands_in_loop (P := P) (part := part) (row := row) ys (found + 1) (.fz (.int y)) (by omega) (by omega) (fun f s hf => g f s (by
          rw [hf, drop_getD h0 h]
          simp only [subB]
          rw [if_pos e.symm]))
        walk_at "w"
        refine ⟨fun _ => ?_, fun hc => ?_⟩
        · walk_at "w"
          refine ⟨_, atI_getD h0 h, ?_⟩
          walk_at "w"
          refine ⟨fun _ => ih, fun hc => ?_⟩
          rw [Bool.false_xor, decide_eq_false_iff_not] at hc
          exact (hc e).elim
        · rw [decide_eq_false_iff_not, List.length_map] at hc
          exact (hc h).elim
      · have ih := stands_in_loop (P := P) (part := part) (row := row) ys found (.fz (.int y)) h0 h1 (fun f s hf => g f s (by
          rw [hf, drop_getD h0 h]
          simp only [subB]
          rw [if_neg (fun z => e z.symm)]))
        walk_at "w"
        refine ⟨fun _ => ?_, fun hc => ?_⟩
        · walk_at "w"
          refine ⟨_, atI_getD h0 h, ?_⟩
          walk_at "w"
          refine ⟨fun hc => ?_, fun _ => ih⟩
          rw [Bool.false_xor, decide_eq_true_iff] at hc
          exact (e hc).elim
        · rw [decide_eq_false_iff_not, List.length_map] at hc
          exact (hc h).elim
    · have e : found = part.length := by omega
      have ih := stands_in_loop (P := P) (part := part) (row := row) ys found (.fz (.int y)) h0 h1 (fun f s hf => g f s (by
        rw [hf, e, Int.toNat_natCast, List.drop_length, subB_nil, subB_nil]))
      walk_at "w"
      refine ⟨fun hc => ?_, fun _ => ?_⟩
      · rw [decide_eq_true_iff, List.length_map] at hc
        exact (h hc).elim
      · walk_at "go"
        exact ih
theorem th_stands_in : ∀ ds Q, sp_stands_in ds Q → d_stands_in (dEnds Q) (dstart 4 ds) := by
  rintro ds Q ⟨p, r, rfl, _, _, hq⟩
  walk_at "w"
  refine stands_in_loop r 0 .un (by decide) (by omega) (fun f s3 hf => ?_)
  walk_at "w"
  rw [Bool.false_xor, List.length_map, hf]
  exact hq
end DL

/-! M1: rows laid onto lanes: plain mathematics -/
namespace DL
open PySem L2
def lastI (l : List Int) : Int := l.getLastD 0
/-- the first lane whose last wagon is not greater -/
def laneAt : List (List Int) → Int → Nat
  | [], _ => 0
  | l :: ls, w => if w < lastI l then laneAt ls w + 1 else 0
theorem laneAt_le : ∀ (ls : List (List Int)) (w : Int), laneAt ls w ≤ ls.length
  | [], _ => Nat.le_refl _
  | l :: ls, w => by
    simp only [laneAt]
    split
    · have := laneAt_le ls w
      simp only [List.length_cons]; omega
    · exact Nat.zero_le _
theorem laneAt_lt : ∀ {ls : List (List Int)} {w : Int} {i : Nat}, i < laneAt ls w → w < lastI (ls.getD i [])
  | [], _, _, h => by simp [laneAt] at h
  | l :: ls, w, i, h => by
    simp only [laneAt] at h
    split at h
    · rename_i q
      cases i with
      | zero => simpa using q
      | succ i =>
        have := laneAt_lt (ls := ls) (w := w) (i := i) (by omega)
        simpa using this
    · omega
theorem laneAt_at : ∀ {ls : List (List Int)} {w : Int}, laneAt ls w < ls.length → lastI (ls.getD (laneAt ls w) []) ≤ w
  | [], _, h => by simp [laneAt] at h
  | l :: ls, w, h => by
    simp only [laneAt] at h ⊢
    split
    · rename_i q
      rw [if_pos q] at h
      have := laneAt_at (ls := ls) (w := w) (by simpa using h)
      simpa using this
    · rename_i q
      simpa using q
def laneStep (s : List (List Int) × List (Int × Int)) (w : Int) : List (List Int) × List (Int × Int) :=
  let at_ := laneAt s.1 w
  let ls := if at_ = s.1.length then s.1 ++ [[]] else s.1
  (ls.set at_ (ls.getD at_ [] ++ [w]), if 0 < at_ then putI s.2 w (lastI (ls.getD (at_ - 1) [])) else s.2)
def laidM (row : List Int) : List (List Int) × List (Int × Int) := row.foldl laneStep ([], [])
def lanesM (row : List Int) : List (List Int) := (laidM row).1
def aboveM (row : List Int) : List (Int × Int) := (laidM row).2

/-! ### dicts as lists of pairs -/
theorem lookI_nil {α : Type} (k : Int) : lookI ([] : List (Int × α)) k = none := rfl
theorem lookI_cons {α : Type} (p : Int × α) (m : List (Int × α)) (k : Int) : lookI (p :: m) k = if p.1 = k then some p.2 else lookI m k := by
  unfold lookI
  rw [List.find?_cons]
  by_cases h : p.1 = k
  · rw [if_pos h]; simp [h]
  · rw [if_neg h]; simp [h]
theorem lookI_append {α : Type} : ∀ (m n : List (Int × α)) (k : Int), lookI (m ++ n) k = (lookI m k).or (lookI n k)
  | [], n, k => by simp [lookI_nil]
  | p :: m, n, k => by
    rw [List.cons_append, lookI_cons, lookI_cons, lookI_append m n k]
    split <;> simp
theorem any_lookI {α : Type} : ∀ (m : List (Int × α)) (k : Int), (m.any fun p => decide (p.1 = k)) = (lookI m k).isSome
  | [], _ => rfl
  | p :: m, k => by
    rw [List.any_cons, lookI_cons, any_lookI m k]
    by_cases h : p.1 = k
    · simp [h]
    · simp [h]
theorem lookI_map {α β : Type} (f : α → β) : ∀ (m : List (Int × α)) (k : Int), lookI (m.map fun p => (p.1, f p.2)) k = (lookI m k).map f
  | [], _ => rfl
  | p :: m, k => by
    rw [List.map_cons, lookI_cons, lookI_cons, lookI_map f m k]
    split <;> rfl
theorem lookI_put {α : Type} (m : List (Int × α)) (k j : Int) (d : α) : lookI (putI m k d) j = if k = j then some d else lookI m j := by
  unfold putI
  rw [any_lookI]
  cases h : lookI m k with
  | none =>
    rw [Option.isSome_none, if_neg Bool.false_ne_true, lookI_append, lookI_cons, lookI_nil]
    by_cases e : k = j
    · subst e; simp [h]
    · simp [e]
  | some v =>
    rw [Option.isSome_some, if_pos rfl]
    have : ∀ m : List (Int × α), lookI (m.map fun p => if p.1 = k then (p.1, d) else p) j = if k = j then (lookI m j).map (fun _ => d) else lookI m j := by
      intro m
      induction m with
      | nil => simp [lookI_nil]
      | cons p m ih =>
        rw [List.map_cons, lookI_cons, lookI_cons, ih]
        by_cases h1 : p.1 = k
        · by_cases h2 : k = j
          · subst h2; simp [h1]
          · have : ¬ p.1 = j := fun z => h2 (h1.symm.trans z)
            simp [h1, h2]
        · by_cases h2 : k = j
          · subst h2; simp [h1]
          · simp [h1, h2]
    rw [this]
    by_cases e : k = j
    · subst e; simp [h]
    · simp [e]
theorem putI_map {α β : Type} (f : α → β) (m : List (Int × α)) (k : Int) (d : α) : putI (m.map fun p => (p.1, f p.2)) k (f d) = (putI m k d).map fun p => (p.1, f p.2) := by
  unfold putI
  rw [any_lookI, any_lookI, lookI_map]
  cases lookI m k with
  | none => simp
  | some v =>
    simp only [Option.map_some, Option.isSome_some, if_true, List.map_map]
    apply List.map_congr_left
    intro p _
    simp only [Function.comp]
    split <;> rfl
theorem putI_len {α : Type} (m : List (Int × α)) (k : Int) (d : α) : (putI m k d).length ≤ m.length + 1 := by
  unfold putI
  split
  · rw [List.length_map]; omega
  · rw [List.length_append, List.length_singleton]; omega
theorem putI_new {α : Type} {m : List (Int × α)} {k : Int} {d : α} (h : lookI m k = none) : putI m k d = m ++ [(k, d)] := by
  unfold putI
  rw [any_lookI, h]
  rfl

/-! ### places in a row -/
theorem idx_lt {row : List Int} {x : Int} (h : x ∈ row) : row.idxOf x < row.length := List.idxOf_lt_length_iff.mpr h
theorem idx_cons_ne {y x : Int} {l : List Int} (h : y ≠ x) : (y :: l).idxOf x = l.idxOf x + 1 := by
  rw [List.idxOf_cons, show (y == x) = false from beq_eq_false_iff_ne.mpr h]
  rfl
/-- members in the order of their places are a part -/
theorem sublist_of_idx : ∀ {row c : List Int}, (∀ x ∈ c, x ∈ row) → c.Pairwise (fun a b => row.idxOf a < row.idxOf b) → c.Sublist row
  | [], c, hm, _ => by
    cases c with
    | nil => exact .slnil
    | cons x c => exact absurd (hm x (List.mem_cons_self ..)) (List.not_mem_nil)
  | y :: ys, c, hm, hp => by
    have tail : ∀ c : List Int, (∀ x ∈ c, x ∈ y :: ys) → (∀ x ∈ c, x ≠ y) → c.Pairwise (fun a b => (y :: ys).idxOf a < (y :: ys).idxOf b) → c.Sublist ys := fun c hm hn hp => by
      refine sublist_of_idx (fun x hx => ?_) (hp.imp_of_mem fun {a b} ha hb h => ?_)
      · rcases List.mem_cons.mp (hm x hx) with e | e
        · exact (hn x hx e).elim
        · exact e
      · rw [idx_cons_ne (fun z => hn a ha z.symm), idx_cons_ne (fun z => hn b hb z.symm)] at h
        omega
    cases c with
    | nil => exact List.nil_sublist _
    | cons x c =>
      obtain ⟨p1, p2⟩ := List.pairwise_cons.mp hp
      have ny : ∀ z ∈ c, z ≠ y := fun z hz e => by
        have := p1 z hz
        rw [e, List.idxOf_cons_self] at this
        omega
      by_cases e : x = y
      · subst e
        exact (tail c (fun z hz => hm z (List.mem_cons_of_mem _ hz)) ny p2).cons_cons _
      · refine (tail (x :: c) hm (fun z hz => ?_) hp).cons _
        rcases List.mem_cons.mp hz with rfl | hz
        · exact e
        · exact ny z hz
theorem idx_append_left {a b : List Int} {x : Int} (h : x ∈ a) : (a ++ b).idxOf x = a.idxOf x := by
  rw [List.idxOf_append]
  simp [h]
theorem idx_append_self {a b : List Int} {x : Int} (h : x ∉ a) : (a ++ x :: b).idxOf x = a.length := by
  rw [List.idxOf_append]
  simp [h]

/-! ### what holds of lanes -/
structure LaneInv (done : List Int) (ls : List (List Int)) (ab : List (Int × Int)) : Prop where
  ne : ∀ l ∈ ls, l ≠ []
  up : ∀ l ∈ ls, l.Pairwise (· < ·)
  pt : ∀ l ∈ ls, l.Sublist done
  pm : ls.flatten.Perm done
  top : ∀ i l w, ls[i]? = some l → w ∈ l → (i = 0 → lookI ab w = none) ∧ (0 < i → ∃ u, lookI ab w = some u ∧ u ∈ ls.getD (i - 1) [] ∧ w < u ∧ done.idxOf u < done.idxOf w)
  len : ab.length ≤ done.length
  key : ∀ w, w ∉ done → lookI ab w = none
theorem lastI_append (l : List Int) (w : Int) : lastI (l ++ [w]) = w := by simp [lastI]
theorem lastI_mem {l : List Int} (h : l ≠ []) : lastI l ∈ l := by
  unfold lastI
  rw [List.getLastD_eq_getLast?, List.getLast?_eq_some_getLast h]
  exact List.getLast_mem h
theorem le_lastI : ∀ {l : List Int}, l.Pairwise (· < ·) → ∀ x ∈ l, x ≤ lastI l
  | [], _, _, h => by cases h
  | [y], _, x, h => by simp at h; subst h; simp [lastI]
  | y :: z :: l, p, x, h => by
    obtain ⟨p1, p2⟩ := List.pairwise_cons.mp p
    have e : lastI (y :: z :: l) = lastI (z :: l) := by simp [lastI]
    rw [e]
    rcases List.mem_cons.mp h with rfl | h
    · have := p1 z (List.mem_cons_self ..)
      have := le_lastI p2 z (List.mem_cons_self ..)
      omega
    · exact le_lastI p2 x h
theorem flatten_set_perm : ∀ {ls : List (List Int)} {i : Nat} {l : List Int} (w : Int), ls[i]? = some l → ((ls.set i (l ++ [w])).flatten).Perm (w :: ls.flatten)
  | [], _, _, _, h => by simp at h
  | x :: ls, 0, l, w, h => by
    simp only [List.getElem?_cons_zero, Option.some.injEq] at h
    subst h
    simp only [List.set_cons_zero, List.flatten_cons, List.append_assoc, List.singleton_append]
    exact List.perm_middle
  | x :: ls, i + 1, l, w, h => by
    simp only [List.getElem?_cons_succ] at h
    simp only [List.set_cons_succ, List.flatten_cons]
    exact ((flatten_set_perm w h).append_left x).trans List.perm_middle
theorem laneStep_inv {done : List Int} {ls : List (List Int)} {ab : List (Int × Int)} {w : Int} (h : LaneInv done ls ab) (hw : w ∉ done) : LaneInv (done ++ [w]) (laneStep (ls, ab) w).1 (laneStep (ls, ab) w).2 := by
  have key : ∀ (ls1 : List (List Int)) (at_ : Nat) (l : List Int), ls1[at_]? = some l → (∀ m ∈ ls1, m.Pairwise (· < ·)) → (∀ m ∈ ls1, m.Sublist done) → ls1.flatten.Perm done → (∀ x ∈ l, x < w) →
      (∀ i m x, ls1[i]? = some m → x ∈ m → (i = 0 → lookI ab x = none) ∧ (0 < i → ∃ u, lookI ab x = some u ∧ u ∈ ls1.getD (i - 1) [] ∧ x < u ∧ done.idxOf u < done.idxOf x)) →
      (∀ i m, ls1[i]? = some m → i ≠ at_ → m ≠ []) → (0 < at_ → w < lastI (ls1.getD (at_ - 1) [])) →
      LaneInv (done ++ [w]) (ls1.set at_ (l ++ [w])) (if 0 < at_ then putI ab w (lastI (ls1.getD (at_ - 1) [])) else ab) := by
    intro ls1 at_ l hl hup hpt hpm hlw htop hne hab
    have hlen : at_ < ls1.length := (List.getElem?_eq_some_iff.mp hl).1
    have mem_of : ∀ i m, (ls1.set at_ (l ++ [w]))[i]? = some m → (i = at_ ∧ m = l ++ [w]) ∨ (i ≠ at_ ∧ ls1[i]? = some m) := fun i m e => by
      by_cases z : at_ = i
      · subst z
        rw [List.getElem?_set_self hlen] at e
        exact .inl ⟨rfl, (Option.some.inj e).symm⟩
      · rw [List.getElem?_set_ne z] at e
        exact .inr ⟨fun q => z q.symm, e⟩
    have lm : l ∈ ls1 := List.mem_of_getElem? hl
    have inl : ∀ i m x, ls1[i]? = some m → x ∈ m → x ∈ done := fun i m x e hx => (hpt m (List.mem_of_getElem? e)).subset hx
    have look : ∀ x, x ∈ done → lookI (if 0 < at_ then putI ab w (lastI (ls1.getD (at_ - 1) [])) else ab) x = lookI ab x := fun x hx => by
      have : ¬ w = x := fun z => hw (z ▸ hx)
      split
      · rw [lookI_put, if_neg this]
      · rfl
    have getD_set : ∀ i, i ≠ at_ → (ls1.set at_ (l ++ [w])).getD i [] = ls1.getD i [] := fun i hi => by
      rw [List.getD_eq_getElem?_getD, List.getD_eq_getElem?_getD, List.getElem?_set_ne (fun z => hi z.symm)]
    have getD_at : (ls1.set at_ (l ++ [w])).getD at_ [] = l ++ [w] := by
      rw [List.getD_eq_getElem?_getD, List.getElem?_set_self hlen]
      rfl
    have getD_l : ls1.getD at_ [] = l := by
      rw [List.getD_eq_getElem?_getD, hl]
      rfl
    refine ⟨fun m hm => ?_, fun m hm => ?_, fun m hm => ?_, ?_, fun i m x e hx => ?_, ?_, fun x hx => ?_⟩
    · obtain ⟨i, e⟩ := List.mem_iff_getElem?.mp hm
      rcases mem_of i m e with ⟨rfl, rfl⟩ | ⟨z, e⟩
      · simp
      · exact hne i m e z
    · obtain ⟨i, e⟩ := List.mem_iff_getElem?.mp hm
      rcases mem_of i m e with ⟨rfl, rfl⟩ | ⟨z, e⟩
      · rw [List.pairwise_append]
        refine ⟨hup l lm, List.pairwise_singleton _ _, fun a ha b hb => ?_⟩
        simp only [List.mem_singleton] at hb
        subst hb
        exact hlw a ha
      · exact hup m (List.mem_of_getElem? e)
    · obtain ⟨i, e⟩ := List.mem_iff_getElem?.mp hm
      rcases mem_of i m e with ⟨rfl, rfl⟩ | ⟨z, e⟩
      · exact (hpt l lm).append (List.Sublist.refl _)
      · exact (hpt m (List.mem_of_getElem? e)).trans (List.sublist_append_left _ _)
    · refine (flatten_set_perm w hl).trans ?_
      refine (hpm.cons w).trans ?_
      exact (List.perm_append_singleton w done).symm
    · rcases mem_of i m e with ⟨rfl, rfl⟩ | ⟨z, e⟩
      · rcases List.mem_append.mp hx with hx | hx
        · have hd := inl i l x hl hx
          rw [look x hd]
          refine ⟨(htop i l x hl hx).1, fun hi => ?_⟩
          obtain ⟨u, u1, u2, u3, u4⟩ := (htop i l x hl hx).2 hi
          have ud : u ∈ done := by
            have hlt : i - 1 < ls1.length := by omega
            rw [List.getD_eq_getElem?_getD, List.getElem?_eq_getElem hlt] at u2
            exact inl (i - 1) _ u (List.getElem?_eq_getElem hlt) u2
          refine ⟨u, u1, ?_, u3, ?_⟩
          · rw [getD_set _ (by omega)]; exact u2
          · rw [idx_append_left ud, idx_append_left hd]; exact u4
        · simp only [List.mem_singleton] at hx
          subst hx
          refine ⟨fun hi => ?_, fun hi => ?_⟩
          · subst hi
            rw [if_neg (by omega)]
            exact h.key x hw
          · rw [if_pos hi, lookI_put, if_pos rfl]
            have hlt : i - 1 < ls1.length := by omega
            have gm : ls1.getD (i - 1) [] ∈ ls1 := by
              rw [List.getD_eq_getElem?_getD, List.getElem?_eq_getElem hlt]
              exact List.getElem_mem hlt
            have gne : ls1.getD (i - 1) [] ≠ [] := hne (i - 1) _ (by rw [List.getD_eq_getElem?_getD, List.getElem?_eq_getElem hlt]; rfl) (by omega)
            have um := lastI_mem gne
            have ud := (hpt _ gm).subset um
            refine ⟨_, rfl, ?_, hab hi, ?_⟩
            · rw [getD_set _ (by omega)]; exact um
            · rw [idx_append_left ud, idx_append_self hw]
              exact idx_lt ud
      · have hd := inl i m x e hx
        rw [look x hd]
        refine ⟨(htop i m x e hx).1, fun hi => ?_⟩
        obtain ⟨u, u1, u2, u3, u4⟩ := (htop i m x e hx).2 hi
        have ilt : i < ls1.length := (List.getElem?_eq_some_iff.mp e).1
        have ud : u ∈ done := by
          have hlt : i - 1 < ls1.length := by omega
          rw [List.getD_eq_getElem?_getD, List.getElem?_eq_getElem hlt] at u2
          exact inl (i - 1) _ u (List.getElem?_eq_getElem hlt) u2
        refine ⟨u, u1, ?_, u3, ?_⟩
        · by_cases q : i - 1 = at_
          · rw [q, getD_at]
            rw [q, getD_l] at u2
            exact List.mem_append.mpr (.inl u2)
          · rw [getD_set _ q]; exact u2
        · rw [idx_append_left ud, idx_append_left hd]; exact u4
    · rw [List.length_append, List.length_singleton]
      have := h.len
      split
      · exact Nat.le_trans (putI_len _ _ _) (by omega)
      · omega
    · rw [List.mem_append, List.mem_singleton] at hx
      have hx1 : x ∉ done := fun z => hx (.inl z)
      have hx2 : ¬ w = x := fun z => hx (.inr z.symm)
      split
      · rw [lookI_put, if_neg hx2]; exact h.key x hx1
      · exact h.key x hx1
  have hat := laneAt_le ls w
  show LaneInv (done ++ [w]) ((if laneAt ls w = ls.length then ls ++ [[]] else ls).set (laneAt ls w) ((if laneAt ls w = ls.length then ls ++ [[]] else ls).getD (laneAt ls w) [] ++ [w]))
    (if 0 < laneAt ls w then putI ab w (lastI ((if laneAt ls w = ls.length then ls ++ [[]] else ls).getD (laneAt ls w - 1) [])) else ab)
  by_cases q : laneAt ls w = ls.length
  · rw [if_pos q, q]
    have e1 : (ls ++ [[]])[ls.length]? = some [] := by simp
    have e2 : (ls ++ [[]]).getD ls.length [] = [] := by rw [List.getD_eq_getElem?_getD, e1]; rfl
    rw [e2]
    have small : ∀ i m, (ls ++ [[]])[i]? = some m → (i < ls.length ∧ ls[i]? = some m) ∨ (i = ls.length ∧ m = []) := fun i m e => by
      by_cases z : i < ls.length
      · rw [List.getElem?_append_left z] at e
        exact .inl ⟨z, e⟩
      · have hi := (List.getElem?_eq_some_iff.mp e).1
        rw [List.length_append, List.length_singleton] at hi
        have : i = ls.length := by omega
        subst this
        rw [e1] at e
        exact .inr ⟨rfl, (Option.some.inj e).symm⟩
    have gD : ∀ i, i < ls.length → (ls ++ [[]]).getD i [] = ls.getD i [] := fun i hi => by
      rw [List.getD_eq_getElem?_getD, List.getD_eq_getElem?_getD, List.getElem?_append_left hi]
    refine key (ls ++ [[]]) ls.length [] e1 (fun m hm => ?_) (fun m hm => ?_) ?_ (fun x hx => by cases hx) (fun i m x e hx => ?_) (fun i m e z => ?_) (fun hp => ?_)
    · rcases List.mem_append.mp hm with hm | hm
      · exact h.up m hm
      · simp only [List.mem_singleton] at hm; subst hm; exact .nil
    · rcases List.mem_append.mp hm with hm | hm
      · exact h.pt m hm
      · simp only [List.mem_singleton] at hm; subst hm; exact List.nil_sublist _
    · simpa using h.pm
    · rcases small i m e with ⟨z, e⟩ | ⟨_, rfl⟩
      · refine ⟨(h.top i m x e hx).1, fun hi => ?_⟩
        obtain ⟨u, u1, u2, u3⟩ := (h.top i m x e hx).2 hi
        exact ⟨u, u1, by rw [gD _ (by omega)]; exact u2, u3⟩
      · cases hx
    · rcases small i m e with ⟨_, e⟩ | ⟨e, _⟩
      · exact h.ne m (List.mem_of_getElem? e)
      · exact (z e).elim
    · rw [gD _ (by omega)]
      exact laneAt_lt (by omega)
  · have hlt : laneAt ls w < ls.length := by omega
    rw [if_neg q]
    have e1 : ls[laneAt ls w]? = some (ls.getD (laneAt ls w) []) := by
      rw [List.getD_eq_getElem?_getD, List.getElem?_eq_getElem hlt]
      rfl
    refine key ls _ _ e1 h.up h.pt h.pm (fun x hx => ?_) h.top (fun i m e _ => h.ne m (List.mem_of_getElem? e)) (fun hp => laneAt_lt (by omega))
    have gm : ls.getD (laneAt ls w) [] ∈ ls := List.mem_of_getElem? e1
    have le := le_lastI (h.up _ gm) x hx
    have := laneAt_at hlt
    have hd := (h.pt _ gm).subset hx
    have : x ≠ w := fun z => hw (z ▸ hd)
    omega
theorem laneInv_run : ∀ (xs done : List Int) (s : List (List Int) × List (Int × Int)), LaneInv done s.1 s.2 → (done ++ xs).Nodup → LaneInv (done ++ xs) (xs.foldl laneStep s).1 (xs.foldl laneStep s).2
  | [], done, s, h, _ => by simpa using h
  | x :: xs, done, s, h, nd => by
    have hx : x ∉ done := fun z => by
      rw [List.nodup_append] at nd
      exact nd.2.2 x z x (List.mem_cons_self ..) rfl
    have := laneInv_run xs (done ++ [x]) (laneStep s x) (laneStep_inv h hx) (by simpa using nd)
    simpa using this
theorem laid_inv {row : List Int} (nd : row.Nodup) : LaneInv row (lanesM row) (aboveM row) := by
  have := laneInv_run row [] ([], []) ⟨fun _ h => (by cases h), fun _ h => (by cases h), fun _ h => (by cases h), .nil, fun i l w h => (by simp at h), Nat.le_refl _, fun _ _ => rfl⟩ (by simpa using nd)
  rw [List.nil_append] at this
  exact this
end DL

/-! F4: laid, fewest -/
namespace DL
open PySem L2
local macro_rules | `(tactic| walk_at "w") => `(tactic| conv => whnf)
local macro_rules | `(tactic| walk_at "side") => `(tactic| first | omega | decide | exact Nat.le_of_ble_eq_true rfl | exact ⟨by decide, by decide⟩ | exact Or.inl ⟨by omega, by omega⟩ | exact Or.inr ⟨by omega, by omega⟩ | (show (_ : Int) ≠ 0; omega) | exact ⟨by omega, by omega⟩ | (rw [List.length_map]; omega) | (simp only [List.length_map, List.length_append, List.length_cons, List.length_nil]; omega))
local macro_rules | `(tactic| walk_at "go") => `(tactic| ((repeat ((conv => whnf); first | (refine And.intro ?_ ?_; · walk_at "side") | refine And.intro (fun h => Bool.noConfusion (show false = true from h)) (fun _ => ?_) | refine And.intro (fun _ => ?_) (fun h => Bool.noConfusion (show true = false from h)))); (conv => whnf)))
local macro_rules | `(tactic| walk_at "if") => `(tactic| refine ⟨fun hc => ?_, fun hc => ?_⟩)
def dmap (m : List (Int × Int)) : List (Int × D) := m.map fun p => (p.1, D.int p.2)
def llD (ls : List (List Int)) : List (List D) := ls.map fun l => l.map D.int
theorem llD_lst (ls : List (List Int)) : (llD ls).map D.lst = ls.map dints := by
  unfold llD
  rw [List.map_map]
  rfl
theorem atI_neg1 {l : List Int} (h : l ≠ []) : atI (l.map D.int) (-1) = some (.int (lastI l)) := by
  obtain ⟨x, hx⟩ : ∃ x, l.getLast? = some x := ⟨_, List.getLast?_eq_some_getLast h⟩
  have e : l = l.dropLast ++ [lastI l] := by
    unfold lastI
    rw [List.getLastD_eq_getLast?, List.getLast?_eq_some_getLast h]
    exact (List.dropLast_concat_getLast h).symm
  rw [e, List.map_append, lastI_append]
  exact L2.atI_last _ _
theorem ixN_nat {n j : Nat} (hj : j < n) : ixN n (j : Int) = some j := by
  unfold ixN
  rw [if_pos (by omega), if_pos (by omega)]
  simp
theorem atI_ll {ls : List (List Int)} {i : Nat} (h : i < ls.length) : atI ((llD ls).map D.lst) (i : Int) = some (dints (ls.getD i [])) := by
  rw [llD_lst]
  refine atI_map (f := dints) (by omega) ?_
  rw [Int.toNat_natCast, List.getD_eq_getElem?_getD, List.getElem?_eq_getElem h]
  rfl
theorem LaneInv.few {done : List Int} {ls : List (List Int)} {ab : List (Int × Int)} (h : LaneInv done ls ab) : ls.length ≤ done.length := by
  have e : ls.flatten.length = done.length := h.pm.length_eq
  have : ∀ ls : List (List Int), (∀ l ∈ ls, l ≠ []) → ls.length ≤ ls.flatten.length := fun ls => by
    induction ls with
    | nil => intro _; exact Nat.le_refl _
    | cons l ls ih =>
      intro g
      have := ih fun m hm => g m (List.mem_cons_of_mem _ hm)
      have := List.length_pos_iff.mpr (g l (List.mem_cons_self ..))
      rw [List.flatten_cons, List.length_append, List.length_cons]
      omega
  rw [← e]
  exact this ls h.ne
def sp_laid : DSp := fun ds Q => ∃ row : List Int, ds = [dints row] ∧ row.Nodup ∧ row.length ≤ 100 ∧ Q (.tup [.lst ((lanesM row).map dints), .dct (dmap (aboveM row))])
def d_laid_1 : DT := (dAnd (dT (dOp oLt (dVar false 4) (dLen (dIv false 1)))) (dT (dOp oGt (dIx (dI (dIx (dIv false 1) (dVar false 4))) (dNeg (dC (.int 1)))) (dVar false 3))))
def d_laid_2 : DS := (dSet 4 (dOp oAdd (dVar false 4) (dC (.int 1))))
def d_laid_t1 : DS := (dJoin (dIfS (dT (dOp (oEq false) (dVar false 4) (dLen (dIv false 1)))) (dApp2Nil 1) dNext)
  (dJoin (dIfS (dT (dOp oGt (dVar false 4) (dC (.int 0)))) (dPut 2 (dVar false 3) (dFlat (dIx (dI (dIx (dIv false 1) (dOp oSub (dVar false 4) (dC (.int 1))))) (dNeg (dC (.int 1)))))) dNext)
  (dApp2 1 (dVar false 4) (dVar true 3))))
def d_laid_3 : DS := (dSeq (dSet 4 (dC (.int 0)))
  (dSeq (dWhile d_laid_1 d_laid_2)
  d_laid_t1))
def d_laid_t2 : DS := (dRet (dTup (dCons (dVar true 1) (dCons (dVar true 2) dNil))))
def d_laid : DS := (dSeq (dNew2 1)
  (dSeq (dNewK 2)
  (dSeq (dFor (dS (dVar true 0)) 3 d_laid_3)
  d_laid_t2)))
theorem ln_laid : ∀ ds Q, sp_laid ds Q → ds.length = 1 := by
  rintro ds Q ⟨r, rfl, _⟩
  rfl
theorem getD_mem {ls : List (List Int)} {i : Nat} (h : i < ls.length) : ls.getD i [] ∈ ls := by
  rw [List.getD_eq_getElem?_getD, List.getElem?_eq_getElem h]
  exact List.getElem_mem h
theorem laid_rest {P : DEnds} {row done : List Int} {ls : List (List Int)} {ab : List (Int × Int)} {w : Int} (h : LaneInv done ls ab) (hdl : done.length ≤ 100)
    (g : P.nx [.fz (dints row), .l2 (llD (laneStep (ls, ab) w).1), .dk (dmap (laneStep (ls, ab) w).2), .fz (.int w), .fz (.int (laneAt ls w : Nat))]) :
    d_laid_t1 P [.fz (dints row), .l2 (llD ls), .dk (dmap ab), .fz (.int w), .fz (.int (laneAt ls w : Nat))] := by
  have hf := h.few
  have hab := h.len
  have ha := laneAt_le ls w
  have llen : ∀ ls, (llD ls).length = ls.length := fun ls => by unfold llD; rw [List.length_map]
  refine ⟨fun ρ => ρ = [.fz (dints row), .l2 (llD (if laneAt ls w = ls.length then ls ++ [[]] else ls)), .dk (dmap ab), .fz (.int w), .fz (.int (laneAt ls w : Nat))], ?_, ?_⟩
  · walk_at "w"
    refine ⟨fun hc => ?_, fun hc => ?_⟩
    · rw [Bool.false_xor, decide_eq_true_iff, List.length_map, llen] at hc
      rw [if_pos (by omega)]
      walk_at "w"
      refine ⟨by rw [llen]; omega, ?_⟩
      unfold llD
      rw [List.map_append]
      rfl
    · rw [Bool.false_xor, decide_eq_false_iff_not, List.length_map, llen] at hc
      rw [if_neg (by omega)]
      rfl
  rintro ρ rfl
  have gD : ∀ i, i < ls.length → (if laneAt ls w = ls.length then ls ++ [[]] else ls).getD i [] = ls.getD i [] := fun i hi => by
    split
    · rw [List.getD_eq_getElem?_getD, List.getD_eq_getElem?_getD, List.getElem?_append_left hi]
    · rfl
  have len1 : laneAt ls w < (if laneAt ls w = ls.length then ls ++ [[]] else ls).length := by
    split
    · rw [List.length_append, List.length_singleton]; omega
    · omega
  have inl : ∀ x ∈ (if laneAt ls w = ls.length then ls ++ [[]] else ls), x.length ≤ 100 := fun x hx => by
    split at hx
    · rcases List.mem_append.mp hx with hx | hx
      · exact Nat.le_trans (h.pt x hx).length_le hdl
      · simp only [List.mem_singleton] at hx; subst hx; exact Nat.zero_le _
    · exact Nat.le_trans (h.pt x hx).length_le hdl
  have e2 : (laneStep (ls, ab) w) = ((if laneAt ls w = ls.length then ls ++ [[]] else ls).set (laneAt ls w) ((if laneAt ls w = ls.length then ls ++ [[]] else ls).getD (laneAt ls w) [] ++ [w]),
    if 0 < laneAt ls w then putI ab w (lastI ((if laneAt ls w = ls.length then ls ++ [[]] else ls).getD (laneAt ls w - 1) [])) else ab) := rfl
  rw [e2] at g
  refine ⟨fun ρ => ρ = [.fz (dints row), .l2 (llD (if laneAt ls w = ls.length then ls ++ [[]] else ls)), .dk (dmap (if 0 < laneAt ls w then putI ab w (lastI ((if laneAt ls w = ls.length then ls ++ [[]] else ls).getD (laneAt ls w - 1) [])) else ab)), .fz (.int w), .fz (.int (laneAt ls w : Nat))], ?_, ?_⟩
  · generalize (if laneAt ls w = ls.length then ls ++ [[]] else ls) = ls1 at *
    walk_at "w"
    refine ⟨fun hc => ?_, fun hc => ?_⟩
    · rw [decide_eq_true_iff] at hc
      have hp : 0 < laneAt ls w := by omega
      rw [if_pos hp]
      walk_at "w"
      rw [show ((laneAt ls w : Nat) : Int) - 1 = ((laneAt ls w - 1 : Nat) : Int) by omega]
      refine ⟨_, atI_ll (by omega), ?_⟩
      walk_at "w"
      have gm := getD_mem (show laneAt ls w - 1 < ls.length by omega)
      refine ⟨_, atI_neg1 (by rw [gD _ (by omega)]; exact h.ne _ gm), rfl, ?_⟩
      walk_at "w"
      refine ⟨by unfold dmap; rw [List.length_map]; omega, ?_⟩
      unfold dmap
      rw [← putI_map D.int]
      rfl
    · rw [decide_eq_false_iff_not] at hc
      rw [if_neg (by omega)]
      rfl
  rintro ρ rfl
  generalize (if laneAt ls w = ls.length then ls ++ [[]] else ls) = ls1 at *
  walk_at "w"
  refine ⟨laneAt ls w, (ls1.getD (laneAt ls w) []).map D.int, ixN_nat (by rw [llen]; exact len1), ?_, ?_⟩
  · unfold llD
    rw [List.getElem?_map, List.getD_eq_getElem?_getD, List.getElem?_eq_getElem len1]
    rfl
  walk_at "w"
  refine ⟨by rw [List.length_map]; have := inl _ (getD_mem len1); omega, ?_⟩
  have : llD (ls1.set (laneAt ls w) (ls1.getD (laneAt ls w) [] ++ [w])) = (llD ls1).set (laneAt ls w) ((ls1.getD (laneAt ls w) []).map D.int ++ [.int w]) := by
    unfold llD
    rw [List.map_set, List.map_append]
    rfl
  rw [this] at g
  exact g
theorem laid_loop {P : DEnds} {row : List Int} (nd : row.Nodup) (hl : row.length ≤ 100) : ∀ (xs done : List Int) (ls : List (List Int)) (ab : List (Int × Int)) (s3 s4 : Sl), done ++ xs = row → LaneInv done ls ab →
    (∀ s3 s4, P.nx [.fz (dints row), .l2 (llD (xs.foldl laneStep (ls, ab)).1), .dk (dmap (xs.foldl laneStep (ls, ab)).2), s3, s4]) →
    dForG d_laid_3 3 P (xs.map D.int) [.fz (dints row), .l2 (llD ls), .dk (dmap ab), s3, s4]
  | [], done, ls, ab, s3, s4, e, h, g => g s3 s4
  | w :: xs, done, ls, ab, s3, s4, e, h, g => by
    have hdl : done.length + xs.length < row.length := by
      rw [← e, List.length_append, List.length_cons]; omega
    have hf := h.few
    have hab := h.len
    have hw : w ∉ done := fun z => by
      rw [← e, List.nodup_append] at nd
      exact nd.2.2 w z w (List.mem_cons_self ..) rfl
    have ha := laneAt_le ls w
    have llen : (llD ls).length = ls.length := by unfold llD; rw [List.length_map]
    have fin := laid_loop (P := P) nd hl xs (done ++ [w]) (laneStep (ls, ab) w).1 (laneStep (ls, ab) w).2 (.fz (.int w)) (.fz (.int (laneAt ls w : Nat))) (by rw [← e]; simp) (laneStep_inv h hw) g
    walk_at "w"
    refine ⟨fun m ρ => ∃ at_ : Nat, ρ = [.fz (dints row), .l2 (llD ls), .dk (dmap ab), .fz (.int w), .fz (.int at_)] ∧ at_ ≤ laneAt ls w ∧ m = ls.length - at_, ⟨ls.length, 0, rfl, Nat.zero_le _, by omega⟩, ?_⟩
    rintro m ρ ⟨a, rfl, h1, rfl⟩
    walk_at "w"
    refine ⟨fun hc => ?_, fun hc => ?_⟩
    · rw [decide_eq_true_iff, List.length_map, llen] at hc
      have hal : a < ls.length := by omega
      walk_at "w"
      refine ⟨_, atI_ll hal, ?_⟩
      walk_at "w"
      have gm := getD_mem hal
      refine ⟨_, atI_neg1 (h.ne _ gm), ?_⟩
      walk_at "w"
      refine ⟨fun hd => ?_, fun hd => ?_⟩
      · rw [decide_eq_true_iff] at hd
        walk_at "w"
        have : a ≠ laneAt ls w := fun z => by
          have := laneAt_at (ls := ls) (w := w) (by omega)
          rw [← z] at this
          omega
        refine ⟨ls.length - (a + 1), by omega, a + 1, rfl, by omega, rfl⟩
      · rw [decide_eq_false_iff_not] at hd
        have : a = laneAt ls w := by
          by_cases z : a < laneAt ls w
          · have := laneAt_lt z; omega
          · omega
        subst this
        exact laid_rest (P := { P with nx := dForG d_laid_3 3 P (xs.map D.int), ct := dForG d_laid_3 3 P (xs.map D.int), bk := P.nx }) h (by omega) fin
    · rw [decide_eq_false_iff_not, List.length_map, llen] at hc
      have : a = laneAt ls w := by omega
      subst this
      refine ⟨fun h => Bool.noConfusion h, fun _ => ?_⟩
      exact laid_rest (P := { P with nx := dForG d_laid_3 3 P (xs.map D.int), ct := dForG d_laid_3 3 P (xs.map D.int), bk := P.nx }) h (by omega) fin
theorem th_laid : ∀ ds Q, sp_laid ds Q → d_laid (dEnds Q) (dstart 5 ds) := by
  rintro ds Q ⟨row, rfl, nd, hl, hq⟩
  walk_at "w"
  refine laid_loop nd hl row [] [] [] .un .un rfl ⟨fun _ h => (by cases h), fun _ h => (by cases h), fun _ h => (by cases h), .nil, fun i l w h => (by simp at h), Nat.le_refl _, fun _ _ => rfl⟩ (fun s3 s4 => ?_)
  walk_at "go"
  have : (llD (lanesM row)).map D.lst = (lanesM row).map dints := llD_lst _
  rw [← this] at hq
  exact hq
/-- the wall -/
structure WallOk (row wall : List Int) (n : Nat) : Prop where
  len : wall.length = n
  dn : wall.Pairwise (· > ·)
  pt : wall.Sublist row
def sp_fewest : DSp := fun ds Q => ∃ row : List Int, ds = [dints row] ∧ row.Nodup ∧ row.length ≤ 100 ∧ ∀ wall, WallOk row wall (lanesM row).length → Q (.tup [.lst ((lanesM row).map dints), dints wall])
def d_fewest_1 : DT := (dInD false (dVar false 5) 3)
def d_fewest_2 : DS := (dSeq (dSet 5 (dGet true 3 (dVar false 5)))
  (dSet 4 (dL (dCat (dLst (dCons (dVar true 5) dNil)) (dXv true 4)))))
def d_fewest : DS := (dSeq (dSet 1 (dCall sp_laid (dCons (dVar true 0) dNil)))
  (dSeq (dSet 2 (dIx (dIv true 1) (dC (.int 0))))
  (dSeq (dSet 3 (dIx (dIv true 1) (dC (.int 1))))
  (dSeq (dSet 4 (dL (dLst dNil)))
  (dJoin (dIfS (dT (dOp oGt (dLen (dIv false 2)) (dC (.int 0)))) (dSeq (dSet 5 (dIx (dI (dIx (dIv true 2) (dNeg (dC (.int 1))))) (dC (.int 0))))
  (dSeq (dSet 4 (dL (dLst (dCons (dVar true 5) dNil))))
  (dWhile d_fewest_1 d_fewest_2))) dNext)
  (dRet (dTup (dCons (dVar true 2) (dCons (dVar true 4) dNil)))))))))
theorem ln_fewest : ∀ ds Q, sp_fewest ds Q → ds.length = 1 := by
  rintro ds Q ⟨r, rfl, _⟩
  rfl
/-- the chain of greater wagons ahead -/
structure WallInv (row wall : List Int) (w : Int) (i : Nat) : Prop where
  hd : ∃ r, wall = w :: r
  lt : i < (lanesM row).length
  at_ : w ∈ (lanesM row).getD i []
  len : wall.length + i = (lanesM row).length
  dn : wall.Pairwise (· > ·)
  ix : wall.Pairwise (fun a b => row.idxOf a < row.idxOf b)
  mem : ∀ x ∈ wall, x ∈ row
theorem WallInv.done {row wall : List Int} {w : Int} (h : WallInv row wall w 0) : WallOk row wall (lanesM row).length :=
  ⟨h.len, h.dn, sublist_of_idx h.mem h.ix⟩
theorem getD_at {ls : List (List Int)} {i : Nat} (h : i < ls.length) : ls[i]? = some (ls.getD i []) := by
  rw [List.getD_eq_getElem?_getD, List.getElem?_eq_getElem h]
  rfl
theorem WallInv.zero {row wall : List Int} (nd : row.Nodup) {w : Int} {i : Nat} (h : WallInv row wall w i) (n : lookI (aboveM row) w = none) : i = 0 := by
  have inv := laid_inv nd
  by_cases z : i = 0
  · exact z
  · obtain ⟨u, hu, _⟩ := (inv.top i _ w (getD_at h.lt) h.at_).2 (by omega)
    rw [n] at hu
    cases hu
theorem WallInv.more {row wall : List Int} (nd : row.Nodup) {w u : Int} {i : Nat} (h : WallInv row wall w i) (hu : lookI (aboveM row) w = some u) : ∃ j, i = j + 1 ∧ WallInv row (u :: wall) u j := by
  have inv := laid_inv nd
  have tp := inv.top i _ w (getD_at h.lt) h.at_
  have ip : 0 < i := by
    by_cases z : i = 0
    · rw [tp.1 z] at hu; cases hu
    · omega
  obtain ⟨v, h1, h2, h3, h4⟩ := tp.2 ip
  rw [hu] at h1
  cases h1
  obtain ⟨r, rfl⟩ := h.hd
  have jl : i - 1 < (lanesM row).length := by have := h.lt; omega
  refine ⟨i - 1, by omega, ⟨_, rfl⟩, jl, h2, by have := h.len; simp only [List.length_cons] at this ⊢; omega, ?_, ?_, ?_⟩
  · refine List.pairwise_cons.mpr ⟨fun y hy => ?_, h.dn⟩
    rcases List.mem_cons.mp hy with rfl | hy
    · exact h3
    · have := (List.pairwise_cons.mp h.dn).1 y hy
      show u > y
      omega
  · refine List.pairwise_cons.mpr ⟨fun y hy => ?_, h.ix⟩
    rcases List.mem_cons.mp hy with rfl | hy
    · exact h4
    · have := (List.pairwise_cons.mp h.ix).1 y hy
      omega
  · intro x hx
    rcases List.mem_cons.mp hx with rfl | hx
    · exact (inv.pt _ (getD_mem jl)).subset h2
    · exact h.mem x hx
theorem lookI_dmap (m : List (Int × Int)) (k : Int) : lookI (dmap m) k = (lookI m k).map D.int := lookI_map D.int m k
theorem th_fewest : ∀ ds Q, sp_fewest ds Q → d_fewest (dEnds Q) (dstart 6 ds) := by
  rintro ds Q ⟨row, rfl, nd, hl, hq⟩
  have h := laid_inv nd
  have hf := h.few
  walk_at "w"
  refine ⟨row, rfl, nd, hl, ?_⟩
  walk_at "w"
  refine ⟨_, rfl, ?_⟩
  walk_at "w"
  refine ⟨_, rfl, ?_⟩
  walk_at "go"
  refine ⟨fun ρ => ∃ (wall : List Int) (s5 : Sl), WallOk row wall (lanesM row).length ∧ ρ = [.fz (dints row), .fz (.tup [.lst ((lanesM row).map dints), .dct (dmap (aboveM row))]), .fz (.lst ((lanesM row).map dints)), .fz (.dct (dmap (aboveM row))), .fz (dints wall), s5], ?_, ?_⟩
  · walk_at "w"
    refine ⟨fun hc => ?_, fun hc => ?_⟩
    · rw [decide_eq_true_iff, List.length_map] at hc
      have hne : lanesM row ≠ [] := fun z => by rw [z] at hc; exact absurd hc (by decide)
      have lm : (lanesM row).getLast hne ∈ lanesM row := List.getLast_mem hne
      obtain ⟨w, l, el⟩ : ∃ w l, (lanesM row).getLast hne = w :: l := by
        cases z : (lanesM row).getLast hne with
        | nil => exact (h.ne _ lm z).elim
        | cons w l => exact ⟨w, l, rfl⟩
      have e1 := (List.dropLast_concat_getLast hne).symm
      have egD : (lanesM row).getD ((lanesM row).length - 1) [] = w :: l := by
        rw [← el, List.getLast_eq_getElem, List.getD_eq_getElem?_getD, List.getElem?_eq_getElem (by omega)]
        rfl
      walk_at "w"
      refine ⟨dints (w :: l), ?_, ?_⟩
      · rw [← el]
        conv => lhs; arg 1; rw [e1]
        rw [List.map_append]
        exact L2.atI_last _ _
      walk_at "w"
      refine ⟨.int w, atI_map (f := D.int) (by decide) rfl, ?_⟩
      walk_at "go"
      have w0 : WallInv row [w] w ((lanesM row).length - 1) := ⟨⟨[], rfl⟩, by omega, by rw [egD]; exact List.mem_cons_self .., by simp only [List.length_singleton]; omega, List.pairwise_singleton _ _, List.pairwise_singleton _ _, fun x hx => by
        simp only [List.mem_singleton] at hx
        subst hx
        exact (h.pt _ lm).subset (by rw [el]; exact List.mem_cons_self ..)⟩
      refine ⟨fun m ρ => ∃ (wall : List Int) (w : Int), ρ = [.fz (dints row), .fz (.tup [.lst ((lanesM row).map dints), .dct (dmap (aboveM row))]), .fz (.lst ((lanesM row).map dints)), .fz (.dct (dmap (aboveM row))), .fz (dints wall), .fz (.int w)] ∧ WallInv row wall w m, ⟨_, [w], w, rfl, w0⟩, ?_⟩
      rintro m ρ ⟨wall, w, rfl, wi⟩
      walk_at "w"
      cases hu : lookI (aboveM row) w with
      | none =>
        rw [show lookI (dmap (aboveM row)) w = none by rw [lookI_dmap, hu]; rfl]
        walk_at "go"
        have := wi.zero nd hu
        subst this
        exact ⟨wall, _, wi.done, rfl⟩
      | some u =>
        have e : lookI (dmap (aboveM row)) w = some (.int u) := by rw [lookI_dmap, hu]; rfl
        rw [e]
        walk_at "go"
        refine ⟨.int u, e, ?_⟩
        obtain ⟨j, rfl, wj⟩ := wi.more nd hu
        have wl := wi.len
        walk_at "go"
        exact ⟨j, by omega, u :: wall, u, rfl, wj⟩
    · rw [decide_eq_false_iff_not, List.length_map] at hc
      exact ⟨[], .un, ⟨by rw [List.length_nil]; omega, .nil, List.nil_sublist _⟩, rfl⟩
  rintro ρ ⟨wall, s5, hw, rfl⟩
  walk_at "go"
  exact hq wall hw
end DL

/-! F5: looks at what is told -/
namespace DL
open PySem L2
local macro_rules | `(tactic| walk_at "w") => `(tactic| conv => whnf)
local macro_rules | `(tactic| walk_at "side") => `(tactic| first | omega | decide | exact Nat.le_of_ble_eq_true rfl | exact ⟨by decide, by decide⟩ | exact Or.inl ⟨by omega, by omega⟩ | exact Or.inr ⟨by omega, by omega⟩ | (show (_ : Int) ≠ 0; omega) | exact ⟨by omega, by omega⟩ | (rw [List.length_map]; omega) | (simp only [List.length_map, List.length_append, List.length_cons, List.length_nil]; omega))
local macro_rules | `(tactic| walk_at "go") => `(tactic| ((repeat ((conv => whnf); first | (refine And.intro ?_ ?_; · walk_at "side") | refine And.intro (fun h => Bool.noConfusion (show false = true from h)) (fun _ => ?_) | refine And.intro (fun _ => ?_) (fun h => Bool.noConfusion (show true = false from h)))); (conv => whnf)))
local macro_rules | `(tactic| walk_at "if") => `(tactic| refine ⟨fun hc => ?_, fun hc => ?_⟩)
def sp_law_whole : DSp := fun ds Q => ∃ k : Int, ds = [.int k] ∧ Q (.bl true)
def d_law_whole : DS := (dRet (dAndV (dIsi "int" (dVar false 0)) (dNotV (dIsi "bool" (dVar false 0)))))
theorem ln_law_whole : ∀ ds Q, sp_law_whole ds Q → ds.length = 1 := by
  rintro ds Q ⟨r, rfl, _⟩
  rfl
theorem th_law_whole : ∀ ds Q, sp_law_whole ds Q → d_law_whole (dEnds Q) (dstart 1 ds) := by
  rintro ds Q ⟨k, rfl, hq⟩
  walk_at "go"
  exact hq
def sp_law_wagons : DSp := fun ds Q => ∃ row : List Int, ds = [dints row] ∧ Q (.bl true)
def d_law_wagons_1 : DS := (dIfS (dNot (dT (dCall sp_law_whole (dCons (dVar false 1) dNil)))) (dRet (dC (.bl false))) dNext)
def d_law_wagons_t1 : DS := (dRet (dC (.bl true)))
def d_law_wagons : DS := (dSeq (dIfS (dNot (dT (dIsi "list" (dVar false 0)))) (dRet (dC (.bl false))) dNext)
  (dSeq (dFor (dS (dVar true 0)) 1 d_law_wagons_1)
  d_law_wagons_t1))
theorem ln_law_wagons : ∀ ds Q, sp_law_wagons ds Q → ds.length = 1 := by
  rintro ds Q ⟨r, rfl, _⟩
  rfl
theorem wagons_loop {P : DEnds} {row : List Int} (g : ∀ s, P.nx [.fz (dints row), s]) : ∀ (xs : List Int) (s1 : Sl), dForG d_law_wagons_1 1 P (xs.map D.int) [.fz (dints row), s1]
  | [], s1 => g s1
  | x :: xs, s1 => by
    walk_at "w"
    refine ⟨x, rfl, ?_⟩
    walk_at "go"
    exact wagons_loop g xs _
theorem th_law_wagons : ∀ ds Q, sp_law_wagons ds Q → d_law_wagons (dEnds Q) (dstart 2 ds) := by
  rintro ds Q ⟨row, rfl, hq⟩
  walk_at "go"
  exact wagons_loop (fun s => hq) row _
theorem nodup_len : ∀ {l r : List Int}, l.Nodup → (∀ x ∈ l, x ∈ r) → l.length ≤ r.length
  | [], _, _, _ => Nat.zero_le _
  | x :: l, r, nd, h => by
    obtain ⟨n1, n2⟩ := List.nodup_cons.mp nd
    have hx := h x (List.mem_cons_self ..)
    have := nodup_len (l := l) (r := r.erase x) n2 fun y hy => (List.mem_erase_of_ne (fun z : y = x => n1 (z ▸ hy))).mpr (h y (List.mem_cons_of_mem _ hy))
    rw [List.length_erase_of_mem hx] at this
    have := List.length_pos_of_mem hx
    rw [List.length_cons]
    omega
/-- rows apart: parts of the row, none empty, no wagon in two -/
structure Apart (rows : List (List Int)) (row : List Int) : Prop where
  ne : ∀ l ∈ rows, l ≠ []
  pt : ∀ l ∈ rows, l.Sublist row
  nd : rows.flatten.Nodup
def sp_law_parts_apart : DSp := fun ds Q => ∃ (rows : List (List Int)) (row : List Int) (bound : Int), ds = [.lst (rows.map dints), dints row, .int bound] ∧ row.length ≤ 100 ∧ rows.length ≤ 1000 ∧ (rows.length : Int) ≤ bound ∧ Apart rows row ∧ Q (.bl true)
def d_law_parts_apart_1 : DS := (dSeq (dIfS (dOr (dNot (dT (dCall sp_law_wagons (dCons (dVar false 4) dNil)))) (dOr (dT (dOp (oEq false) (dLen (dIv false 4)) (dC (.int 0)))) (dNot (dT (dCall sp_law_part (dCons (dVar false 4) (dCons (dVar false 1) dNil))))))) (dRet (dC (.bl false))) dNext)
  (dSet 3 (dL (dCat (dXv true 3) (dXv true 4)))))
def d_law_parts_apart_t1 : DS := (dRet (dOp (oEq false) (dLenSet (dSv false 3)) (dLen (dIv false 3))))
def d_law_parts_apart : DS := (dSeq (dIfS (dOr (dNot (dT (dIsi "list" (dVar false 0)))) (dT (dOp oGt (dLen (dIv false 0)) (dVar false 2)))) (dRet (dC (.bl false))) dNext)
  (dSeq (dSet 3 (dL (dLst dNil)))
  (dSeq (dFor (dS (dVar true 0)) 4 d_law_parts_apart_1)
  d_law_parts_apart_t1)))
theorem ln_law_parts_apart : ∀ ds Q, sp_law_parts_apart ds Q → ds.length = 3 := by
  rintro ds Q ⟨r, r2, b, rfl, _⟩
  rfl
theorem apart_loop {P : DEnds} {rows : List (List Int)} {row : List Int} {bound : Int} (hl : row.length ≤ 100) (pt : ∀ l ∈ rows, l.Sublist row) (ne : ∀ l ∈ rows, l ≠ []) (g : ∀ s, P.nx [.fz (.lst (rows.map dints)), .fz (dints row), .fz (.int bound), .fz (dints rows.flatten), s]) :
    ∀ (todo done : List (List Int)) (s4 : Sl), done ++ todo = rows → rows.length ≤ 1000 → dForG d_law_parts_apart_1 4 P (todo.map dints) [.fz (.lst (rows.map dints)), .fz (dints row), .fz (.int bound), .fz (dints done.flatten), s4]
  | [], done, s4, e, _ => by
    rw [List.append_nil] at e
    subst e
    exact g s4
  | l :: todo, done, s4, e, hr => by
    have lm : l ∈ rows := by rw [← e]; simp
    have sz : ∀ ls : List (List Int), (∀ l ∈ ls, l.length ≤ 100) → ls.flatten.length ≤ 100 * ls.length := fun ls => by
      induction ls with
      | nil => intro _; exact Nat.zero_le _
      | cons l ls ih =>
        intro h
        have := ih fun m hm => h m (List.mem_cons_of_mem _ hm)
        have := h l (List.mem_cons_self ..)
        rw [List.flatten_cons, List.length_append, List.length_cons]
        omega
    have ll := (pt l lm).length_le
    have dl := sz done fun m hm => Nat.le_trans (pt m (by rw [← e]; exact List.mem_append.mpr (.inl hm))).length_le hl
    have : done.length ≤ rows.length := by rw [← e, List.length_append]; omega
    walk_at "w"
    refine ⟨l, rfl, ?_⟩
    walk_at "w"
    refine ⟨fun h => Bool.noConfusion h, fun _ => ?_⟩
    walk_at "w"
    refine ⟨fun h => ?_, fun _ => ?_⟩
    · rw [Bool.false_xor, decide_eq_true_iff, List.length_map] at h
      have := List.length_pos_iff.mpr (ne l lm)
      omega
    walk_at "w"
    refine ⟨l, row, rfl, by omega, by omega, ?_⟩
    rw [subB_iff.mpr (pt l lm)]
    walk_at "w"
    refine ⟨fun h => Bool.noConfusion h, fun _ => ?_⟩
    walk_at "w"
    rw [List.length_map, List.length_map]
    refine ⟨by omega, ?_⟩
    have := apart_loop hl pt ne g todo (done ++ [l]) (.fz (dints l)) (by rw [← e]; simp) hr
    rw [List.flatten_append] at this
    simp only [List.flatten_cons, List.flatten_nil, List.append_nil, dints, List.map_append] at this
    exact this
theorem th_law_parts_apart : ∀ ds Q, sp_law_parts_apart ds Q → d_law_parts_apart (dEnds Q) (dstart 5 ds) := by
  rintro ds Q ⟨rows, row, bound, rfl, hl, hr, hb, ha, hq⟩
  walk_at "w"
  refine ⟨fun h => Bool.noConfusion h, fun _ => ?_⟩
  walk_at "w"
  refine ⟨fun h => ?_, fun _ => ?_⟩
  · rw [decide_eq_true_iff, List.length_map] at h
    omega
  walk_at "go"
  refine apart_loop hl ha.pt ha.ne (fun s => ?_) rows [] .un rfl hr
  walk_at "w"
  have : rows.flatten.length ≤ row.length := by
    have sub : ∀ x ∈ rows.flatten, x ∈ row := fun x hx => by
      obtain ⟨l, h1, h2⟩ := List.mem_flatten.mp hx
      exact (ha.pt l h1).subset h2
    exact nodup_len ha.nd sub
  refine ⟨rows.flatten, rfl, ha.nd, by omega, ?_⟩
  walk_at "w"
  rw [List.length_map]
  rw [show (false ^^ decide ((rows.flatten.length : Int) = rows.flatten.length)) = true by simp]
  exact hq
end DL

/-! M2: a yard's run; the plan for lanes: plain mathematics -/
namespace DL
open PySem L2
/-- true: in, to a lane; a deed: in or out, a track -/
abbrev Deed := Bool × Int
structure Yd where
  rest : List Int
  tracks : List (List Int)
  behind : List Int
/-- kinds: true: a lane -/
def stepM (kinds : List Bool) (s : Yd) (d : Deed) : Option Yd :=
  if 0 ≤ d.2 ∧ d.2 < kinds.length then
    let n := d.2.toNat
    let t := s.tracks.getD n []
    if d.1 = true then
      match s.rest with
      | [] => none
      | w :: r => some ⟨r, s.tracks.set n (t ++ [w]), s.behind⟩
    else
      match t with
      | [] => none
      | x :: xs => if kinds.getD n true = true then some ⟨s.rest, s.tracks.set n xs, s.behind ++ [x]⟩ else some ⟨s.rest, s.tracks.set n (x :: xs).dropLast, s.behind ++ [lastI (x :: xs)]⟩
  else none
def runY (kinds : List Bool) : List Deed → Yd → Option Yd
  | [], s => some s
  | d :: ds, s => (stepM kinds s d).bind (runY kinds ds)
def runM (kinds : List Bool) (row : List Int) (plan : List Deed) : Option (List Int) := (runY kinds plan ⟨row, List.replicate kinds.length [], []⟩).map (·.behind)
theorem runY_append (kinds : List Bool) : ∀ (a b : List Deed) (s : Yd), runY kinds (a ++ b) s = (runY kinds a s).bind (runY kinds b)
  | [], b, s => rfl
  | d :: a, b, s => by
    simp only [List.cons_append, runY]
    cases stepM kinds s d with
    | none => rfl
    | some t => exact runY_append kinds a b t

/-- a part of a row without doubles is what the row has of it -/
theorem filter_of_sublist : ∀ {row l : List Int}, row.Nodup → l.Sublist row → row.filter (fun x => decide (x ∈ l)) = l
  | [], l, _, h => by
    rw [List.sublist_nil.mp h]
    rfl
  | x :: row, l, nd, h => by
    obtain ⟨n1, n2⟩ := List.nodup_cons.mp nd
    cases h with
    | cons _ h =>
      have : x ∉ l := fun z => n1 (h.subset z)
      rw [List.filter_cons, if_neg (by simpa using this)]
      exact filter_of_sublist n2 h
    | @cons_cons l' _ _ h =>
      rw [List.filter_cons, if_pos (by simp)]
      congr 1
      have e := filter_of_sublist n2 h
      conv => rhs; rw [← e]
      apply List.filter_congr
      intro y hy
      have : y ≠ x := fun z => n1 (z ▸ hy)
      simp [this]
theorem isort_perm (row : List Int) : (isort row).Perm row := List.mergeSort_perm row _
theorem isort_le (row : List Int) : (isort row).Pairwise (· ≤ ·) := by
  have := List.pairwise_mergeSort (le := fun a b : Int => decide (a ≤ b)) (fun a b c h1 h2 => by simp at *; omega) (fun a b => by simp; omega) row
  exact this.imp fun h => by simpa using h
theorem isort_lt {row : List Int} (nd : row.Nodup) : (isort row).Pairwise (· < ·) := by
  have n2 : (isort row).Nodup := (isort_perm row).nodup_iff.mpr nd
  have := (isort_le row).and n2
  exact this.imp fun ⟨h1, h2⟩ => by omega
/-- the number of a wagon's lane -/
def laneOf (ls : List (List Int)) (w : Int) : Nat := ls.findIdx fun l => decide (w ∈ l)
structure LanesOk (ls : List (List Int)) (row : List Int) : Prop where
  pm : ls.flatten.Perm row
  pt : ∀ l ∈ ls, l.Sublist row
  up : ∀ l ∈ ls, l.Pairwise (· < ·)
theorem laneOf_lt {ls : List (List Int)} {w : Int} (h : w ∈ ls.flatten) : laneOf ls w < ls.length := by
  obtain ⟨l, h1, h2⟩ := List.mem_flatten.mp h
  exact List.findIdx_lt_length_of_exists ⟨l, h1, by simpa using h2⟩
theorem laneOf_mem {ls : List (List Int)} {w : Int} (h : w ∈ ls.flatten) : w ∈ ls.getD (laneOf ls w) [] := by
  have := List.findIdx_getElem (p := fun l => decide (w ∈ l)) (xs := ls) (w := laneOf_lt h)
  rw [List.getD_eq_getElem?_getD, List.getElem?_eq_getElem (laneOf_lt h)]
  exact of_decide_eq_true this
theorem laneOf_uniq : ∀ {ls : List (List Int)} {w : Int} {i : Nat} {l : List Int}, ls.flatten.Nodup → ls[i]? = some l → w ∈ l → laneOf ls w = i
  | [], _, _, _, _, h, _ => by simp at h
  | m :: ls, w, 0, l, nd, h, hw => by
    simp only [List.getElem?_cons_zero, Option.some.injEq] at h
    subst h
    unfold laneOf
    rw [List.findIdx_cons]
    simp [hw]
  | m :: ls, w, i + 1, l, nd, h, hw => by
    simp only [List.getElem?_cons_succ] at h
    rw [List.flatten_cons, List.nodup_append] at nd
    have wm : w ∉ m := fun z => nd.2.2 w z w (List.mem_flatten.mpr ⟨l, List.mem_of_getElem? h, hw⟩) rfl
    have ih := laneOf_uniq (ls := ls) nd.2.1 h hw
    unfold laneOf at ih ⊢
    rw [List.findIdx_cons]
    simp [wm, ih]
def lanePlan (ls : List (List Int)) (row : List Int) : List Deed := row.map (fun w => (true, (laneOf ls w : Int))) ++ (isort row).map fun w => (false, (laneOf ls w : Int))
theorem map_set_one {α β : Type} {ls : List α} {f g : α → β} {i : Nat} {x : α} (h : ls[i]? = some x) (o : ∀ j y, ls[j]? = some y → j ≠ i → f y = g y) : (ls.map f).set i (g x) = ls.map g := by
  apply List.ext_getElem?
  intro j
  by_cases e : i = j
  · subst e
    have hi := (List.getElem?_eq_some_iff.mp h).1
    rw [List.getElem?_set_self (by rw [List.length_map]; exact hi), List.getElem?_map, h]
    rfl
  · rw [List.getElem?_set_ne e, List.getElem?_map, List.getElem?_map]
    cases q : ls[j]? with
    | none => rfl
    | some y => rw [Option.map_some, Option.map_some, o j y q (fun z => e z.symm)]
theorem getD_map_at {ls : List (List Int)} {f : List Int → List Int} {i : Nat} {l : List Int} (h : ls[i]? = some l) : (ls.map f).getD i [] = f l := by
  rw [List.getD_eq_getElem?_getD, List.getElem?_map, h]
  rfl
theorem ins_run {ls : List (List Int)} {row : List Int} (nd : row.Nodup) (ok : LanesOk ls row) : ∀ (xs done : List Int), done ++ xs = row →
    runY (List.replicate ls.length true) (xs.map fun w => (true, (laneOf ls w : Int))) ⟨xs, ls.map fun l => done.filter fun x => decide (x ∈ l), []⟩ = some ⟨[], ls.map fun l => row.filter fun x => decide (x ∈ l), []⟩
  | [], done, e => by
    rw [List.append_nil] at e
    subst e
    rfl
  | w :: xs, done, e => by
    have fnd : ls.flatten.Nodup := ok.pm.nodup_iff.mpr nd
    have wf : w ∈ ls.flatten := ok.pm.mem_iff.mpr (by rw [← e]; simp)
    have hlt := laneOf_lt wf
    have hm := laneOf_mem wf
    have hat : ls[laneOf ls w]? = some (ls.getD (laneOf ls w) []) := by
      rw [List.getD_eq_getElem?_getD, List.getElem?_eq_getElem hlt]; rfl
    have step : stepM (List.replicate ls.length true) ⟨w :: xs, ls.map fun l => done.filter fun x => decide (x ∈ l), []⟩ (true, (laneOf ls w : Int)) = some ⟨xs, ls.map fun l => (done ++ [w]).filter fun x => decide (x ∈ l), []⟩ := by
      unfold stepM
      rw [if_pos ⟨by omega, by rw [List.length_replicate]; exact Int.ofNat_lt.mpr hlt⟩]
      simp only [if_true, Int.toNat_natCast]
      rw [getD_map_at (f := fun l => done.filter fun x => decide (x ∈ l)) hat]
      have e1 : done.filter (fun x => decide (x ∈ ls.getD (laneOf ls w) [])) ++ [w] = (done ++ [w]).filter fun x => decide (x ∈ ls.getD (laneOf ls w) []) := by
        rw [List.filter_append, List.filter_cons, if_pos (by simpa using hm)]
        rfl
      rw [e1]
      rw [map_set_one (f := fun l => done.filter fun x => decide (x ∈ l)) (g := fun l => (done ++ [w]).filter fun x => decide (x ∈ l)) hat]
      intro j y hj hne
      have : w ∉ y := fun z => hne (laneOf_uniq fnd hj z).symm
      rw [List.filter_append, List.filter_cons, if_neg (by simpa using this)]
      simp
    rw [List.map_cons]
    simp only [runY]
    rw [step]
    exact ins_run nd ok xs (done ++ [w]) (by rw [← e]; simp)
theorem head_least {l : List Int} {w : Int} (up : l.Pairwise (· < ·)) (hw : w ∈ l) (le : ∀ x ∈ l, w ≤ x) : ∃ r, l = w :: r := by
  cases l with
  | nil => cases hw
  | cons y r =>
    rcases List.mem_cons.mp hw with rfl | h
    · exact ⟨r, rfl⟩
    · have := (List.pairwise_cons.mp up).1 w h
      have := le y (List.mem_cons_self ..)
      omega
theorem outs_run {ls : List (List Int)} {row : List Int} (nd : row.Nodup) (ok : LanesOk ls row) : ∀ (xs out : List Int), xs.Pairwise (· < ·) → (∀ x ∈ xs, x ∈ row) →
    runY (List.replicate ls.length true) (xs.map fun w => (false, (laneOf ls w : Int))) ⟨[], ls.map fun l => l.filter fun x => decide (x ∈ xs), out⟩ = some ⟨[], ls.map fun l => l.filter fun x => decide (x ∈ ([] : List Int)), out ++ xs⟩
  | [], out, _, _ => by rw [List.append_nil]; rfl
  | w :: xs, out, up, hm => by
    obtain ⟨u1, u2⟩ := List.pairwise_cons.mp up
    have fnd : ls.flatten.Nodup := ok.pm.nodup_iff.mpr nd
    have wf : w ∈ ls.flatten := ok.pm.mem_iff.mpr (hm w (List.mem_cons_self ..))
    have hlt := laneOf_lt wf
    have hmw := laneOf_mem wf
    have hat : ls[laneOf ls w]? = some (ls.getD (laneOf ls w) []) := by
      rw [List.getD_eq_getElem?_getD, List.getElem?_eq_getElem hlt]; rfl
    have lm : ls.getD (laneOf ls w) [] ∈ ls := List.mem_of_getElem? hat
    have wx : w ∉ xs := fun z => by have := u1 w z; omega
    have e1 : (ls.getD (laneOf ls w) []).filter (fun x => decide (x ∈ w :: xs)) = w :: (ls.getD (laneOf ls w) []).filter fun x => decide (x ∈ xs) := by
      obtain ⟨r, hr⟩ := head_least (l := (ls.getD (laneOf ls w) []).filter (fun x => decide (x ∈ w :: xs))) (w := w) ((ok.up _ lm).sublist List.filter_sublist) (List.mem_filter.mpr ⟨hmw, by simp⟩) (fun x hx => by
        have := (List.mem_filter.mp hx).2
        simp only [List.mem_cons, decide_eq_true_iff] at this
        rcases this with rfl | h
        · omega
        · have := u1 x h; omega)
      have e2 : (ls.getD (laneOf ls w) []).filter (fun x => decide (x ∈ xs)) = ((ls.getD (laneOf ls w) []).filter (fun x => decide (x ∈ w :: xs))).filter fun x => decide (x ∈ xs) := by
        rw [List.filter_filter]
        apply List.filter_congr
        intro y _
        by_cases h : y ∈ xs <;> simp [h]
      have ndf : ((ls.getD (laneOf ls w) []).filter (fun x => decide (x ∈ w :: xs))).Pairwise (· < ·) := (ok.up _ lm).sublist List.filter_sublist
      have all : ∀ y ∈ r, y ∈ xs := fun y hy => by
        have hy2 : y ∈ (ls.getD (laneOf ls w) []).filter (fun x => decide (x ∈ w :: xs)) := by rw [hr]; exact List.mem_cons_of_mem _ hy
        have := (List.mem_filter.mp hy2).2
        simp only [List.mem_cons, decide_eq_true_iff] at this
        rcases this with rfl | h
        · rw [hr] at ndf
          have := (List.pairwise_cons.mp ndf).1 y hy
          omega
        · exact h
      rw [e2, hr, List.filter_cons, if_neg (by simpa using wx), List.filter_eq_self.mpr (fun y hy => by simpa using all y hy)]
    have step : stepM (List.replicate ls.length true) ⟨[], ls.map fun l => l.filter fun x => decide (x ∈ w :: xs), out⟩ (false, (laneOf ls w : Int)) = some ⟨[], ls.map fun l => l.filter fun x => decide (x ∈ xs), out ++ [w]⟩ := by
      unfold stepM
      rw [if_pos ⟨by omega, by rw [List.length_replicate]; exact Int.ofNat_lt.mpr hlt⟩]
      simp only [Bool.false_eq_true, if_false, Int.toNat_natCast]
      rw [getD_map_at (f := fun l => l.filter fun x => decide (x ∈ w :: xs)) hat, e1]
      simp only
      rw [if_pos (by rw [List.getD_eq_getElem?_getD, List.getElem?_replicate, if_pos hlt]; rfl)]
      rw [map_set_one (f := fun l => l.filter fun x => decide (x ∈ w :: xs)) (g := fun l => l.filter fun x => decide (x ∈ xs)) hat]
      intro j y hj hne
      have wy : w ∉ y := fun z => hne (laneOf_uniq fnd hj z).symm
      apply List.filter_congr
      intro z hz
      have : z ≠ w := fun q => wy (q ▸ hz)
      simp [this]
    rw [List.map_cons]
    simp only [runY]
    rw [step]
    have := outs_run nd ok xs (out ++ [w]) u2 (fun x hx => hm x (List.mem_cons_of_mem _ hx))
    rw [List.append_assoc] at this
    exact this
theorem lanePlan_runs {ls : List (List Int)} {row : List Int} (nd : row.Nodup) (ok : LanesOk ls row) : runM (List.replicate ls.length true) row (lanePlan ls row) = some (isort row) := by
  have h1 := ins_run nd ok row [] rfl
  have h2 := outs_run nd ok (isort row) [] (isort_lt nd) (fun x hx => (isort_perm row).mem_iff.mp hx)
  have e0 : (ls.map fun l => ([] : List Int).filter fun x => decide (x ∈ l)) = List.replicate ls.length [] := by
    rw [List.eq_replicate_iff]
    refine ⟨by rw [List.length_map], fun b hb => ?_⟩
    obtain ⟨l, _, rfl⟩ := List.mem_map.mp hb
    rfl
  have e1 : (ls.map fun l => row.filter fun x => decide (x ∈ l)) = ls.map fun l => l.filter fun x => decide (x ∈ isort row) := by
    apply List.map_congr_left
    intro l hl
    rw [filter_of_sublist nd (ok.pt l hl), List.filter_eq_self.mpr]
    intro x hx
    have := (ok.pt l hl).subset hx
    simpa using (isort_perm row).mem_iff.mpr this
  unfold runM lanePlan
  rw [runY_append, List.length_replicate, ← e0, h1]
  show ((runY _ _ _).map _) = _
  rw [e1, h2]
  rfl
end DL

/-! F6: lane_plan; a plan looked at and run by the law -/
namespace DL
open PySem L2
local macro_rules | `(tactic| walk_at "w") => `(tactic| conv => whnf)
local macro_rules | `(tactic| walk_at "side") => `(tactic| first | omega | decide | exact Nat.le_of_ble_eq_true rfl | exact ⟨by decide, by decide⟩ | exact Or.inl ⟨by omega, by omega⟩ | exact Or.inr ⟨by omega, by omega⟩ | (show (_ : Int) ≠ 0; omega) | exact ⟨by omega, by omega⟩ | (rw [List.length_map]; omega) | (simp only [List.length_map, List.length_append, List.length_cons, List.length_nil]; omega))
local macro_rules | `(tactic| walk_at "go") => `(tactic| ((repeat ((conv => whnf); first | (refine And.intro ?_ ?_; · walk_at "side") | refine And.intro (fun h => Bool.noConfusion (show false = true from h)) (fun _ => ?_) | refine And.intro (fun _ => ?_) (fun h => Bool.noConfusion (show true = false from h)))); (conv => whnf)))
local macro_rules | `(tactic| walk_at "if") => `(tactic| refine ⟨fun hc => ?_, fun hc => ?_⟩)
def dirS (b : Bool) : Str := if b = true then "in" else "out"
def deedD (d : Deed) : D := .tup [.str (dirS d.1), .int d.2]
def kindS (b : Bool) : Str := if b = true then "lane" else "stub"
def kindD (b : Bool) : D := .str (kindS b)
theorem lanes_ok {row : List Int} (nd : row.Nodup) : LanesOk (lanesM row) row :=
  have h := laid_inv nd
  ⟨h.pm, h.pt, h.up⟩
def sp_lane_plan : DSp := fun ds Q => ∃ row : List Int, ds = [dints row] ∧ row.Nodup ∧ row.length ≤ 63 ∧ Q (.lst ((lanePlan (lanesM row) row).map deedD))
def d_lane_plan_1 : DS := (dPut 2 (dVar false 4) (dVar true 3))
def d_lane_plan_2 : DS := (dFor (dS (dIx (dIv true 1) (dVar false 3))) 4 d_lane_plan_1)
def d_lane_plan_3 : DE := (dTup (dCons (dC (.str "in")) (dCons (dGet true 2 (dVar false 4)) dNil)))
def d_lane_plan_4 : DE := (dTup (dCons (dC (.str "out")) (dCons (dGet true 2 (dVar false 4)) dNil)))
def d_lane_plan_t1 : DS := (dSeq (dSet 5 (dL (dLc (dS (dVar true 0)) 4 dYes d_lane_plan_3)))
  (dRet (dL (dCat (dXv true 5) (dLc (dSorted (dSv false 0)) 4 dYes d_lane_plan_4)))))
def d_lane_plan : DS := (dSeq (dSet 1 (dIx (dI (dCall sp_laid (dCons (dVar true 0) dNil))) (dC (.int 0))))
  (dSeq (dNewK 2)
  (dSeq (dFor (dRng1 (dCons (dLen (dIv false 1)) dNil)) 3 d_lane_plan_2)
  d_lane_plan_t1)))
theorem ln_lane_plan : ∀ ds Q, sp_lane_plan ds Q → ds.length = 1 := by
  rintro ds Q ⟨r, rfl, _⟩
  rfl
theorem lane_in {P : DEnds} {row : List Int} {L : D} {k : Nat} : ∀ (xs : List Int) (m : List (Int × Int)) (s4 s5 : Sl), m.length + xs.length ≤ 1000 →
    (∀ m' s4, m'.length ≤ m.length + xs.length → (∀ w, lookI m' w = if w ∈ xs then some (k : Int) else lookI m w) → P.nx [.fz (dints row), .fz L, .dk (dmap m'), .fz (.int k), s4, s5]) →
    dForG d_lane_plan_1 4 P (xs.map D.int) [.fz (dints row), .fz L, .dk (dmap m), .fz (.int k), s4, s5]
  | [], m, s4, s5, _, g => g m s4 (by simp) (by simp)
  | x :: xs, m, s4, s5, h, g => by
    simp only [List.length_cons] at h
    have pl := putI_len m x (k : Int)
    walk_at "w"
    refine ⟨by unfold dmap; rw [List.length_map]; omega, ?_⟩
    have := lane_in xs (putI m x (k : Int)) (.fz (.int x)) s5 (by omega) (fun m' s4 h1 h2 => g m' s4 (by rw [List.length_cons]; omega) (fun w => by
      rw [h2, lookI_put]
      by_cases e1 : w ∈ xs
      · rw [if_pos e1, if_pos (List.mem_cons_of_mem _ e1)]
      · rw [if_neg e1]
        by_cases e2 : x = w
        · rw [if_pos e2, if_pos (by rw [e2]; exact List.mem_cons_self ..)]
        · rw [if_neg e2, if_neg (by
            intro z
            rcases List.mem_cons.mp z with z | z
            · exact e2 z.symm
            · exact e1 z)]))
    unfold dmap at this ⊢
    rw [← putI_map D.int] at this
    exact this
theorem lane_out {P : DEnds} {row : List Int} {ls : List (List Int)} (nd : ls.flatten.Nodup) (hl : ls.length ≤ 1000) (hf : ls.flatten.length ≤ 100)
    (g : ∀ m s3 s4 s5, (∀ w ∈ ls.flatten, lookI m w = some (laneOf ls w : Int)) → P.nx [.fz (dints row), .fz (.lst (ls.map dints)), .dk (dmap m), s3, s4, s5]) :
    ∀ (todo done : List (List Int)) (m : List (Int × Int)) (s3 s4 s5 : Sl), done ++ todo = ls → m.length ≤ done.flatten.length → (∀ w ∈ done.flatten, lookI m w = some (laneOf ls w : Int)) →
    dForG d_lane_plan_2 3 P (rangeD done.length ls.length) [.fz (dints row), .fz (.lst (ls.map dints)), .dk (dmap m), s3, s4, s5]
  | [], done, m, s3, s4, s5, e, hm, h => by
    rw [List.append_nil] at e
    subst e
    rw [rangeD_nil (by omega)]
    exact g m s3 s4 s5 h
  | l :: todo, done, m, s3, s4, s5, e, hm, h => by
    have len : ls.length = done.length + (todo.length + 1) := by rw [← e, List.length_append, List.length_cons]
    have fl : ls.flatten.length = done.flatten.length + (l.length + todo.flatten.length) := by rw [← e, List.flatten_append, List.length_append, List.flatten_cons, List.length_append]
    have at_ : ls[done.length]? = some l := by rw [← e]; simp
    rw [rangeD_cons (by omega)]
    walk_at "w"
    refine ⟨dints l, atI_map (f := dints) (by omega) (by rw [Int.toNat_natCast]; exact at_), ?_⟩
    refine lane_in l m s4 s5 (by omega) (fun m' s4 h1 h2 => ?_)
    have := lane_out (P := P) nd hl hf g todo (done ++ [l]) m' (.fz (.int done.length)) s4 s5 (by rw [← e]; simp) (by rw [List.flatten_append, List.length_append, List.flatten_cons, List.flatten_nil, List.append_nil]; omega) (fun w hw => by
      rw [h2]
      by_cases z : w ∈ l
      · rw [if_pos z, laneOf_uniq nd at_ z]
      · rw [if_neg z]
        refine h w ?_
        rw [List.flatten_append] at hw
        rcases List.mem_append.mp hw with hw | hw
        · exact hw
        · simp at hw; exact (z hw).elim)
    rw [List.length_append, List.length_singleton] at this
    exact this
theorem isort_length (row : List Int) : (isort row).length = row.length := (List.mergeSort_perm row _).length_eq
theorem th_lane_plan : ∀ ds Q, sp_lane_plan ds Q → d_lane_plan (dEnds Q) (dstart 6 ds) := by
  rintro ds Q ⟨row, rfl, nd, hl, hq⟩
  have h := laid_inv nd
  have hf := h.few
  have pl : (lanesM row).flatten.length = row.length := h.pm.length_eq
  walk_at "w"
  refine ⟨row, rfl, nd, by omega, ?_⟩
  walk_at "w"
  refine ⟨_, rfl, ?_⟩
  walk_at "w"
  rw [List.length_map]
  refine ⟨by omega, ?_⟩
  refine lane_out (ls := lanesM row) (h.pm.nodup_iff.mpr nd) (by omega) (by omega) (fun m s3 s4 s5 hm => ?_) (lanesM row) [] [] .un .un .un rfl (Nat.le_refl _) (fun w hw => by cases hw)
  have hm2 : ∀ w ∈ row, lookI m w = some (laneOf (lanesM row) w : Int) := fun w hw => hm w (h.pm.mem_iff.mpr hw)
  have look : ∀ w ∈ row, lookI (dmap m) w = some (.int (laneOf (lanesM row) w : Int)) := fun w hw => by rw [lookI_dmap, hm2 w hw]; rfl
  walk_at "w"
  refine ⟨by rw [List.length_map]; omega, ?_⟩
  refine dLcG_map (fun d => match d with | .int w => deedD (true, laneOf (lanesM row) w) | _ => .non) (fun x hx R hR => ?_) ?_
  · obtain ⟨w, hw, rfl⟩ := List.mem_map.mp hx
    walk_at "w"
    refine ⟨_, look w hw, ?_⟩
    walk_at "go"
    exact hR
  walk_at "w"
  refine ⟨row, rfl, by omega, by rw [List.length_map, isort_length]; omega, ?_⟩
  refine dLcG_map (fun d => match d with | .int w => deedD (false, laneOf (lanesM row) w) | _ => .non) (fun x hx R hR => ?_) ?_
  · obtain ⟨w, hw, rfl⟩ := List.mem_map.mp hx
    walk_at "w"
    refine ⟨_, look w ((isort_perm row).mem_iff.mp hw), ?_⟩
    walk_at "go"
    exact hR
  walk_at "w"
  have il := isort_length row
  simp only [List.length_map, List.nil_append]
  refine ⟨by omega, ?_⟩
  unfold lanePlan at hq
  rw [List.map_append] at hq
  simp only [List.map_map] at hq ⊢
  exact hq
/-! a plan looked at -/
def sp_law_deeds : DSp := fun ds Q => ∃ plan : List Deed, ds = [.lst (plan.map deedD)] ∧ Q (.bl true)
def d_law_deeds_1 : DS := (dSeq (dIfS (dOr (dNot (dT (dIsi "tuple" (dVar false 1)))) (dT (dOp (oEq true) (dLen (dIv false 1)) (dC (.int 2))))) (dRet (dC (.bl false))) dNext)
  (dSeq (dIfS (dOr (dNot (dT (dIsi "str" (dIx (dIv false 1) (dC (.int 0)))))) (dNot (dT (dCall sp_law_whole (dCons (dIx (dIv false 1) (dC (.int 1))) dNil))))) (dRet (dC (.bl false))) dNext)
  (dIfS (dAnd (dT (dOp (oEq true) (dIx (dIv false 1) (dC (.int 0))) (dC (.str "in")))) (dT (dOp (oEq true) (dIx (dIv false 1) (dC (.int 0))) (dC (.str "out"))))) (dRet (dC (.bl false))) dNext)))
def d_law_deeds_t1 : DS := (dRet (dC (.bl true)))
def d_law_deeds : DS := (dSeq (dIfS (dNot (dT (dIsi "list" (dVar false 0)))) (dRet (dC (.bl false))) dNext)
  (dSeq (dFor (dS (dVar true 0)) 1 d_law_deeds_1)
  d_law_deeds_t1))
theorem ln_law_deeds : ∀ ds Q, sp_law_deeds ds Q → ds.length = 1 := by
  rintro ds Q ⟨r, rfl, _⟩
  rfl
theorem dirS_in (b : Bool) : decide (dirS b = Str.ofString "in") = b := by cases b <;> decide +kernel
theorem dirS_out (b : Bool) : decide (dirS b = Str.ofString "out") = !b := by cases b <;> decide +kernel
theorem deeds_loop {P : DEnds} {L : D} (g : ∀ s, P.nx [.fz L, s]) : ∀ (xs : List Deed) (s1 : Sl), dForG d_law_deeds_1 1 P (xs.map deedD) [.fz L, s1]
  | [], s1 => g s1
  | (b, k) :: xs, s1 => by
    walk_at "go"
    refine ⟨_, rfl, ?_⟩
    walk_at "go"
    refine ⟨_, rfl, ?_⟩
    walk_at "w"
    refine ⟨k, rfl, ?_⟩
    walk_at "go"
    refine ⟨_, rfl, ?_⟩
    walk_at "go"
    cases b
    · walk_at "go"
      refine ⟨_, rfl, ?_⟩
      walk_at "go"
      exact deeds_loop g xs _
    · walk_at "go"
      exact deeds_loop g xs _
theorem th_law_deeds : ∀ ds Q, sp_law_deeds ds Q → d_law_deeds (dEnds Q) (dstart 2 ds) := by
  rintro ds Q ⟨plan, rfl, hq⟩
  walk_at "go"
  exact deeds_loop (fun s => hq) plan _
/-! a plan run by the law: one that is let by -/
def sp_law_run : DSp := fun ds Q => ∃ (kinds : List Bool) (row : List Int) (plan : List Deed) (out : List Int), ds = [.lst (kinds.map kindD), dints row, .lst (plan.map deedD)] ∧ kinds.length ≤ 1000 ∧ plan.length ≤ 1000 ∧ runM kinds row plan = some out ∧ Q (dints out)
def d_law_run_1 : DS := (dSeq (dIfS (dOr (dT (dOp oLt (dIx (dIv false 6) (dC (.int 1))) (dC (.int 0)))) (dT (dOp oGe (dIx (dIv false 6) (dC (.int 1))) (dLen (dIv false 0))))) (dRet (dC .non)) dNext)
  (dSeq (dIfS (dAnd (dT (dOp (oEq false) (dIx (dIv false 6) (dC (.int 0))) (dC (.str "in")))) (dT (dOp (oEq false) (dLen (dIv false 3)) (dC (.int 0))))) (dRet (dC .non)) dNext)
  (dSeq (dIfS (dAnd (dT (dOp (oEq false) (dIx (dIv false 6) (dC (.int 0))) (dC (.str "out")))) (dT (dOp (oEq false) (dLen (dI (dIx (dIv false 4) (dIx (dIv false 6) (dC (.int 1)))))) (dC (.int 0))))) (dRet (dC .non)) dNext)
  (dIfS (dT (dOp (oEq false) (dIx (dIv false 6) (dC (.int 0))) (dC (.str "in")))) (dApp2Pop 4 (dIx (dIv false 6) (dC (.int 1))) 3) (dIfS (dT (dOp (oEq false) (dIx (dIv false 0) (dIx (dIv false 6) (dC (.int 1)))) (dC (.str "lane")))) (dAppPop2At 5 4 (dIx (dIv false 6) (dC (.int 1))) (dC (.int 0))) (dAppPop2 5 4 (dIx (dIv false 6) (dC (.int 1)))))))))
def d_law_run_t1 : DS := (dRet (dVar true 5))
def d_law_run : DS := (dSeq (dSetL 3 (dIv true 1))
  (dSeq (dSet2 4 (dS (dVar true 0)))
  (dSeq (dSetL 5 (dLst dNil))
  (dSeq (dFor (dS (dVar true 2)) 6 d_law_run_1)
  d_law_run_t1))))
theorem ln_law_run : ∀ ds Q, sp_law_run ds Q → ds.length = 3 := by
  rintro ds Q ⟨_, _, _, _, rfl, _⟩
  rfl
theorem kind_lane (b : Bool) : decide (kindS b = Str.ofString "lane") = b := by cases b <;> decide +kernel
theorem llD_len (ls : List (List Int)) : (llD ls).length = ls.length := by unfold llD; rw [List.length_map]
theorem llD_get {ls : List (List Int)} {i : Nat} (h : i < ls.length) : (llD ls)[i]? = some ((ls.getD i []).map D.int) := by
  unfold llD
  rw [List.getElem?_map, List.getD_eq_getElem?_getD, List.getElem?_eq_getElem h]
  rfl
theorem llD_set (ls : List (List Int)) (i : Nat) (l : List Int) : llD (ls.set i l) = (llD ls).set i (l.map D.int) := by
  unfold llD
  rw [List.map_set]
def envR (kinds : List Bool) (row : List Int) (plan : List Deed) (s : Yd) (s6 s7 : Sl) : Env := [.fz (.lst (kinds.map kindD)), .fz (dints row), .fz (.lst (plan.map deedD)), .l1 (s.rest.map D.int), .l2 (llD s.tracks), .l1 (s.behind.map D.int), s6, s7]
theorem run_loop {P : DEnds} {kinds : List Bool} {row : List Int} {plan : List Deed} {s7 : Sl} {s' : Yd} (hk : kinds.length ≤ 1000) (g : ∀ s6, P.nx (envR kinds row plan s' s6 s7)) :
    ∀ (todo : List Deed) (s : Yd) (s6 : Sl) (n : Nat), runY kinds todo s = some s' → s.tracks.length = kinds.length → (∀ t ∈ s.tracks, t.length ≤ n) → s.behind.length ≤ n → n + todo.length ≤ 1000 →
    dForG d_law_run_1 6 P (todo.map deedD) (envR kinds row plan s s6 s7)
  | [], s, s6, n, e, _, _, _, _ => by
    cases e
    exact g s6
  | (b, k) :: todo, s, s6, n, e, ht, hb1, hb2, hn => by
    obtain ⟨rest, tracks, behind⟩ := s
    simp only [List.length_cons] at hn
    simp only at ht hb1 hb2
    simp only [runY] at e
    obtain ⟨t1, e1, e2⟩ := Option.bind_eq_some_iff.mp e
    unfold stepM at e1
    by_cases hr : 0 ≤ k ∧ k < kinds.length
    · rw [if_pos hr] at e1
      simp only at e1
      have hkn : k.toNat < tracks.length := by omega
      have tb := hb1 _ (getD_mem hkn)
      have ix := ixN_nat hkn
      rw [Int.toNat_of_nonneg hr.1] at ix
      have ta := atI_ll hkn
      rw [Int.toNat_of_nonneg hr.1] at ta
      have tg := llD_get hkn
      have setb : ∀ t : List Int, t.length ≤ n + 1 → ∀ t2 ∈ tracks.set k.toNat t, t2.length ≤ n + 1 := fun t h1 t2 h2 => by
        rcases List.mem_or_eq_of_mem_set h2 with h2 | rfl
        · have := hb1 t2 h2; omega
        · exact h1
      walk_at "go"
      refine ⟨_, rfl, ?_⟩
      walk_at "w"
      refine ⟨fun h => ?_, fun _ => ?_⟩
      · rw [decide_eq_true_iff] at h; omega
      walk_at "w"
      refine ⟨_, rfl, ?_⟩
      walk_at "w"
      refine ⟨fun h => ?_, fun _ => ?_⟩
      · rw [decide_eq_true_iff, List.length_map] at h; omega
      walk_at "go"
      refine ⟨_, rfl, ?_⟩
      cases b with
      | true =>
        rw [if_pos rfl] at e1
        cases rest with
        | nil => cases e1
        | cons w r =>
          cases e1
          have ih := run_loop (P := P) (s7 := s7) (row := row) (plan := plan) hk g todo ⟨r, tracks.set k.toNat (tracks.getD k.toNat [] ++ [w]), behind⟩ (.fz (deedD (true, k))) (n + 1) e2 (by rw [List.length_set]; exact ht) (setb _ (by rw [List.length_append, List.length_singleton]; omega)) (by show behind.length ≤ n + 1; omega) (by omega)
          walk_at "go"
          refine ⟨_, rfl, ?_⟩
          walk_at "go"
          refine ⟨_, rfl, ?_⟩
          walk_at "go"
          refine ⟨_, rfl, ?_⟩
          walk_at "w"
          refine ⟨k.toNat, _, by rw [llD_len]; exact ix, tg, by decide, ?_⟩
          walk_at "w"
          refine ⟨by rw [List.length_map]; omega, ?_⟩
          have e3 := llD_set tracks k.toNat (tracks.getD k.toNat [] ++ [w])
          rw [List.map_append] at e3
          unfold envR at ih
          simp only at ih
          rw [e3] at ih
          exact ih
      | false =>
        rw [if_neg (by decide)] at e1
        walk_at "go"
        refine ⟨_, rfl, ?_⟩
        walk_at "go"
        refine ⟨_, rfl, ?_⟩
        walk_at "w"
        refine ⟨_, ta, ?_⟩
        cases htr : tracks.getD k.toNat [] with
        | nil => rw [htr] at e1; cases e1
        | cons x xs =>
          rw [htr] at e1 tb tg
          simp only [List.length_cons] at tb
          walk_at "go"
          refine ⟨_, rfl, ?_⟩
          walk_at "go"
          refine ⟨_, rfl, ?_⟩
          walk_at "w"
          have kl : k.toNat < kinds.length := by omega
          refine ⟨kindD (kinds.getD k.toNat true), atI_map (f := kindD) hr.1 (by rw [List.getD_eq_getElem?_getD, List.getElem?_eq_getElem kl]; rfl), ?_⟩
          walk_at "w"
          rw [Bool.false_xor, kind_lane]
          by_cases kb : kinds.getD k.toNat true = true
          · simp only at e1
            rw [if_pos kb] at e1
            cases e1
            have ih := run_loop (P := P) (s7 := s7) (row := row) (plan := plan) hk g todo ⟨rest, tracks.set k.toNat xs, behind ++ [x]⟩ (.fz (deedD (false, k))) (n + 1) e2 (by rw [List.length_set]; exact ht) (setb _ (by omega)) (by show (behind ++ [x]).length ≤ n + 1; rw [List.length_append, List.length_singleton]; omega) (by omega)
            rw [kb]
            walk_at "go"
            refine ⟨_, rfl, ?_⟩
            walk_at "w"
            refine ⟨k.toNat, _, by rw [llD_len]; exact ix, tg, by decide, ?_⟩
            walk_at "w"
            refine ⟨0, .int x, by decide, by decide, rfl, rfl, by rw [List.length_map]; show behind.length < 1000000; omega, ?_⟩
            have e3 := llD_set tracks k.toNat xs
            unfold envR at ih
            simp only [List.map_append] at ih
            rw [e3] at ih
            exact ih
          · simp only at e1
            rw [if_neg kb] at e1
            cases e1
            have ih := run_loop (P := P) (s7 := s7) (row := row) (plan := plan) hk g todo ⟨rest, tracks.set k.toNat (x :: xs).dropLast, behind ++ [lastI (x :: xs)]⟩ (.fz (deedD (false, k))) (n + 1) e2 (by rw [List.length_set]; exact ht) (setb _ (by rw [List.length_dropLast, List.length_cons]; omega)) (by show (behind ++ [lastI (x :: xs)]).length ≤ n + 1; rw [List.length_append, List.length_singleton]; omega) (by omega)
            rw [Bool.not_eq_true] at kb
            rw [kb]
            walk_at "go"
            refine ⟨_, rfl, ?_⟩
            walk_at "w"
            refine ⟨k.toNat, _, .int (lastI (x :: xs)), by rw [llD_len]; exact ix, tg, by decide, ?_, by rw [List.length_map]; show behind.length < 1000000; omega, ?_⟩
            · rw [List.length_map, List.getElem?_map]
              have : (x :: xs)[(x :: xs).length - 1]? = some (lastI (x :: xs)) := by
                unfold lastI
                rw [List.getLastD_eq_getLast?, ← List.getLast?_eq_getElem?]
                cases h : (x :: xs).getLast? with
                | none => simp at h
                | some y => rfl
              rw [this]
              rfl
            have e3 := llD_set tracks k.toNat (x :: xs).dropLast
            unfold envR at ih
            simp only [List.map_append] at ih
            rw [e3, List.map_dropLast] at ih
            exact ih
    · rw [if_neg hr] at e1
      cases e1
theorem th_law_run : ∀ ds Q, sp_law_run ds Q → d_law_run (dEnds Q) (dstart 8 ds) := by
  rintro ds Q ⟨kinds, row, plan, out, rfl, hk, hp, hrun, hq⟩
  unfold runM at hrun
  obtain ⟨s', e1, e2⟩ := Option.map_eq_some_iff.mp hrun
  walk_at "w"
  refine ⟨by rw [List.length_map]; omega, ?_⟩
  walk_at "go"
  have := run_loop (P := ⟨d_law_run_t1 (dEnds Q), (dEnds Q).rt, (dEnds Q).bk, (dEnds Q).ct⟩) (row := row) (plan := plan) (s7 := .un) hk (fun s6 => by subst e2; exact hq) plan ⟨row, List.replicate kinds.length [], []⟩ .un 0 e1 (by rw [List.length_replicate]) (fun t ht => by rw [(List.mem_replicate.mp ht).2]; exact Nat.zero_le _) (Nat.le_refl _) (by omega)
  have e3 : llD (List.replicate kinds.length []) = List.replicate (kinds.map kindD).length [] := by
    unfold llD
    rw [List.map_replicate, List.length_map]
    rfl
  unfold envR at this
  simp only [e3] at this
  exact this
end DL

/-! F7: lesser_behind, crossing -/
namespace DL
open PySem L2
local macro_rules | `(tactic| walk_at "w") => `(tactic| conv => whnf)
local macro_rules | `(tactic| walk_at "side") => `(tactic| first | omega | decide | exact Nat.le_of_ble_eq_true rfl | exact ⟨by decide, by decide⟩ | exact Or.inl ⟨by omega, by omega⟩ | exact Or.inr ⟨by omega, by omega⟩ | (show (_ : Int) ≠ 0; omega) | exact ⟨by omega, by omega⟩ | (rw [List.length_map]; omega) | (simp only [List.length_map, List.length_append, List.length_cons, List.length_nil]; omega))
local macro_rules | `(tactic| walk_at "go") => `(tactic| ((repeat ((conv => whnf); first | (refine And.intro ?_ ?_; · walk_at "side") | refine And.intro (fun h => Bool.noConfusion (show false = true from h)) (fun _ => ?_) | refine And.intro (fun _ => ?_) (fun h => Bool.noConfusion (show true = false from h)))); (conv => whnf)))
local macro_rules | `(tactic| walk_at "if") => `(tactic| refine ⟨fun hc => ?_, fun hc => ?_⟩)
theorem rangeI_nil {lo hi : Int} (h : hi ≤ lo) : rangeI lo hi = [] := by
  unfold rangeI
  rw [show (hi - lo).toNat = 0 by omega]
  rfl
theorem rangeI_cons {lo hi : Int} (h : lo < hi) : rangeI lo hi = lo :: rangeI (lo + 1) hi := by
  unfold rangeI
  obtain ⟨n, hn⟩ : ∃ n, (hi - lo).toNat = n + 1 := ⟨(hi - lo).toNat - 1, by omega⟩
  rw [hn, show (hi - (lo + 1)).toNat = n by omega, List.range_succ_eq_map]
  simp only [List.map_cons, List.map_map]
  congr 1
  · omega
  · apply List.map_congr_left
    intro a _
    show lo + ((a + 1 : Nat) : Int) = lo + 1 + (a : Int)
    omega
theorem mem_rangeI {lo hi x : Int} : x ∈ rangeI lo hi ↔ lo ≤ x ∧ x < hi := by
  unfold rangeI
  rw [List.mem_map]
  constructor
  · rintro ⟨n, hn, rfl⟩
    have := List.mem_range.mp hn
    omega
  · rintro ⟨h1, h2⟩
    exact ⟨(x - lo).toNat, List.mem_range.mpr (by omega), by omega⟩
def optD : Option Int → D
  | none => .non
  | some x => .int x
/-- the foremost less than `w` from place `k` on -/
def lessM (row : List Int) (k : Int) (w : Int) : Option Int := (row.drop k.toNat).find? fun x => decide (x < w)
def sp_lesser_behind : DSp := fun ds Q => ∃ (row : List Int) (place w : Int), ds = [dints row, .int place, .int w] ∧ row.length ≤ 1000 ∧ 0 ≤ place ∧ place ≤ 1000 ∧ Q (optD (lessM row (place + 1) w))
def d_lesser_behind_1 : DS := (dIfS (dT (dOp oLt (dIx (dIv false 0) (dVar false 3)) (dVar false 2))) (dRet (dIx (dIv true 0) (dVar false 3))) dNext)
def d_lesser_behind_t1 : DS := (dRet (dC .non))
def d_lesser_behind : DS := (dSeq (dFor (dRng2 (dCons (dOp oAdd (dVar false 1) (dC (.int 1))) (dCons (dLen (dIv false 0)) dNil))) 3 d_lesser_behind_1)
  d_lesser_behind_t1)
theorem ln_lesser_behind : ∀ ds Q, sp_lesser_behind ds Q → ds.length = 3 := by
  rintro ds Q ⟨_, _, _, rfl, _⟩
  rfl
theorem lesser_loop {P : DEnds} {row : List Int} {place w : Int} (g1 : ∀ s, lessM row (place + 1) w = none → P.nx [.fz (dints row), .fz (.int place), .fz (.int w), s]) (g2 : ∀ x, lessM row (place + 1) w = some x → P.rt (.int x)) :
    ∀ (n : Nat) (k : Int) (s3 : Sl), 0 ≤ k → (row.length : Int) - k ≤ n → lessM row (place + 1) w = lessM row k w →
    dForG d_lesser_behind_1 3 P (rangeD k row.length) [.fz (dints row), .fz (.int place), .fz (.int w), s3]
  | 0, k, s3, k0, hn, e => by
    rw [rangeD_nil (by omega)]
    refine g1 s3 ?_
    rw [e]
    unfold lessM
    rw [List.drop_eq_nil_iff.mpr (by omega)]
    rfl
  | n + 1, k, s3, k0, hn, e => by
    by_cases hk : k < row.length
    · have e2 : lessM row k w = if row.getD k.toNat 0 < w then some (row.getD k.toNat 0) else lessM row (k + 1) w := by
        unfold lessM
        rw [drop_getD k0 hk, List.find?_cons]
        by_cases h : row.getD k.toNat 0 < w
        · rw [if_pos h, decide_eq_true h]
        · rw [if_neg h, decide_eq_false h]
      rw [rangeD_cons hk]
      walk_at "w"
      refine ⟨_, atI_getD k0 hk, ?_⟩
      walk_at "w"
      refine ⟨fun h => ?_, fun h => ?_⟩
      · rw [decide_eq_true_iff] at h
        rw [if_pos h] at e2
        walk_at "w"
        exact ⟨_, atI_getD k0 hk, g2 _ (e.trans e2)⟩
      · rw [decide_eq_false_iff_not] at h
        rw [if_neg h] at e2
        exact lesser_loop g1 g2 n (k + 1) _ (by omega) (by omega) (e.trans e2)
    · rw [rangeD_nil (by omega)]
      refine g1 s3 ?_
      rw [e]
      unfold lessM
      rw [List.drop_eq_nil_iff.mpr (by omega)]
      rfl
theorem th_lesser_behind : ∀ ds Q, sp_lesser_behind ds Q → d_lesser_behind (dEnds Q) (dstart 4 ds) := by
  rintro ds Q ⟨row, place, w, rfl, hl, h0, h1, hq⟩
  walk_at "w"
  rw [List.length_map]
  refine ⟨by omega, ?_⟩
  refine lesser_loop (place := place) (w := w) (fun s h => ?_) (fun x h => ?_) row.length (place + 1) .un (by omega) (by omega) rfl
  · rw [h] at hq; exact hq
  · rw [h] at hq; exact hq

/-- the wagons at two places cross -/
def crossB (row : List Int) (k j : Int) : Bool := decide (row.getD k.toNat 0 < row.getD j.toNat 0) && (lessM row (j + 1) (row.getD k.toNat 0)).isSome
def crossJ (row : List Int) (k j : Int) : List (Int × Int) := ((rangeI j row.length).filter (crossB row k)).map fun j => (row.getD k.toNat 0, row.getD j.toNat 0)
def crossK (row : List Int) (k : Int) : List (Int × Int) := (rangeI k row.length).flatMap fun k => crossJ row k (k + 1)
def crossM (row : List Int) : List (Int × Int) := crossK row 0
def pairD (p : Int × Int) : D := .tup [.int p.1, .int p.2]
theorem crossJ_nil {row : List Int} {k j : Int} (h : (row.length : Int) ≤ j) : crossJ row k j = [] := by
  unfold crossJ
  rw [rangeI_nil h]
  rfl
theorem crossJ_cons {row : List Int} {k j : Int} (h : j < row.length) : crossJ row k j = (if crossB row k j = true then [(row.getD k.toNat 0, row.getD j.toNat 0)] else []) ++ crossJ row k (j + 1) := by
  unfold crossJ
  rw [rangeI_cons h, List.filter_cons]
  split <;> rfl
theorem crossK_nil {row : List Int} {k : Int} (h : (row.length : Int) ≤ k) : crossK row k = [] := by
  unfold crossK
  rw [rangeI_nil h]
  rfl
theorem crossK_cons {row : List Int} {k : Int} (h : k < row.length) : crossK row k = crossJ row k (k + 1) ++ crossK row (k + 1) := by
  unfold crossK
  rw [rangeI_cons h]
  rfl
theorem rangeI_len (lo hi : Int) : (rangeI lo hi).length = (hi - lo).toNat := by
  unfold rangeI
  rw [List.length_map, List.length_range]
theorem crossJ_len {row : List Int} {k j : Int} (h : 0 ≤ j) : (crossJ row k j).length ≤ row.length := by
  unfold crossJ
  rw [List.length_map]
  have := List.length_filter_le (crossB row k) (rangeI j row.length)
  rw [rangeI_len] at this
  omega
theorem crossK_len {row : List Int} : ∀ (n : Nat) (k : Int), 0 ≤ k → (row.length : Int) - k ≤ n → (crossK row k).length ≤ row.length * n
  | 0, k, h0, hn => by rw [crossK_nil (by omega)]; exact Nat.zero_le _
  | n + 1, k, h0, hn => by
    by_cases hk : k < row.length
    · rw [crossK_cons hk, List.length_append, Nat.mul_add, Nat.mul_one]
      have := crossK_len (row := row) n (k + 1) (by omega) (by omega)
      have := crossJ_len (row := row) (k := k) (j := k + 1) (by omega)
      omega
    · rw [crossK_nil (by omega)]
      exact Nat.zero_le _
def sp_crossing : DSp := fun ds Q => ∃ row : List Int, ds = [dints row] ∧ row.length ≤ 100 ∧ Q (.lst ((crossM row).map pairD))
def d_crossing_1 : DS := (dIfS (dAnd (dT (dOp oLt (dIx (dIv false 0) (dVar false 2)) (dIx (dIv false 0) (dVar false 3)))) (dT (dOp (oIsN true) (dCall sp_lesser_behind (dCons (dVar false 0) (dCons (dVar false 3) (dCons (dIx (dIv false 0) (dVar false 2)) dNil)))) (dC .non)))) (dApp 1 (dTup (dCons (dIx (dIv true 0) (dVar false 2)) (dCons (dIx (dIv true 0) (dVar false 3)) dNil)))) dNext)
def d_crossing_2 : DS := (dFor (dRng2 (dCons (dOp oAdd (dVar false 2) (dC (.int 1))) (dCons (dLen (dIv false 0)) dNil))) 3 d_crossing_1)
def d_crossing_t1 : DS := (dRet (dVar true 1))
def d_crossing : DS := (dSeq (dSetL 1 (dLst dNil))
  (dSeq (dFor (dRng1 (dCons (dLen (dIv false 0)) dNil)) 2 d_crossing_2)
  d_crossing_t1))
theorem ln_crossing : ∀ ds Q, sp_crossing ds Q → ds.length = 1 := by
  rintro ds Q ⟨_, rfl, _⟩
  rfl
theorem crossing_in {P : DEnds} {row : List Int} {k : Int} (k0 : 0 ≤ k) (hk : k < row.length) (hl : row.length ≤ 100) :
    ∀ (n : Nat) (j : Int) (ps : List (Int × Int)) (s3 : Sl), 0 ≤ j → (row.length : Int) - j ≤ n → ps.length + n ≤ 100000 → (∀ s3, P.nx [.fz (dints row), .l1 ((ps ++ crossJ row k j).map pairD), .fz (.int k), s3]) →
    dForG d_crossing_1 3 P (rangeD j row.length) [.fz (dints row), .l1 (ps.map pairD), .fz (.int k), s3]
  | 0, j, ps, s3, j0, hn, hp, g => by
    rw [rangeD_nil (by omega)]
    rw [crossJ_nil (by omega), List.append_nil] at g
    exact g s3
  | n + 1, j, ps, s3, j0, hn, hp, g => by
    by_cases hj : j < row.length
    · rw [rangeD_cons hj]
      rw [crossJ_cons hj] at g
      walk_at "w"
      refine ⟨_, atI_getD k0 hk, ?_⟩
      walk_at "w"
      refine ⟨_, atI_getD j0 hj, ?_⟩
      walk_at "w"
      refine ⟨fun h => ?_, fun h => ?_⟩
      · walk_at "w"
        refine ⟨_, atI_getD k0 hk, ?_⟩
        walk_at "w"
        refine ⟨row, j, _, rfl, by omega, j0, by omega, ?_⟩
        cases hm : lessM row (j + 1) (row.getD k.toNat 0) with
        | none =>
          have : crossB row k j = false := by unfold crossB; rw [hm]; simp
          rw [if_neg (by rw [this]; decide)] at g
          walk_at "go"
          exact crossing_in k0 hk hl n (j + 1) ps _ (by omega) (by omega) (by omega) g
        | some x =>
          have : crossB row k j = true := by unfold crossB; rw [hm, h]; rfl
          rw [if_pos this] at g
          walk_at "go"
          refine ⟨_, atI_getD k0 hk, ?_⟩
          walk_at "w"
          refine ⟨_, atI_getD j0 hj, ?_⟩
          walk_at "go"
          have := crossing_in (P := P) k0 hk hl n (j + 1) (ps ++ [(row.getD k.toNat 0, row.getD j.toNat 0)]) (.fz (.int j)) (by omega) (by omega) (by rw [List.length_append, List.length_singleton]; omega) (by simpa [List.append_assoc] using g)
          rw [List.map_append] at this
          exact this
      · have : crossB row k j = false := by unfold crossB; rw [h]; rfl
        rw [if_neg (by rw [this]; decide)] at g
        refine ⟨fun h => Bool.noConfusion h, fun _ => ?_⟩
        exact crossing_in k0 hk hl n (j + 1) ps _ (by omega) (by omega) (by omega) g
    · rw [rangeD_nil (by omega)]
      rw [crossJ_nil (by omega), List.append_nil] at g
      exact g s3
theorem crossing_out {P : DEnds} {row : List Int} (hl : row.length ≤ 100) :
    ∀ (n : Nat) (k : Int) (ps : List (Int × Int)) (s2 s3 : Sl), 0 ≤ k → (row.length : Int) - k ≤ n → ps.length + 100 * n ≤ 50000 → (∀ s2 s3, P.nx [.fz (dints row), .l1 ((ps ++ crossK row k).map pairD), s2, s3]) →
    dForG d_crossing_2 2 P (rangeD k row.length) [.fz (dints row), .l1 (ps.map pairD), s2, s3]
  | 0, k, ps, s2, s3, k0, hn, hp, g => by
    rw [rangeD_nil (by omega)]
    rw [crossK_nil (by omega), List.append_nil] at g
    exact g s2 s3
  | n + 1, k, ps, s2, s3, k0, hn, hp, g => by
    by_cases hk : k < row.length
    · rw [rangeD_cons hk]
      rw [crossK_cons hk] at g
      have cl := crossJ_len (row := row) (k := k) (j := k + 1) (by omega)
      walk_at "w"
      rw [List.length_map]
      refine ⟨by omega, ?_⟩
      refine crossing_in k0 hk hl row.length (k + 1) ps s3 (by omega) (by omega) (by omega) (fun s3 => ?_)
      exact crossing_out hl n (k + 1) (ps ++ crossJ row k (k + 1)) _ _ (by omega) (by omega) (by rw [List.length_append]; omega) (fun s2 s3 => by rw [List.append_assoc]; exact g s2 s3)
    · rw [rangeD_nil (by omega)]
      rw [crossK_nil (by omega), List.append_nil] at g
      exact g s2 s3
theorem th_crossing : ∀ ds Q, sp_crossing ds Q → d_crossing (dEnds Q) (dstart 4 ds) := by
  rintro ds Q ⟨row, rfl, hl, hq⟩
  walk_at "go"
  rw [List.length_map]
  refine crossing_out hl row.length 0 [] .un .un (by decide) (by omega) (by simp; omega) (fun s2 s3 => ?_)
  walk_at "w"
  exact hq
end DL

/-! M3: the greedy plan on stubs: plain mathematics -/
namespace DL
open PySem L2
local macro_rules | `(tactic| walk_at "w") => `(tactic| conv => whnf)
local macro_rules | `(tactic| walk_at "side") => `(tactic| first | omega | decide | exact Nat.le_of_ble_eq_true rfl | exact ⟨by decide, by decide⟩ | exact Or.inl ⟨by omega, by omega⟩ | exact Or.inr ⟨by omega, by omega⟩ | (show (_ : Int) ≠ 0; omega) | exact ⟨by omega, by omega⟩ | (rw [List.length_map]; omega) | (simp only [List.length_map, List.length_append, List.length_cons, List.length_nil]; omega))
local macro_rules | `(tactic| walk_at "go") => `(tactic| ((repeat ((conv => whnf); first | (refine And.intro ?_ ?_; · walk_at "side") | refine And.intro (fun h => Bool.noConfusion (show false = true from h)) (fun _ => ?_) | refine And.intro (fun _ => ?_) (fun h => Bool.noConfusion (show true = false from h)))); (conv => whnf)))
local macro_rules | `(tactic| walk_at "if") => `(tactic| refine ⟨fun hc => ?_, fun hc => ?_⟩)
/-- a pair of wagons is told to cross: ahead, behind, and a third one behind both that is less -/
def Cross (row : List Int) (a b : Int) : Prop := a < b ∧ ∃ c, c < a ∧ [a, b, c].Sublist row
/-- what stands on stub `i` -/
def onStub (f : Int → Int) (gone done : List Int) (i : Nat) : List Int := done.filter fun x => decide (f x = (i : Int)) && !decide (x ∈ gone)
def stubs (f : Int → Int) (n : Nat) (gone done : List Int) : List (List Int) := (List.range n).map (onStub f gone done)
structure StubInv (row : List Int) (f : Int → Int) (n : Nat) (done rest : List Int) (d : Nat) (plan : List Deed) : Prop where
  e : done ++ rest = row
  sub : ∀ x ∈ (isort row).take d, x ∈ done
  dl : d ≤ row.length
  up : ∀ x y, [x, y].Sublist done → x ∉ (isort row).take d → y ∉ (isort row).take d → x < y → Cross row x y
  run : runY (List.replicate n false) plan ⟨row, List.replicate n [], []⟩ = some ⟨rest, stubs f n ((isort row).take d) done, (isort row).take d⟩
  len : plan.length = done.length + d
theorem stubs_len {f : Int → Int} {n : Nat} {g d : List Int} : (stubs f n g d).length = n := by
  unfold stubs
  rw [List.length_map, List.length_range]
theorem stubs_at {f : Int → Int} {n : Nat} {g d : List Int} {i : Nat} (h : i < n) : (stubs f n g d)[i]? = some (onStub f g d i) := by
  unfold stubs
  rw [List.getElem?_map, List.getElem?_range h]
  rfl
theorem stubs_getD {f : Int → Int} {n : Nat} {g d : List Int} {i : Nat} (h : i < n) : (stubs f n g d).getD i [] = onStub f g d i := by
  rw [List.getD_eq_getElem?_getD, stubs_at h]
  rfl
theorem stub_start {row : List Int} {f : Int → Int} {n : Nat} : StubInv row f n [] row 0 [] := by
  refine ⟨rfl, fun x hx => by simp at hx, Nat.zero_le _, fun x y h => by simp at h, ?_, rfl⟩
  show some _ = some _
  congr 2
  unfold stubs
  symm
  rw [List.eq_replicate_iff]
  refine ⟨by rw [List.length_map, List.length_range], fun b hb => ?_⟩
  obtain ⟨i, _, rfl⟩ := List.mem_map.mp hb
  rfl
theorem runY_snoc {kinds : List Bool} {plan : List Deed} {d : Deed} {s t u : Yd} (h : runY kinds plan s = some t) (h2 : stepM kinds t d = some u) : runY kinds (plan ++ [d]) s = some u := by
  rw [runY_append, h]
  show runY kinds [d] t = some u
  simp only [runY, h2]
  rfl
theorem sub2_snoc {x y w : Int} {l : List Int} (h : [x, y].Sublist (l ++ [w])) : [x, y].Sublist l ∨ (x ∈ l ∧ y = w) := by
  rw [List.sublist_append_iff] at h
  obtain ⟨l1, l2, e, h1, h2⟩ := h
  cases l2 with
  | nil => rw [List.append_nil] at e; subst e; exact .inl h1
  | cons z l2 =>
    have h3 : z = w ∧ l2 = [] := by
      cases h2 with
      | cons _ h => cases h
      | cons_cons _ h => exact ⟨rfl, List.sublist_nil.mp h⟩
    obtain ⟨rfl, rfl⟩ := h3
    have : l1 = [x] ∧ y = z := by
      have : l1 ++ [z] = [x] ++ [y] := e.symm
      have := List.append_inj' this rfl
      exact ⟨this.1, by simpa using this.2.symm⟩
    rw [this.1] at h1
    exact .inr ⟨by simpa using h1, this.2⟩
/-- a wagon enters its stub -/
theorem StubInv.enter {row : List Int} {f : Int → Int} {n : Nat} {done rest : List Int} {w : Int} {d : Nat} {plan : List Deed} (nd : row.Nodup) (hf : ∀ w ∈ row, 0 ≤ f w ∧ f w < n)
    (h : StubInv row f n done (w :: rest) d plan) (stop : ∀ x, (isort row)[d]? = some x → x ∉ done) : StubInv row f n (done ++ [w]) rest d (plan ++ [(true, f w)]) := by
  have he := h.e
  have wr : w ∈ row := by rw [← he]; simp
  have wd : w ∉ done := fun z => by
    rw [← he, List.nodup_append] at nd
    exact nd.2.2 w z w (List.mem_cons_self ..) rfl
  have wg : w ∉ (isort row).take d := fun z => wd (h.sub w z)
  obtain ⟨f0, f1⟩ := hf w wr
  refine ⟨by rw [← he]; simp, fun x hx => List.mem_append.mpr (.inl (h.sub x hx)), h.dl, fun x y hs hx hy hlt => ?_, ?_, by rw [List.length_append, List.length_append, h.len]; simp; omega⟩
  · rcases sub2_snoc hs with hs | ⟨xd, rfl⟩
    · exact h.up x y hs hx hy hlt
    · have xr : x ∈ row := by rw [← he]; simp [xd]
      have xi : x ∈ isort row := (isort_perm row).mem_iff.mpr xr
      rw [← List.take_append_drop d (isort row)] at xi
      have xdr : x ∈ (isort row).drop d := (List.mem_append.mp xi).resolve_left hx
      cases hdr : (isort row).drop d with
      | nil => rw [hdr] at xdr; cases xdr
      | cons m r =>
        have hm : (isort row)[d]? = some m := by
          have := congrArg List.head? hdr
          rw [List.head?_drop] at this
          exact this
        have md := stop m hm
        have hlt2 := (isort_lt nd).sublist (List.drop_sublist d _)
        rw [hdr] at hlt2 xdr
        have xm : x ≠ m := fun z => md (z ▸ xd)
        have mx : m < x := (List.pairwise_cons.mp hlt2).1 x ((List.mem_cons.mp xdr).resolve_left xm)
        have mr : m ∈ row := (isort_perm row).mem_iff.mp (List.mem_of_getElem? hm)
        have mrest : m ∈ rest := by
          rw [← he] at mr
          rcases List.mem_append.mp mr with q | q
          · exact (md q).elim
          · rcases List.mem_cons.mp q with q | q
            · omega
            · exact q
        refine ⟨hlt, m, mx, ?_⟩
        rw [← he]
        have s1 : [x].Sublist done := by simpa using xd
        have s2 : [y, m].Sublist (y :: rest) := List.Sublist.cons_cons y (by simpa using mrest)
        exact s1.append s2
  · refine runY_snoc h.run ?_
    have fi : (f w).toNat < n := by omega
    unfold stepM
    rw [if_pos ⟨f0, by rw [List.length_replicate]; exact f1⟩]
    simp only [if_true]
    congr 2
    apply List.ext_getElem?
    intro j
    by_cases hj : j < n
    · rw [stubs_at hj, List.getElem?_set, stubs_len, stubs_getD fi]
      by_cases e : (f w).toNat = j
      · subst e
        rw [if_pos rfl, if_pos fi]
        unfold onStub
        rw [List.filter_append, List.filter_cons, if_pos (by simp only [Bool.and_eq_true, decide_eq_true_iff, Bool.not_eq_true', decide_eq_false_iff_not]; exact ⟨by omega, wg⟩)]
        rfl
      · rw [if_neg e, stubs_at hj]
        unfold onStub
        rw [List.filter_append, List.filter_cons, if_neg (by simp only [Bool.and_eq_true, decide_eq_true_iff, Bool.not_eq_true', decide_eq_false_iff_not]; exact fun z => e (by omega))]
        simp
    · rw [List.getElem?_eq_none (by rw [List.length_set, stubs_len]; omega), List.getElem?_eq_none (by rw [stubs_len]; omega)]
/-- a list that ends in `x`, where nothing stands behind `x` -/
theorem last_of {x : Int} : ∀ {l : List Int}, l.Nodup → x ∈ l → (∀ y, ¬ [x, y].Sublist l) → ∃ r, l = r ++ [x]
  | [], _, h, _ => by cases h
  | z :: l, nd, h, no => by
    by_cases e : x = z
    · subst e
      cases l with
      | nil => exact ⟨[], rfl⟩
      | cons y l => exact (no y (List.Sublist.cons_cons _ (List.Sublist.cons_cons _ (List.nil_sublist _)))).elim
    · obtain ⟨r, hr⟩ := last_of (List.nodup_cons.mp nd).2 ((List.mem_cons.mp h).resolve_left e) (fun y hy => no y (hy.cons _))
      exact ⟨z :: r, by rw [hr]; rfl⟩
/-- the next one to leave leaves -/
theorem StubInv.leave {row : List Int} {f : Int → Int} {n : Nat} {done rest : List Int} {x : Int} {d : Nat} {plan : List Deed} (nd : row.Nodup) (hf : ∀ w ∈ row, 0 ≤ f w ∧ f w < n) (ok : ∀ a b, Cross row a b → f a ≠ f b)
    (h : StubInv row f n done rest d plan) (hx : (isort row)[d]? = some x) (xd : x ∈ done) : StubInv row f n done rest (d + 1) (plan ++ [(false, f x)]) := by
  have he := h.e
  have il := isort_length row
  have hd : d < (isort row).length := by
    by_cases z : d < (isort row).length
    · exact z
    · rw [List.getElem?_eq_none (by omega)] at hx; cases hx
  have tk : (isort row).take (d + 1) = (isort row).take d ++ [x] := by
    rw [List.take_add_one, hx]
    rfl
  have dn : done.Nodup := by rw [← he, List.nodup_append] at nd; exact nd.1
  have lt := isort_lt nd
  have xg : x ∉ (isort row).take d := fun z => by
    have : (isort row).Nodup := (isort_perm row).nodup_iff.mpr nd
    rw [← List.take_append_drop (d + 1) (isort row), tk, List.append_assoc, List.nodup_append] at this
    exact this.2.2 x z x (by simp) rfl
  have xr : x ∈ row := by rw [← he]; simp [xd]
  obtain ⟨f0, f1⟩ := hf x xr
  have fi : (f x).toNat < n := by omega
  have xon : x ∈ onStub f ((isort row).take d) done (f x).toNat := by
    unfold onStub
    rw [List.mem_filter]
    refine ⟨xd, ?_⟩
    simp only [Bool.and_eq_true, decide_eq_true_iff, Bool.not_eq_true', decide_eq_false_iff_not]
    exact ⟨by omega, xg⟩
  have least : ∀ y ∈ row, y ∉ (isort row).take d → x ≤ y := fun y hy hn => by
    have hy2 : y ∈ isort row := (isort_perm row).mem_iff.mpr hy
    rw [← List.take_append_drop d (isort row)] at hy2
    have hdr : (isort row).drop d = x :: (isort row).drop (d + 1) := by
      rw [List.getElem?_eq_getElem hd] at hx
      rw [List.drop_eq_getElem_cons hd]
      congr 1
      exact Option.some.inj hx
    have hy3 := (List.mem_append.mp hy2).resolve_left hn
    have lt2 := lt.sublist (List.drop_sublist d _)
    rw [hdr] at hy3 lt2
    rcases List.mem_cons.mp hy3 with rfl | hy3
    · omega
    · have := (List.pairwise_cons.mp lt2).1 y hy3
      omega
  obtain ⟨r, hr⟩ : ∃ r, onStub f ((isort row).take d) done (f x).toNat = r ++ [x] := last_of (dn.sublist List.filter_sublist) xon (fun y hs => by
    unfold onStub at hs
    have hy := hs.subset (show y ∈ [x, y] by simp)
    rw [List.mem_filter] at hy
    simp only [Bool.and_eq_true, decide_eq_true_iff, Bool.not_eq_true', decide_eq_false_iff_not] at hy
    have s2 := hs.trans List.filter_sublist
    have ne : x ≠ y := fun z => by
      subst z
      have := hs.nodup (dn.sublist List.filter_sublist)
      simp at this
    have yr : y ∈ row := by rw [← he]; simp [hy.1]
    have := least y yr hy.2.2
    exact ok x y (h.up x y s2 xg hy.2.2 (by omega)) (by omega))
  refine ⟨he, fun z hz => ?_, by omega, fun a b hs ha hb => h.up a b hs (fun z => ha (by rw [tk]; simp [z])) (fun z => hb (by rw [tk]; simp [z])), ?_, by rw [List.length_append, h.len]; rfl⟩
  · rw [tk] at hz
    rcases List.mem_append.mp hz with hz | hz
    · exact h.sub z hz
    · rw [List.mem_singleton.mp hz]; exact xd
  · refine runY_snoc h.run ?_
    unfold stepM
    rw [if_pos ⟨f0, by rw [List.length_replicate]; exact f1⟩]
    simp only
    rw [if_neg (by decide), stubs_getD fi, hr]
    obtain ⟨y, ys, ey⟩ : ∃ y ys, r ++ [x] = y :: ys := by cases r with | nil => exact ⟨x, [], rfl⟩ | cons y ys => exact ⟨y, ys ++ [x], rfl⟩
    rw [ey]
    simp only
    rw [← ey, show (List.replicate n false).getD (f x).toNat true = false by rw [List.getD_eq_getElem?_getD, List.getElem?_replicate, if_pos fi]; rfl, if_neg (by decide), lastI_append, tk, List.dropLast_concat]
    congr 2
    apply List.ext_getElem?
    intro j
    by_cases hj : j < n
    · rw [stubs_at hj, List.getElem?_set, stubs_len]
      by_cases e : (f x).toNat = j
      · subst e
        rw [if_pos rfl, if_pos fi]
        have e1 : onStub f ((isort row).take d ++ [x]) done (f x).toNat = (onStub f ((isort row).take d) done (f x).toNat).filter fun y => decide (y ≠ x) := by
          unfold onStub
          rw [List.filter_filter]
          apply List.filter_congr
          intro y _
          simp only [List.mem_append, List.mem_singleton]
          by_cases z1 : y ∈ (isort row).take d
          · simp [z1]
          · by_cases z2 : y = x
            · simp [z1, z2]
            · simp [z1, z2]
        rw [e1, hr, List.filter_append]
        have rn : (r ++ [x]).Nodup := by rw [← hr]; exact dn.sublist List.filter_sublist
        rw [List.nodup_append] at rn
        have : r.filter (fun y => decide (y ≠ x)) = r := List.filter_eq_self.mpr fun y hy => by
          have := rn.2.2 y hy x (by simp)
          simpa using this
        rw [this]
        simp
      · rw [if_neg e, stubs_at hj]
        congr 1
        unfold onStub
        apply List.filter_congr
        intro y _
        simp only [List.mem_append, List.mem_singleton]
        by_cases z2 : y = x
        · subst z2
          have : ¬ f y = (j : Int) := fun z => e (by omega)
          simp [this]
        · simp [z2]
    · rw [List.getElem?_eq_none (by rw [List.length_set, stubs_len]; omega), List.getElem?_eq_none (by rw [stubs_len]; omega)]
/-- all have entered, none can leave: all have left -/
theorem StubInv.done_ {row : List Int} {f : Int → Int} {n : Nat} {done : List Int} {d : Nat} {plan : List Deed} (h : StubInv row f n done [] d plan) (stop : ∀ x, (isort row)[d]? = some x → x ∉ done) :
    runM (List.replicate n false) row plan = some (isort row) ∧ plan.length = 2 * row.length := by
  have he := h.e
  rw [List.append_nil] at he
  subst he
  have il := isort_length done
  have dl := h.dl
  have : d = done.length := by
    by_cases z : d < (isort done).length
    · have := stop _ (List.getElem?_eq_getElem z)
      exact (this ((isort_perm done).mem_iff.mp (List.getElem_mem z))).elim
    · omega
  have tk : (isort done).take d = isort done := List.take_of_length_le (by omega)
  have hr := h.run
  rw [tk] at hr
  refine ⟨?_, by have := h.len; omega⟩
  unfold runM
  rw [List.length_replicate, hr]
  rfl
end DL

/-! F8: stub_plan, one_stub -/
namespace DL
open PySem L2
local macro_rules | `(tactic| walk_at "w") => `(tactic| conv => whnf)
local macro_rules | `(tactic| walk_at "side") => `(tactic| first | omega | decide | exact Nat.le_of_ble_eq_true rfl | exact ⟨by decide, by decide⟩ | exact Or.inl ⟨by omega, by omega⟩ | exact Or.inr ⟨by omega, by omega⟩ | (show (_ : Int) ≠ 0; omega) | exact ⟨by omega, by omega⟩ | (rw [List.length_map]; omega) | (simp only [List.length_map, List.length_append, List.length_cons, List.length_nil]; omega))
local macro_rules | `(tactic| walk_at "go") => `(tactic| ((repeat ((conv => whnf); first | (refine And.intro ?_ ?_; · walk_at "side") | refine And.intro (fun h => Bool.noConfusion (show false = true from h)) (fun _ => ?_) | refine And.intro (fun _ => ?_) (fun h => Bool.noConfusion (show true = false from h)))); (conv => whnf)))
local macro_rules | `(tactic| walk_at "if") => `(tactic| refine ⟨fun hc => ?_, fun hc => ?_⟩)
def SidesOk (row : List Int) (m : List (Int × Int)) (n : Nat) : Prop := ∃ f : Int → Int, (∀ w ∈ row, lookI m w = some (f w)) ∧ (∀ w ∈ row, 0 ≤ f w ∧ f w < n) ∧ ∀ a b, Cross row a b → f a ≠ f b
def sp_stub_plan : DSp := fun ds Q => ∃ (row : List Int) (m : List (Int × Int)) (n : Nat), ds = [dints row, .dct (dmap m)] ∧ row.Nodup ∧ row.length ≤ 63 ∧ SidesOk row m n ∧
  ∀ plan : List Deed, runM (List.replicate n false) row plan = some (isort row) → plan.length = 2 * row.length → Q (.lst (plan.map deedD))
def d_stub_plan_1 : DT := (dAnd (dT (dOp oLt (dVar false 5) (dLen (dIv false 2)))) (dInD false (dIx (dIv false 2) (dVar false 5)) 4))
def d_stub_plan_2 : DS := (dSeq (dApp 3 (dTup (dCons (dC (.str "out")) (dCons (dGet true 1 (dIx (dIv false 2) (dVar false 5))) dNil))))
  (dSet 5 (dOp oAdd (dVar false 5) (dC (.int 1)))))
def d_stub_plan_3 : DS := (dSeq (dApp 3 (dTup (dCons (dC (.str "in")) (dCons (dGet true 1 (dVar false 6)) dNil))))
  (dSeq (dPut 4 (dVar false 6) (dC (.bl true)))
  (dWhile d_stub_plan_1 d_stub_plan_2)))
def d_stub_plan_t1 : DS := (dRet (dVar true 3))
def d_stub_plan : DS := (dSeq (dSet 2 (dL (dSorted (dSv false 0))))
  (dSeq (dSetL 3 (dLst dNil))
  (dSeq (dNewK 4)
  (dSeq (dSet 5 (dC (.int 0)))
  (dSeq (dFor (dS (dVar true 0)) 6 d_stub_plan_3)
  d_stub_plan_t1)))))
theorem ln_stub_plan : ∀ ds Q, sp_stub_plan ds Q → ds.length = 2 := by
  rintro ds Q ⟨_, _, _, rfl, _⟩
  rfl
def hereD (done : List Int) : List (Int × D) := done.map fun w => (w, D.bl true)
theorem hereD_look (done : List Int) (w : Int) : (lookI (hereD done) w).isSome = decide (w ∈ done) := by
  induction done with
  | nil => simp [hereD, lookI]
  | cons x l ih =>
    show (lookI ((x, D.bl true) :: hereD l) w).isSome = _
    rw [lookI_cons]
    by_cases h : x = w
    · simp [h]
    · rw [if_neg h, ih]
      have : w ≠ x := fun z => h z.symm
      simp [this]
theorem hereD_put {done : List Int} {w : Int} (h : w ∉ done) : putI (hereD done) w (D.bl true) = hereD (done ++ [w]) := by
  rw [putI_new]
  · unfold hereD
    rw [List.map_append]
    rfl
  · have := hereD_look done w
    rw [decide_eq_false h] at this
    cases hl : lookI (hereD done) w with
    | none => rfl
    | some x => rw [hl] at this; cases this
theorem stub_loop {P : DEnds} {row : List Int} {m : List (Int × Int)} {n : Nat} {f : Int → Int} (nd : row.Nodup) (hl : row.length ≤ 63) (hm : ∀ w ∈ row, lookI m w = some (f w)) (hf : ∀ w ∈ row, 0 ≤ f w ∧ f w < n) (ok : ∀ a b, Cross row a b → f a ≠ f b)
    (g : ∀ plan d s6, runM (List.replicate n false) row plan = some (isort row) → plan.length = 2 * row.length → P.nx [.fz (dints row), .fz (.dct (dmap m)), .fz (dints (isort row)), .l1 (plan.map deedD), .dk (hereD row), .fz (.int d), s6]) :
    ∀ (rest done : List Int) (d : Nat) (plan : List Deed) (s6 : Sl), StubInv row f n done rest d plan → (∀ x, (isort row)[d]? = some x → x ∉ done) →
    dForG d_stub_plan_3 6 P (rest.map D.int) [.fz (dints row), .fz (.dct (dmap m)), .fz (dints (isort row)), .l1 (plan.map deedD), .dk (hereD done), .fz (.int d), s6]
  | [], done, d, plan, s6, h, stop => by
    have he := h.e
    rw [List.append_nil] at he
    have q := h.done_ stop
    subst he
    exact g plan d s6 q.1 q.2
  | w :: rest, done, d, plan, s6, h, stop => by
    have he := h.e
    have hlen : done.length + (rest.length + 1) = row.length := by rw [← he, List.length_append, List.length_cons]
    have il := isort_length row
    have hp := h.len
    have hdl := h.dl
    have wr : w ∈ row := by rw [← he]; simp
    have wd : w ∉ done := fun z => by
      have nd2 := nd
      rw [← he, List.nodup_append] at nd2
      exact nd2.2.2 w z w (List.mem_cons_self ..) rfl
    have h2 := h.enter nd hf stop
    have look : ∀ w ∈ row, lookI (dmap m) w = some (.int (f w)) := fun w hw => by rw [lookI_dmap, hm w hw]; rfl
    walk_at "w"
    refine ⟨_, look w wr, ?_⟩
    walk_at "go"
    rw [hereD_put wd]
    have pm : ∀ (p : List Deed) (d : Deed), p.map deedD ++ [deedD d] = (p ++ [d]).map deedD := fun p d => by rw [List.map_append]; rfl
    have pm1 : plan.map deedD ++ [.tup [.str "in", .int (f w)]] = (plan ++ [(true, f w)]).map deedD := by rw [List.map_append]; rfl
    rw [pm1]
    have hD : ∀ l : List Int, (hereD l).length = l.length := fun l => by unfold hereD; rw [List.length_map]
    refine ⟨by rw [hD]; omega, ?_⟩
    walk_at "w"
    refine ⟨fun k ρ => ∃ (d : Nat) (plan : List Deed), ρ = [.fz (dints row), .fz (.dct (dmap m)), .fz (dints (isort row)), .l1 (plan.map deedD), .dk (hereD (done ++ [w])), .fz (.int d), .fz (.int w)] ∧ StubInv row f n (done ++ [w]) rest d plan ∧ k = row.length - d, ⟨_, d, _, rfl, h2, rfl⟩, ?_⟩
    rintro k ρ ⟨d, plan, rfl, h3, rfl⟩
    have hp3 := h3.len
    have hdl3 := h3.dl
    rw [List.length_append, List.length_singleton] at hp3
    walk_at "w"
    rw [List.length_map]
    refine ⟨fun hc => ?_, fun hc => ?_⟩
    · rw [decide_eq_true_iff] at hc
      have hd : d < (isort row).length := by omega
      have ea : atI ((isort row).map D.int) (d : Int) = some (.int ((isort row).getD d 0)) := atI_getD (by omega) (by omega)
      have eg : (isort row)[d]? = some ((isort row).getD d 0) := by
        rw [List.getD_eq_getElem?_getD, List.getElem?_eq_getElem hd]
        rfl
      have er : (isort row).getD d 0 ∈ row := (isort_perm row).mem_iff.mp (List.mem_of_getElem? eg)
      walk_at "w"
      refine ⟨_, ea, ?_⟩
      walk_at "w"
      rw [Bool.false_xor, hereD_look]
      refine ⟨fun hx => ?_, fun hx => ?_⟩
      · rw [decide_eq_true_iff] at hx
        walk_at "w"
        refine ⟨_, ea, ?_⟩
        walk_at "w"
        refine ⟨_, look _ er, ?_⟩
        walk_at "w"
        refine ⟨by simp, ?_⟩
        walk_at "w"
        refine ⟨by rw [List.length_map]; omega, ?_⟩
        walk_at "w"
        refine ⟨row.length - (d + 1), by omega, d + 1, plan ++ [(false, f ((isort row).getD d 0))], ?_, h3.leave nd hf ok eg hx, rfl⟩
        rw [List.map_append]
        rfl
      · rw [decide_eq_false_iff_not] at hx
        refine stub_loop (P := P) nd hl hm hf ok g rest (done ++ [w]) d plan _ h3 (fun x e => ?_)
        rw [eg] at e
        cases e
        exact hx
    · rw [decide_eq_false_iff_not] at hc
      refine ⟨fun h => Bool.noConfusion h, fun _ => ?_⟩
      refine stub_loop (P := P) nd hl hm hf ok g rest (done ++ [w]) d plan _ h3 (fun x e => ?_)
      rw [List.getElem?_eq_none (by omega)] at e
      cases e
theorem th_stub_plan : ∀ ds Q, sp_stub_plan ds Q → d_stub_plan (dEnds Q) (dstart 7 ds) := by
  rintro ds Q ⟨row, m, n, rfl, nd, hl, ⟨f, hm, hf, ok⟩, hq⟩
  walk_at "w"
  refine ⟨row, rfl, by omega, ?_⟩
  walk_at "go"
  exact stub_loop nd hl hm hf ok (fun plan d s6 h1 h2 => hq plan h1 h2) row [] 0 [] .un stub_start (fun x _ h => by cases h)
/-! one_stub -/
def Stuck (row : List Int) (a b c : Int) : Prop := c < a ∧ a < b ∧ [a, b, c].Sublist row
def sp_one_stub : DSp := fun ds Q => ∃ row : List Int, ds = [dints row] ∧ row.Nodup ∧ row.length ≤ 63 ∧ (∀ a b c, Stuck row a b c → Q (.tup [.str "stuck", dints [a, b, c]])) ∧
  ∀ plan : List Deed, runM (List.replicate 1 false) row plan = some (isort row) → plan.length = 2 * row.length → Q (.tup [.str "plan", .lst (plan.map deedD)])
def d_one_stub_1 : DS := (dIfS (dT (dOp oLt (dIx (dIv false 0) (dVar false 1)) (dIx (dIv false 0) (dVar false 2)))) (dSeq (dSet 3 (dCall sp_lesser_behind (dCons (dVar true 0) (dCons (dVar true 2) (dCons (dIx (dIv true 0) (dVar false 1)) dNil)))))
  (dIfS (dT (dOp (oIsN true) (dVar false 3) (dC .non))) (dRet (dTup (dCons (dC (.str "stuck")) (dCons (dL (dLst (dCons (dIx (dIv true 0) (dVar false 1)) (dCons (dIx (dIv true 0) (dVar false 2)) (dCons (dVar true 3) dNil))))) dNil)))) dNext)) dNext)
def d_one_stub_2 : DS := (dFor (dRng2 (dCons (dOp oAdd (dVar false 1) (dC (.int 1))) (dCons (dLen (dIv false 0)) dNil))) 2 d_one_stub_1)
def d_one_stub_3 : DS := (dPut 4 (dVar false 5) (dC (.int 0)))
def d_one_stub_t1 : DS := (dRet (dTup (dCons (dC (.str "plan")) (dCons (dCall sp_stub_plan (dCons (dVar true 0) (dCons (dVar true 4) dNil))) dNil))))
def d_one_stub_t2 : DS := (dSeq (dNewK 4)
  (dSeq (dFor (dS (dVar true 0)) 5 d_one_stub_3)
  d_one_stub_t1))
def d_one_stub : DS := (dSeq (dFor (dRng1 (dCons (dLen (dIv false 0)) dNil)) 1 d_one_stub_2)
  d_one_stub_t2)
theorem ln_one_stub : ∀ ds Q, sp_one_stub ds Q → ds.length = 1 := by
  rintro ds Q ⟨_, rfl, _⟩
  rfl
/-- three places, in order -/
theorem sub3_of {row : List Int} {k j : Nat} {c : Int} (h1 : k < j) (h2 : j < row.length) (hc : c ∈ row.drop (j + 1)) : [row.getD k 0, row.getD j 0, c].Sublist row := by
  have e1 : row.drop k = row.getD k 0 :: row.drop (k + 1) := by
    have hk : k < row.length := by omega
    rw [List.drop_eq_getElem_cons hk, List.getD_eq_getElem?_getD, List.getElem?_eq_getElem hk]
    rfl
  have e2 : row.drop j = row.getD j 0 :: row.drop (j + 1) := by
    rw [List.drop_eq_getElem_cons h2, List.getD_eq_getElem?_getD, List.getElem?_eq_getElem h2]
    rfl
  have s1 : [c].Sublist (row.drop (j + 1)) := by simpa using hc
  have s2 : [row.getD j 0, c].Sublist (row.drop j) := by rw [e2]; exact s1.cons_cons _
  have s3 : (row.drop j).Sublist (row.drop (k + 1)) := by
    have : row.drop j = (row.drop (k + 1)).drop (j - (k + 1)) := by rw [List.drop_drop]; congr 1; omega
    rw [this]
    exact List.drop_sublist _ _
  have s4 : [row.getD k 0, row.getD j 0, c].Sublist (row.drop k) := by rw [e1]; exact (s2.trans s3).cons_cons _
  exact s4.trans (List.drop_sublist _ _)
/-- three wagons in one another's way stand at three places -/
theorem sub3_at {row : List Int} {a b c : Int} (h : [a, b, c].Sublist row) : ∃ k j : Nat, k < j ∧ j < row.length ∧ row.getD k 0 = a ∧ row.getD j 0 = b ∧ c ∈ row.drop (j + 1) := by
  induction row with
  | nil => cases h
  | cons x row ih =>
    cases h with
    | cons _ h =>
      obtain ⟨k, j, h1, h2, h3, h4, h5⟩ := ih h
      exact ⟨k + 1, j + 1, by omega, by simp; omega, h3, h4, h5⟩
    | cons_cons _ h =>
      have : ∃ j : Nat, j < row.length ∧ row.getD j 0 = b ∧ c ∈ row.drop (j + 1) := by
        clear ih
        induction row with
        | nil => cases h
        | cons y row ih =>
          cases h with
          | cons _ h =>
            obtain ⟨j, h2, h4, h5⟩ := ih h
            exact ⟨j + 1, by simp; omega, h4, h5⟩
          | cons_cons _ h => exact ⟨0, by simp, rfl, h.subset (by simp)⟩
      obtain ⟨j, h2, h4, h5⟩ := this
      exact ⟨0, j + 1, by omega, by simp; omega, rfl, h4, h5⟩
theorem lessM_some {row : List Int} {k : Int} {w c : Int} (h : lessM row k w = some c) : c < w ∧ c ∈ row.drop k.toNat :=
  ⟨by have := List.find?_some h; simpa using this, List.mem_of_find?_eq_some h⟩
theorem lessM_none {row : List Int} {k : Int} {w c : Int} (h : lessM row k w = none) (hc : c ∈ row.drop k.toNat) : ¬ c < w := by
  have := List.find?_eq_none.mp h c hc
  simpa using this
def NoCross (row : List Int) (k j : Int) : Prop := ¬ (row.getD k.toNat 0 < row.getD j.toNat 0 ∧ ∃ c ∈ row.drop (j + 1).toNat, c < row.getD k.toNat 0)
theorem one_in {P : DEnds} {row : List Int} {k : Int} {s4 s5 : Sl} (k0 : 0 ≤ k) (hk : k < row.length) (hl : row.length ≤ 63) (st : ∀ a b c, Stuck row a b c → P.rt (.tup [.str "stuck", dints [a, b, c]])) :
    ∀ (n : Nat) (j : Int) (s2 s3 : Sl), k < j → (row.length : Int) - j ≤ n → (∀ s2 s3, (∀ i, j ≤ i → i < row.length → NoCross row k i) → P.nx [.fz (dints row), .fz (.int k), s2, s3, s4, s5]) →
    dForG d_one_stub_1 2 P (rangeD j row.length) [.fz (dints row), .fz (.int k), s2, s3, s4, s5]
  | 0, j, s2, s3, j0, hn, g => by
    rw [rangeD_nil (by omega)]
    exact g s2 s3 (fun i h1 h2 => by omega)
  | n + 1, j, s2, s3, j0, hn, g => by
    by_cases hj : j < row.length
    · have next : ∀ s3, NoCross row k j → dForG d_one_stub_1 2 P (rangeD (j + 1) row.length) [.fz (dints row), .fz (.int k), .fz (.int j), s3, s4, s5] := fun s3 no =>
        one_in k0 hk hl st n (j + 1) _ s3 (by omega) (by omega) (fun s2 s3 h => g s2 s3 (fun i h1 h2 => by
          by_cases e : i = j
          · subst e; exact no
          · exact h i (by omega) h2))
      rw [rangeD_cons hj]
      walk_at "w"
      refine ⟨_, atI_getD k0 hk, ?_⟩
      walk_at "w"
      refine ⟨_, atI_getD (by omega) hj, ?_⟩
      walk_at "w"
      refine ⟨fun hc => ?_, fun hc => ?_⟩
      · rw [decide_eq_true_iff] at hc
        walk_at "w"
        refine ⟨_, atI_getD k0 hk, ?_⟩
        walk_at "w"
        refine ⟨row, j, _, rfl, by omega, by omega, by omega, ?_⟩
        cases hm : lessM row (j + 1) (row.getD k.toNat 0) with
        | none =>
          walk_at "go"
          exact next _ (fun z => by
            obtain ⟨_, c, c1, c2⟩ := z
            exact lessM_none hm c1 c2)
        | some c =>
          obtain ⟨c1, c2⟩ := lessM_some hm
          walk_at "go"
          refine ⟨_, atI_getD k0 hk, ?_⟩
          walk_at "w"
          refine ⟨_, atI_getD (by omega) hj, ?_⟩
          walk_at "go"
          refine st _ _ _ ⟨c1, hc, sub3_of (by omega) (by omega) ?_⟩
          rw [show j.toNat + 1 = (j + 1).toNat by omega]
          exact c2
      · rw [decide_eq_false_iff_not] at hc
        exact next _ (fun z => hc z.1)
    · rw [rangeD_nil (by omega)]
      exact g s2 s3 (fun i h1 h2 => by omega)
theorem one_out {P : DEnds} {row : List Int} {s4 s5 : Sl} (hl : row.length ≤ 63) (st : ∀ a b c, Stuck row a b c → P.rt (.tup [.str "stuck", dints [a, b, c]])) :
    ∀ (n : Nat) (k : Int) (s1 s2 s3 : Sl), 0 ≤ k → (row.length : Int) - k ≤ n → (∀ s1 s2 s3, (∀ h i, k ≤ h → h < i → i < row.length → NoCross row h i) → P.nx [.fz (dints row), s1, s2, s3, s4, s5]) →
    dForG d_one_stub_2 1 P (rangeD k row.length) [.fz (dints row), s1, s2, s3, s4, s5]
  | 0, k, s1, s2, s3, k0, hn, g => by
    rw [rangeD_nil (by omega)]
    exact g s1 s2 s3 (fun h i h1 h2 h3 => by omega)
  | n + 1, k, s1, s2, s3, k0, hn, g => by
    by_cases hk : k < row.length
    · rw [rangeD_cons hk]
      walk_at "w"
      rw [List.length_map]
      refine ⟨by omega, ?_⟩
      refine one_in (P := { P with nx := dForG d_one_stub_2 1 P (rangeD (k + 1) row.length), ct := dForG d_one_stub_2 1 P (rangeD (k + 1) row.length), bk := P.nx }) k0 hk hl st row.length (k + 1) s2 s3 (by omega) (by omega) (fun s2 s3 no => ?_)
      refine one_out hl st n (k + 1) _ _ _ (by omega) (by omega) (fun s1 s2 s3 no2 => g s1 s2 s3 (fun h i h1 h2 h3 => ?_))
      by_cases e : h = k
      · subst e; exact no i (by omega) h3
      · exact no2 h i (by omega) h2 h3
    · rw [rangeD_nil (by omega)]
      exact g s1 s2 s3 (fun h i h1 h2 h3 => by omega)
theorem zero_loop {P : DEnds} {R : D} {s1 s2 s3 : Sl} {row : List Int} (g : ∀ m s5, (∀ w ∈ row, lookI m w = some 0) → P.nx [.fz R, s1, s2, s3, .dk (dmap m), s5]) :
    ∀ (todo done : List Int) (m : List (Int × Int)) (s5 : Sl), done ++ todo = row → m.length ≤ done.length → row.length ≤ 63 → (∀ w ∈ done, lookI m w = some 0) → dForG d_one_stub_3 5 P (todo.map D.int) [.fz R, s1, s2, s3, .dk (dmap m), s5]
  | [], done, m, s5, e, hm, hl, h => by
    rw [List.append_nil] at e
    subst e
    exact g m s5 h
  | w :: todo, done, m, s5, e, hm, hl, h => by
    have len : row.length = done.length + (todo.length + 1) := by rw [← e, List.length_append, List.length_cons]
    have pl := putI_len m w (0 : Int)
    walk_at "w"
    refine ⟨by unfold dmap; rw [List.length_map]; omega, ?_⟩
    have := zero_loop (s1 := s1) (s2 := s2) (s3 := s3) (R := R) g todo (done ++ [w]) (putI m w 0) (.fz (.int w)) (by rw [← e]; simp) (by rw [List.length_append, List.length_singleton]; omega) hl (fun x hx => by
      rw [lookI_put]
      by_cases z : w = x
      · rw [if_pos z]
      · rw [if_neg z]
        rcases List.mem_append.mp hx with hx | hx
        · exact h x hx
        · exact (z (List.mem_singleton.mp hx).symm).elim)
    unfold dmap at this ⊢
    rw [← putI_map D.int] at this
    exact this
theorem th_one_stub : ∀ ds Q, sp_one_stub ds Q → d_one_stub (dEnds Q) (dstart 6 ds) := by
  rintro ds Q ⟨row, rfl, nd, hl, q1, q2⟩
  walk_at "w"
  rw [List.length_map]
  refine ⟨by omega, ?_⟩
  refine one_out hl q1 row.length 0 .un .un .un (by decide) (by omega) (fun s1 s2 s3 no => ?_)
  walk_at "w"
  refine zero_loop (row := row) (fun m s5 hm => ?_) row [] [] .un rfl (Nat.le_refl _) hl (fun w hw => by cases hw)
  walk_at "w"
  refine ⟨row, m, 1, rfl, nd, hl, ⟨fun _ => 0, hm, fun w _ => ⟨Int.le_refl 0, (by decide : (0 : Int) < 1)⟩, fun a b hab => ?_⟩, fun plan h1 h2 => ?_⟩
  · obtain ⟨h1, c, h2, h3⟩ := hab
    obtain ⟨k, j, g1, g2, g3, g4, g5⟩ := sub3_at h3
    refine (no k j (by omega) (by omega) (by omega) ⟨?_, c, ?_, ?_⟩).elim
    · rw [Int.toNat_natCast, Int.toNat_natCast, g3, g4]; exact h1
    · rw [show ((j : Int) + 1).toNat = j + 1 by omega]; exact g5
    · rw [Int.toNat_natCast, g3]; exact h2
  · walk_at "go"
    exact q2 plan h1 h2
end DL

/-! M4: runs: what is kept, other numbers; emptying stubs: plain mathematics -/
namespace DL
open PySem L2
local macro_rules | `(tactic| walk_at "w") => `(tactic| conv => whnf)
local macro_rules | `(tactic| walk_at "side") => `(tactic| first | omega | decide | exact Nat.le_of_ble_eq_true rfl | exact ⟨by decide, by decide⟩ | exact Or.inl ⟨by omega, by omega⟩ | exact Or.inr ⟨by omega, by omega⟩ | (show (_ : Int) ≠ 0; omega) | exact ⟨by omega, by omega⟩ | (rw [List.length_map]; omega) | (simp only [List.length_map, List.length_append, List.length_cons, List.length_nil]; omega))
local macro_rules | `(tactic| walk_at "go") => `(tactic| ((repeat ((conv => whnf); first | (refine And.intro ?_ ?_; · walk_at "side") | refine And.intro (fun h => Bool.noConfusion (show false = true from h)) (fun _ => ?_) | refine And.intro (fun _ => ?_) (fun h => Bool.noConfusion (show true = false from h)))); (conv => whnf)))
local macro_rules | `(tactic| walk_at "if") => `(tactic| refine ⟨fun hc => ?_, fun hc => ?_⟩)
def allY (s : Yd) : List Int := s.rest ++ (s.tracks.flatten ++ s.behind)
theorem flatten_set {i : Nat} : ∀ {ts : List (List Int)} {t : List Int}, ts[i]? = some t → ∃ a b, ts.flatten = a ++ (t ++ b) ∧ ∀ u, (ts.set i u).flatten = a ++ (u ++ b) := by
  induction i with
  | zero =>
    intro ts t h
    cases ts with
    | nil => cases h
    | cons x ts =>
      simp only [List.getElem?_cons_zero, Option.some.injEq] at h
      subst h
      exact ⟨[], ts.flatten, rfl, fun u => rfl⟩
  | succ i ih =>
    intro ts t h
    cases ts with
    | nil => cases h
    | cons x ts =>
      simp only [List.getElem?_cons_succ] at h
      obtain ⟨a, b, h1, h2⟩ := ih h
      refine ⟨x ++ a, b, ?_, fun u => ?_⟩
      · rw [List.flatten_cons, h1, List.append_assoc]
      · rw [List.set_cons_succ, List.flatten_cons, h2, List.append_assoc]
theorem cnt_perm {a b : List Int} (h : ∀ x, a.count x = b.count x) : a.Perm b := List.perm_iff_count.mpr h
theorem stepM_keeps {kinds : List Bool} {s t : Yd} {d : Deed} (h : stepM kinds s d = some t) (hl : s.tracks.length = kinds.length) : t.tracks.length = kinds.length ∧ (allY t).Perm (allY s) := by
  obtain ⟨rest, tracks, behind⟩ := s
  obtain ⟨b, k⟩ := d
  unfold stepM at h
  by_cases hr : 0 ≤ k ∧ k < kinds.length
  · rw [if_pos hr] at h
    simp only at h hl
    have hk : k.toNat < tracks.length := by omega
    have ha : tracks[k.toNat]? = some (tracks.getD k.toNat []) := getD_at hk
    obtain ⟨a, c, e1, e2⟩ := flatten_set ha
    cases b with
    | true =>
      rw [if_pos rfl] at h
      cases rest with
      | nil => cases h
      | cons w r =>
        cases h
        refine ⟨by rw [List.length_set]; exact hl, cnt_perm fun x => ?_⟩
        unfold allY
        simp only [e1, e2, List.count_append, List.count_cons, List.count_nil]
        omega
    | false =>
      rw [if_neg (by decide)] at h
      cases ht : tracks.getD k.toNat [] with
      | nil => rw [ht] at h; cases h
      | cons x xs =>
        rw [ht] at h e1
        simp only at h
        have el : x :: xs = (x :: xs).dropLast ++ [lastI (x :: xs)] := by
          have hne : x :: xs ≠ [] := by simp
          unfold lastI
          rw [List.getLastD_eq_getLast?, List.getLast?_eq_some_getLast hne]
          exact (List.dropLast_concat_getLast hne).symm
        by_cases kb : kinds.getD k.toNat true = true
        · rw [if_pos kb] at h
          cases h
          refine ⟨by rw [List.length_set]; exact hl, cnt_perm fun z => ?_⟩
          unfold allY
          simp only [e1, e2, List.count_append, List.count_cons, List.count_nil]
          omega
        · rw [if_neg kb] at h
          cases h
          refine ⟨by rw [List.length_set]; exact hl, cnt_perm fun z => ?_⟩
          rw [el] at e1
          unfold allY
          simp only [e1, e2, List.count_append, List.count_cons, List.count_nil]
          omega
  · rw [if_neg hr] at h
    cases h
theorem runY_keeps {kinds : List Bool} : ∀ {plan : List Deed} {s t : Yd}, runY kinds plan s = some t → s.tracks.length = kinds.length → t.tracks.length = kinds.length ∧ (allY t).Perm (allY s)
  | [], s, t, h, hl => by
    cases h
    exact ⟨hl, .refl _⟩
  | d :: plan, s, t, h, hl => by
    simp only [runY] at h
    obtain ⟨u, e1, e2⟩ := Option.bind_eq_some_iff.mp h
    have k1 := stepM_keeps e1 hl
    have k2 := runY_keeps e2 k1.1
    exact ⟨k2.1, k2.2.trans k1.2⟩
def mapY (g : Int → Int) (s : Yd) : Yd := ⟨s.rest.map g, s.tracks.map (·.map g), s.behind.map g⟩
theorem lastI_map (g : Int → Int) {x : Int} {xs : List Int} : lastI ((x :: xs).map g) = g (lastI (x :: xs)) := by
  unfold lastI
  rw [List.getLastD_eq_getLast?, List.getLastD_eq_getLast?, List.getLast?_map, List.getLast?_eq_some_getLast (show x :: xs ≠ [] by simp)]
  rfl
theorem stepM_map (g : Int → Int) {kinds : List Bool} {s t : Yd} {d : Deed} (h : stepM kinds s d = some t) : stepM kinds (mapY g s) d = some (mapY g t) := by
  obtain ⟨rest, tracks, behind⟩ := s
  obtain ⟨b, k⟩ := d
  unfold stepM at h ⊢
  by_cases hr : 0 ≤ k ∧ k < kinds.length
  · rw [if_pos hr] at h ⊢
    have gD : (tracks.map (·.map g)).getD k.toNat [] = (tracks.getD k.toNat []).map g := by
      rw [List.getD_eq_getElem?_getD, List.getD_eq_getElem?_getD, List.getElem?_map]
      cases tracks[k.toNat]? <;> rfl
    unfold mapY
    simp only at h ⊢
    rw [gD]
    cases b with
    | true =>
      rw [if_pos rfl] at h ⊢
      cases rest with
      | nil => cases h
      | cons w r =>
        cases h
        simp only [List.map_cons, List.map_set, List.map_append, List.map_nil]
    | false =>
      rw [if_neg (by decide)] at h ⊢
      cases ht : tracks.getD k.toNat [] with
      | nil => rw [ht] at h; cases h
      | cons x xs =>
        rw [ht] at h
        simp only [List.map_cons] at h ⊢
        by_cases kb : kinds.getD k.toNat true = true
        · rw [if_pos kb] at h ⊢
          cases h
          simp only [List.map_cons, List.map_set, List.map_append, List.map_nil]
        · rw [if_neg kb] at h ⊢
          cases h
          have := lastI_map g (x := x) (xs := xs)
          simp only [List.map_cons] at this
          simp only [List.map_cons, List.map_set, List.map_append, List.map_nil, this, List.map_dropLast]
  · rw [if_neg hr] at h
    cases h
theorem runY_map (g : Int → Int) {kinds : List Bool} : ∀ {plan : List Deed} {s t : Yd}, runY kinds plan s = some t → runY kinds plan (mapY g s) = some (mapY g t)
  | [], s, t, h => by
    cases h
    rfl
  | d :: plan, s, t, h => by
    simp only [runY] at h
    obtain ⟨u, e1, e2⟩ := Option.bind_eq_some_iff.mp h
    simp only [runY]
    rw [stepM_map g e1]
    exact runY_map g e2
theorem stub_false {n i : Nat} (h : i < n) : (List.replicate n false).getD i true = false := by
  rw [List.getD_eq_getElem?_getD, List.getElem?_replicate, if_pos h]
  rfl
theorem step_in {n i : Nat} {w : Int} {r behind : List Int} {tracks : List (List Int)} (hi : i < n) : stepM (List.replicate n false) ⟨w :: r, tracks, behind⟩ (true, (i : Int)) = some ⟨r, tracks.set i (tracks.getD i [] ++ [w]), behind⟩ := by
  unfold stepM
  rw [if_pos ⟨by omega, by rw [List.length_replicate]; exact Int.ofNat_lt.mpr hi⟩]
  rfl
theorem step_out {n i : Nat} {w : Int} {t rest behind : List Int} {tracks : List (List Int)} (hi : i < n) (ht : tracks.getD i [] = t ++ [w]) : stepM (List.replicate n false) ⟨rest, tracks, behind⟩ (false, (i : Int)) = some ⟨rest, tracks.set i t, behind ++ [w]⟩ := by
  unfold stepM
  rw [if_pos ⟨by omega, by rw [List.length_replicate]; exact Int.ofNat_lt.mpr hi⟩]
  simp only [Int.toNat_natCast]
  rw [if_neg (by decide), ht]
  obtain ⟨y, ys, ey⟩ : ∃ y ys, t ++ [w] = y :: ys := by cases t with | nil => exact ⟨w, [], rfl⟩ | cons y ys => exact ⟨y, ys ++ [w], rfl⟩
  rw [ey]
  simp only
  rw [← ey, stub_false hi, if_neg (by decide), lastI_append, List.dropLast_concat]
theorem getD_set_self {ts : List (List Int)} {i : Nat} {t : List Int} (h : i < ts.length) : (ts.set i t).getD i [] = t := by
  rw [List.getD_eq_getElem?_getD, List.getElem?_set, if_pos rfl, if_pos h]
  rfl
/-- a stub is emptied -/
theorem empty_one {n i : Nat} (hi : i < n) : ∀ (k : Nat) (t rest behind : List Int) (tracks : List (List Int)), t.length = k → tracks.length = n → tracks.getD i [] = t → ∃ plan, runY (List.replicate n false) plan ⟨rest, tracks, behind⟩ = some ⟨rest, tracks.set i [], behind ++ t.reverse⟩
  | 0, t, rest, behind, tracks, hk, hn, ht => by
    have : t = [] := List.length_eq_zero_iff.mp hk
    subst this
    refine ⟨[], ?_⟩
    show some _ = some _
    congr 2
    · have e := getD_at (ls := tracks) (i := i) (by omega)
      rw [ht] at e
      rw [List.getElem?_eq_some_iff] at e
      obtain ⟨h1, h2⟩ := e
      rw [← h2, List.set_getElem_self]
    · simp
  | k + 1, t, rest, behind, tracks, hk, hn, ht => by
    have hne : t ≠ [] := fun z => by rw [z] at hk; cases hk
    have el := (List.dropLast_concat_getLast hne).symm
    generalize t.dropLast = u at el
    generalize t.getLast hne = w at el
    subst el
    rw [List.length_append, List.length_singleton] at hk
    obtain ⟨plan, hp⟩ := empty_one hi k u rest (behind ++ [w]) (tracks.set i u) (by omega) (by rw [List.length_set]; exact hn) (getD_set_self (by omega))
    refine ⟨(false, (i : Int)) :: plan, ?_⟩
    simp only [runY]
    rw [step_out hi ht]
    show runY _ _ _ = _
    rw [hp, List.set_set]
    simp
/-- reached from a start -/
def Reach (n : Nat) (row : List Int) (s : Yd) : Prop := ∃ plan, runY (List.replicate n false) plan ⟨row, List.replicate n [], []⟩ = some s
theorem Reach.start {n : Nat} {row : List Int} : Reach n row ⟨row, List.replicate n [], []⟩ := ⟨[], rfl⟩
theorem Reach.more {n : Nat} {row : List Int} {s t : Yd} {plan : List Deed} (h : Reach n row s) (h2 : runY (List.replicate n false) plan s = some t) : Reach n row t := by
  obtain ⟨p, hp⟩ := h
  refine ⟨p ++ plan, ?_⟩
  rw [runY_append, hp]
  exact h2
theorem Reach.one {n : Nat} {row : List Int} {s t : Yd} {d : Deed} (h : Reach n row s) (h2 : stepM (List.replicate n false) s d = some t) : Reach n row t :=
  h.more (plan := [d]) (by simp only [runY, h2]; rfl)
theorem Reach.keeps {n : Nat} {row : List Int} {s : Yd} (h : Reach n row s) : s.tracks.length = n ∧ (allY s).Perm row := by
  obtain ⟨p, hp⟩ := h
  have k := runY_keeps hp (by rw [List.length_replicate, List.length_replicate])
  rw [List.length_replicate] at k
  refine ⟨k.1, k.2.trans ?_⟩
  unfold allY
  have : ∀ n : Nat, (List.replicate n ([] : List Int)).flatten = [] := fun n => by
    induction n with
    | zero => rfl
    | succ n ih => rw [List.replicate_succ, List.flatten_cons, ih]; rfl
  simp only [this]
  simp
theorem isort_of {row l : List Int} (p : l.Perm row) (up : l.Pairwise (· < ·)) : l = isort row :=
  List.Perm.eq_of_pairwise (le := (· ≤ ·)) (fun a b _ _ h1 h2 => by omega) (up.imp fun h => by omega) (isort_le row) (p.trans (isort_perm row).symm)
/-- wagons numbered as they leave -/
theorem renumber {n : Nat} {row left : List Int} (nd : row.Nodup) (h : Reach n row ⟨[], List.replicate n [], left⟩) {step c : Int} (hs : 0 < step) :
    (row.map fun k => (left.idxOf k : Int) * step + c).Nodup ∧ ∃ plan, runM (List.replicate n false) (row.map fun k => (left.idxOf k : Int) * step + c) plan = some (isort (row.map fun k => (left.idxOf k : Int) * step + c)) := by
  have kp := h.keeps.2
  obtain ⟨p, hp⟩ := h
  have e0 : allY ⟨[], List.replicate n [], left⟩ = left := by
    unfold allY
    have : ∀ n : Nat, (List.replicate n ([] : List Int)).flatten = [] := fun n => by
      induction n with
      | zero => rfl
      | succ n ih => rw [List.replicate_succ, List.flatten_cons, ih]; rfl
    simp only [this]
    rfl
  rw [e0] at kp
  have ln : left.Nodup := kp.nodup_iff.mpr nd
  have up : (left.map fun k => (left.idxOf k : Int) * step + c).Pairwise (· < ·) := by
    rw [List.pairwise_map, List.pairwise_iff_getElem]
    intro i j hi hj hij
    rw [ln.idxOf_getElem, ln.idxOf_getElem]
    have : (i : Int) * step < (j : Int) * step := Int.mul_lt_mul_of_pos_right (by omega) hs
    omega
  have pm : (left.map fun k => (left.idxOf k : Int) * step + c).Perm (row.map fun k => (left.idxOf k : Int) * step + c) := kp.map _
  refine ⟨pm.nodup_iff.mp (up.imp fun h => by omega), p, ?_⟩
  have := runY_map (fun k => (left.idxOf k : Int) * step + c) hp
  unfold mapY at this
  simp only [List.map_replicate, List.map_nil] at this
  unfold runM
  rw [List.length_replicate, this, ← isort_of pm up]
  rfl
end DL

/-! F9: _law_turned_back -/
namespace DL
open PySem L2
local macro_rules | `(tactic| walk_at "w") => `(tactic| conv => whnf)
local macro_rules | `(tactic| walk_at "side") => `(tactic| first | omega | decide | exact Nat.le_of_ble_eq_true rfl | exact ⟨by decide, by decide⟩ | exact Or.inl ⟨by omega, by omega⟩ | exact Or.inr ⟨by omega, by omega⟩ | (show (_ : Int) ≠ 0; omega) | exact ⟨by omega, by omega⟩ | (rw [List.length_map]; omega) | (simp only [List.length_map, List.length_append, List.length_cons, List.length_nil]; omega))
local macro_rules | `(tactic| walk_at "go") => `(tactic| ((repeat ((conv => whnf); first | (refine And.intro ?_ ?_; · walk_at "side") | refine And.intro (fun h => Bool.noConfusion (show false = true from h)) (fun _ => ?_) | refine And.intro (fun _ => ?_) (fun h => Bool.noConfusion (show true = false from h)))); (conv => whnf)))
local macro_rules | `(tactic| walk_at "if") => `(tactic| refine ⟨fun hc => ?_, fun hc => ?_⟩)
structure RowOk0 (bound : Int) (row : List Int) : Prop where
  nd : row.Nodup
  len : (row.length : Int) ≤ bound
  nn : ∀ x ∈ row, 0 ≤ x
def sp_law_turned_back : DSp := fun ds Q => ∃ (ns : List Int) (n : Nat) (bound : Int), ds = [.scr ns, .int n, .int bound] ∧ 1 ≤ n ∧ n ≤ 2 ∧ 8 ≤ bound ∧ bound ≤ 60 ∧
  ∀ row : List Int, RowOk0 bound row → (∃ plan, runM (List.replicate n false) row plan = some (isort row)) → Q (dints row)
def d_law_turned_back_1 : DS := (dSeq (dSet 9 (dOp oAdd (dCall sp_law_cell_at (dCons (dVar false 0) (dCons (dVar false 8) dNil))) (dOp oMod (dOp oMul (dOp oAdd (dOp oDiv (dVar false 3) (dC (.int 216))) (dVar false 8)) (dC (.int 31))) (dC (.int 1009)))))
  (dSeq (dSet 10 (dOp oMod (dOp oDiv (dVar false 9) (dC (.int 2))) (dVar false 1)))
  (dIfS (dAnd (dT (dOp (oEq false) (dOp oMod (dVar false 9) (dC (.int 2))) (dC (.int 0)))) (dT (dOp oLt (dVar false 7) (dVar false 4)))) (dSeq (dApp2 5 (dVar false 10) (dVar true 7))
  (dSet 7 (dOp oAdd (dVar false 7) (dC (.int 1))))) (dIfS (dT (dOp oGt (dLen (dI (dIx (dIv false 5) (dVar false 10)))) (dC (.int 0)))) (dAppPop2 6 5 (dVar false 10)) dNext))))
def d_law_turned_back_2 : DS := (dApp 6 (dVar true 8))
def d_law_turned_back_3 : DS := (dSetL 6 (dCat (dXv true 6) (dRev (dSv true 11))))
def d_law_turned_back_4 : DE := (dOp oAdd (dOp oMul (dIndex (dXv false 6) (dVar false 8)) (dVar false 12)) (dOp oMod (dOp oDiv (dCall sp_law_cell_at (dCons (dVar false 0) (dCons (dC (.int 1)) dNil))) (dC (.int 3))) (dVar false 12)))
def d_law_turned_back_t1 : DS := (dSeq (dSet 12 (dIx (dLst (dCons (dC (.int 1)) (dCons (dC (.int 3)) (dCons (dC (.int 900000000)) dNil)))) (dOp oMod (dCall sp_law_cell_at (dCons (dVar false 0) (dCons (dC (.int 1)) dNil))) (dC (.int 3)))))
  (dRet (dL (dLc (dRng1 (dCons (dVar false 4) dNil)) 8 dYes d_law_turned_back_4))))
def d_law_turned_back_t2 : DS := (dFrz [5] (dSeq (dFor (dS (dVar true 5)) 11 d_law_turned_back_3)
  d_law_turned_back_t1))
def d_law_turned_back_t3 : DS := (dSeq (dFor (dRng2 (dCons (dVar false 7) (dCons (dVar false 4) dNil))) 8 d_law_turned_back_2)
  d_law_turned_back_t2)
def d_law_turned_back : DS := (dSeq (dSet 3 (dCall sp_law_cell_at (dCons (dVar true 0) (dCons (dC (.int 0)) dNil))))
  (dSeq (dSet 4 (dOp oMod (dOp oDiv (dVar false 3) (dC (.int 8))) (dC (.int 9))))
  (dJoin (dIfS (dT (dOp (oEq false) (dOp oMod (dOp oDiv (dVar false 3) (dC (.int 72))) (dC (.int 3))) (dC (.int 1)))) (dSet 4 (dOp oMod (dOp oDiv (dVar false 3) (dC (.int 216))) (dOp oAdd (dVar false 2) (dC (.int 1))))) dNext)
  (dSeq (dSet2 5 (dRng1 (dCons (dVar false 1) dNil)))
  (dSeq (dSetL 6 (dLst dNil))
  (dSeq (dSet 7 (dC (.int 0)))
  (dSeq (dFor (dRng2 (dCons (dC (.int 2)) (dCons (dOp oAdd (dC (.int 2)) (dOp oMul (dC (.int 2)) (dVar false 4))) dNil))) 8 d_law_turned_back_1)
  d_law_turned_back_t3)))))))
theorem ln_law_turned_back : ∀ ds Q, sp_law_turned_back ds Q → ds.length = 3 := by
  rintro ds Q ⟨_, _, _, rfl, _⟩
  rfl
structure TB (n : Nat) (count e : Int) (tracks : List (List Int)) (left : List Int) : Prop where
  r : Reach n (rangeI 0 count) ⟨rangeI e count, tracks, left⟩
  e0 : 0 ≤ e
  e1 : e ≤ count
theorem flatten_le {ts : List (List Int)} {t : List Int} (h : t ∈ ts) : t.length ≤ ts.flatten.length := by
  induction ts with
  | nil => cases h
  | cons x ts ih =>
    rw [List.flatten_cons, List.length_append]
    rcases List.mem_cons.mp h with rfl | h
    · omega
    · have := ih h; omega
theorem TB.size {n : Nat} {count e : Int} {tracks : List (List Int)} {left : List Int} (h : TB n count e tracks left) : tracks.length = n ∧ (left.length : Int) ≤ count ∧ ∀ t ∈ tracks, (t.length : Int) ≤ count := by
  obtain ⟨k1, k2⟩ := h.r.keeps
  have k3 := k2.length_eq
  unfold allY at k3
  simp only [List.length_append, rangeI_len] at k3
  have := h.e0
  have := h.e1
  refine ⟨k1, by omega, fun t ht => ?_⟩
  have := flatten_le ht
  omega
theorem TB.enter {n i : Nat} {count e : Int} {tracks : List (List Int)} {left : List Int} (h : TB n count e tracks left) (hi : i < n) (he : e < count) : TB n count (e + 1) (tracks.set i (tracks.getD i [] ++ [e])) left := by
  have h0 := h.e0
  refine ⟨h.r.one (d := (true, (i : Int))) ?_, by omega, by omega⟩
  rw [rangeI_cons he]
  exact step_in hi
theorem TB.leave {n i : Nat} {count e : Int} {tracks : List (List Int)} {left t : List Int} {x : Int} (h : TB n count e tracks left) (hi : i < n) (ht : tracks.getD i [] = t ++ [x]) : TB n count e (tracks.set i t) (left ++ [x]) :=
  ⟨h.r.one (d := (false, (i : Int))) (step_out hi ht), h.e0, h.e1⟩
theorem TB.through {n : Nat} {count e : Int} {tracks : List (List Int)} {left : List Int} (h : TB n count e tracks left) (hn : 1 ≤ n) (he : e < count) : TB n count (e + 1) tracks (left ++ [e]) := by
  have hl := h.size.1
  have h1 := h.enter (i := 0) (by omega) he
  have h2 := h1.leave (i := 0) (by omega) (getD_set_self (by omega))
  rw [List.set_set] at h2
  have : tracks.set 0 (tracks.getD 0 []) = tracks := by
    have e := getD_at (ls := tracks) (i := 0) (by omega)
    rw [List.getElem?_eq_some_iff] at e
    obtain ⟨q1, q2⟩ := e
    rw [← q2, List.set_getElem_self]
  rw [this] at h2
  exact h2
theorem TB.empty {n i : Nat} {count e : Int} {tracks : List (List Int)} {left : List Int} (h : TB n count e tracks left) (hi : i < n) : TB n count e (tracks.set i []) (left ++ (tracks.getD i []).reverse) := by
  obtain ⟨p, hp⟩ := empty_one hi _ (tracks.getD i []) (rangeI e count) left tracks rfl h.size.1 rfl
  exact ⟨h.r.more hp, h.e0, h.e1⟩
theorem tb_one {P : DEnds} {ns : List Int} {n : Nat} {b hd : Int} {count : Int} {s11 s12 : Sl} (hn : 1 ≤ n) (hc : count ≤ 60)
    (g : ∀ tracks left e s8 s9 s10, TB n count e tracks left → P.nx [.fz (.scr ns), .fz (.int n), .fz (.int b), .fz (.int hd), .fz (.int count), .l2 (llD tracks), .l1 (left.map D.int), .fz (.int e), s8, s9, s10, s11, s12]) :
    ∀ (m : Nat) (k hi : Int) (tracks : List (List Int)) (left : List Int) (e : Int) (s8 s9 s10 : Sl), 0 ≤ k → hi - k ≤ m → TB n count e tracks left →
    dForG d_law_turned_back_1 8 P (rangeD k hi) [.fz (.scr ns), .fz (.int n), .fz (.int b), .fz (.int hd), .fz (.int count), .l2 (llD tracks), .l1 (left.map D.int), .fz (.int e), s8, s9, s10, s11, s12]
  | 0, k, hi, tracks, left, e, s8, s9, s10, k0, hm, h => by
    rw [rangeD_nil (by omega)]
    exact g tracks left e s8 s9 s10 h
  | m + 1, k, hi, tracks, left, e, s8, s9, s10, k0, hm, h => by
    by_cases hk : k < hi
    · obtain ⟨z1, z2, z3⟩ := h.size
      have h0 := h.e0
      have h1 := h.e1
      rw [rangeD_cons hk]
      walk_at "w"
      refine ⟨ns, k, rfl, k0, ?_⟩
      walk_at "go"
      dsimp only [put]
      generalize cellAt ns k + ((hd.fdiv 216 + k) * 31).fmod 1009 = cell
      have am := fmod_rng (cell.fdiv 2) (show (0 : Int) < n by omega)
      generalize hat : (cell.fdiv 2).fmod (n : Int) = at_ at am ⊢
      obtain ⟨i, rfl⟩ : ∃ i : Nat, at_ = i := ⟨at_.toNat, by omega⟩
      have hi2 : i < n := by omega
      have ix : ixN (llD tracks).length (i : Int) = some i := by rw [llD_len]; exact ixN_nat (by omega)
      have tg := llD_get (ls := tracks) (i := i) (by omega)
      have tm := getD_mem (ls := tracks) (i := i) (by omega)
      have tz := z3 _ tm
      have out : dIfS (dT (dOp oGt (dLen (dI (dIx (dIv false 5) (dVar false 10)))) (dC (.int 0)))) (dAppPop2 6 5 (dVar false 10)) dNext
          { P with nx := dForG d_law_turned_back_1 8 P (rangeD (k + 1) hi), bk := P.nx, ct := dForG d_law_turned_back_1 8 P (rangeD (k + 1) hi) }
          [.fz (.scr ns), .fz (.int n), .fz (.int b), .fz (.int hd), .fz (.int count), .l2 (llD tracks), .l1 (left.map D.int), .fz (.int e), .fz (.int k), .fz (.int cell), .fz (.int i), s11, s12] := by
        walk_at "w"
        refine ⟨_, atI_ll (by omega), ?_⟩
        walk_at "w"
        refine ⟨fun hp => ?_, fun hp => ?_⟩
        · rw [decide_eq_true_iff, List.length_map] at hp
          have hne : tracks.getD i [] ≠ [] := fun z => by rw [z] at hp; exact absurd hp (by decide)
          have el := (List.dropLast_concat_getLast hne).symm
          have hlast : (tracks.getD i [])[(tracks.getD i []).length - 1]? = some ((tracks.getD i []).getLast hne) := by
            rw [← List.getLast?_eq_getElem?, List.getLast?_eq_some_getLast hne]
          walk_at "w"
          refine ⟨i, _, .int ((tracks.getD i []).getLast hne), ix, tg, by decide, ?_, by rw [List.length_map]; omega, ?_⟩
          · rw [List.length_map, List.getElem?_map, hlast]
            rfl
          · have ih := tb_one (P := P) (ns := ns) (b := b) (hd := hd) (s11 := s11) (s12 := s12) hn hc g m (k + 1) hi (tracks.set i (tracks.getD i []).dropLast) (left ++ [(tracks.getD i []).getLast hne]) e (.fz (.int k)) (.fz (.int cell)) (.fz (.int i)) (by omega) (by omega) (h.leave hi2 el)
            rw [llD_set, List.map_dropLast, List.map_append] at ih
            exact ih
        · exact tb_one hn hc g m (k + 1) hi tracks left e _ _ _ (by omega) (by omega) h
      walk_at "w"
      refine ⟨fun _ => ?_, fun _ => ⟨fun h => Bool.noConfusion h, fun _ => out⟩⟩
      walk_at "w"
      refine ⟨fun he => ?_, fun _ => out⟩
      rw [decide_eq_true_iff] at he
      walk_at "w"
      refine ⟨i, _, ix, tg, ?_⟩
      walk_at "w"
      refine ⟨by rw [List.length_map]; omega, ?_⟩
      walk_at "w"
      have ih := tb_one (P := P) (ns := ns) (b := b) (hd := hd) (s11 := s11) (s12 := s12) hn hc g m (k + 1) hi (tracks.set i (tracks.getD i [] ++ [e])) left (e + 1) (.fz (.int k)) (.fz (.int cell)) (.fz (.int i)) (by omega) (by omega) (h.enter hi2 he)
      rw [llD_set, List.map_append] at ih
      exact ih
    · rw [rangeD_nil (by omega)]
      exact g tracks left e s8 s9 s10 h
theorem tb_two {P : DEnds} {s0 s1 s2 s3 : Sl} {n : Nat} {count : Int} {tracks : List (List Int)} {s7 s9 s10 s11 s12 : Sl} (hn : 1 ≤ n) (hc : count ≤ 60)
    (g : ∀ left s8, TB n count count tracks left → P.nx [s0, s1, s2, s3, .fz (.int count), .l2 (llD tracks), .l1 (left.map D.int), s7, s8, s9, s10, s11, s12]) :
    ∀ (m : Nat) (e : Int) (left : List Int) (s8 : Sl), count - e ≤ m → TB n count e tracks left →
    dForG d_law_turned_back_2 8 P (rangeD e count) [s0, s1, s2, s3, .fz (.int count), .l2 (llD tracks), .l1 (left.map D.int), s7, s8, s9, s10, s11, s12]
  | 0, e, left, s8, hm, h => by
    rw [rangeD_nil (by omega)]
    have : e = count := by have := h.e1; omega
    subst this
    exact g left s8 h
  | m + 1, e, left, s8, hm, h => by
    by_cases he : e < count
    · obtain ⟨z1, z2, z3⟩ := h.size
      rw [rangeD_cons he]
      have ih := tb_two (P := P) (s0 := s0) (s1 := s1) (s2 := s2) (s3 := s3) (s7 := s7) (s9 := s9) (s10 := s10) (s11 := s11) (s12 := s12) hn hc g m (e + 1) (left ++ [e]) (.fz (.int e)) (by omega) (h.through hn he)
      rw [List.map_append] at ih
      walk_at "w"
      refine ⟨by rw [List.length_map]; omega, ?_⟩
      exact ih
    · rw [rangeD_nil (by omega)]
      have : e = count := by have := h.e1; omega
      subst this
      exact g left s8 h
theorem tb_three {P : DEnds} {s0 s1 s2 s3 s4 s5 : Sl} {n : Nat} {count : Int} {s7 s8 s9 s10 s12 : Sl} (hc : count ≤ 60)
    (g : ∀ left s11, TB n count count (List.replicate n []) left → P.nx [s0, s1, s2, s3, s4, s5, .l1 (left.map D.int), s7, s8, s9, s10, s11, s12]) :
    ∀ (todo : List (List Int)) (i : Nat) (left : List Int) (s11 : Sl), TB n count count (List.replicate i [] ++ todo) left → i + todo.length = n →
    dForG d_law_turned_back_3 11 P (todo.map dints) [s0, s1, s2, s3, s4, s5, .l1 (left.map D.int), s7, s8, s9, s10, s11, s12]
  | [], i, left, s11, h, hi => by
    rw [List.append_nil] at h
    simp only [List.length_nil, Nat.add_zero] at hi
    subst hi
    exact g left s11 h
  | t :: todo, i, left, s11, h, hi => by
    simp only [List.length_cons] at hi
    obtain ⟨z1, z2, z3⟩ := h.size
    have tz := z3 t (by simp)
    have h2 := h.empty (i := i) (by omega)
    have e1 : (List.replicate i ([] : List Int) ++ t :: todo).getD i [] = t := by
      rw [List.getD_eq_getElem?_getD, List.getElem?_append_right (by rw [List.length_replicate]; omega), List.length_replicate, Nat.sub_self]
      rfl
    have e2 : (List.replicate i ([] : List Int) ++ t :: todo).set i [] = List.replicate (i + 1) [] ++ todo := by
      rw [List.set_append_right _ _ (by rw [List.length_replicate]; omega), List.length_replicate, Nat.sub_self, List.set_cons_zero, List.replicate_succ', List.append_assoc]
      rfl
    rw [e1, e2] at h2
    have ih := tb_three (P := P) (s0 := s0) (s1 := s1) (s2 := s2) (s3 := s3) (s4 := s4) (s5 := s5) (s7 := s7) (s8 := s8) (s9 := s9) (s10 := s10) (s12 := s12) hc g todo (i + 1) (left ++ t.reverse) (.fz (dints t)) h2 (by omega)
    rw [List.map_append, List.map_reverse] at ih
    walk_at "w"
    refine ⟨by rw [List.length_map, List.length_reverse, List.length_map]; omega, ?_⟩
    exact ih
theorem idx_first {l : List Int} {k : Int} (h : k ∈ l) : l[l.idxOf k]? = some k ∧ ∀ m, m < l.idxOf k → l[m]? ≠ some k := by
  have hl := List.idxOf_lt_length_of_mem h
  refine ⟨by rw [List.getElem?_eq_getElem hl, List.getElem_idxOf hl], fun m hm z => ?_⟩
  have := List.not_of_lt_findIdx hm
  have hm2 : m < l.length := by omega
  rw [List.getElem?_eq_getElem hm2] at z
  rw [Option.some.inj z] at this
  simp at this
theorem at_step3 (i : Int) (h : 0 ≤ i ∧ i < 3) : ∃ m : Int, atI ([.int 1, .int 3, .int 900000000] : List D) i = some (.int m) ∧ 0 < m := by
  have : i = 0 ∨ i = 1 ∨ i = 2 := by omega
  rcases this with rfl | rfl | rfl
  · exact ⟨1, rfl, by decide⟩
  · exact ⟨3, rfl, by decide⟩
  · exact ⟨900000000, rfl, by decide⟩
theorem rangeI_nodup (lo hi : Int) : (rangeI lo hi).Nodup := by
  unfold rangeI
  rw [List.Nodup, List.pairwise_map]
  exact List.nodup_range.imp fun h z => h (by omega)
theorem th_law_turned_back : ∀ ds Q, sp_law_turned_back ds Q → d_law_turned_back (dEnds Q) (dstart 13 ds) := by
  rintro ds Q ⟨ns, n, bound, rfl, n1, n2, b0, b1, hq⟩
  walk_at "w"
  refine ⟨ns, 0, rfl, by decide, ?_⟩
  walk_at "go"
  generalize cellAt ns 0 = hd
  refine ⟨fun ρ => ∃ count : Int, 0 ≤ count ∧ count ≤ bound ∧ ρ = [.fz (.scr ns), .fz (.int n), .fz (.int bound), .fz (.int hd), .fz (.int count), .un, .un, .un, .un, .un, .un, .un, .un], ?_, ?_⟩
  · walk_at "go"
    refine ⟨fun _ => ?_, fun _ => ?_⟩
    · walk_at "go"
      have := fmod_rng (hd.fdiv 216) (show 0 < bound + 1 by omega)
      exact ⟨_, this.1, by omega, rfl⟩
    · have := fmod_rng (hd.fdiv 8) (show (0 : Int) < 9 by decide)
      exact ⟨_, this.1, by omega, rfl⟩
  rintro ρ ⟨count, c0, c1, rfl⟩
  walk_at "w"
  refine ⟨⟨by omega, by omega⟩, ?_⟩
  walk_at "w"
  have rl : (rangeD 0 (n : Int)).length = n := by rw [rangeD_len]; omega
  rw [rl]
  refine ⟨by omega, ?_⟩
  walk_at "go"
  have start : TB n count 0 (List.replicate n []) [] := ⟨Reach.start, by decide, c0⟩
  have e0 : llD (List.replicate n []) = List.replicate n [] := by unfold llD; rw [List.map_replicate]; rfl
  have one := tb_one (P := ⟨d_law_turned_back_t3 (dEnds Q), (dEnds Q).rt, (dEnds Q).bk, (dEnds Q).ct⟩) (ns := ns) (b := bound) (hd := hd) (s11 := .un) (s12 := .un) n1 (by omega : count ≤ 60) (fun tracks left e s8 s9 s10 h => ?_) (2 * count).toNat 2 (2 + 2 * count) _ _ 0 .un .un .un (by decide) (by omega) start
  · rw [e0] at one
    exact one
  obtain ⟨z1, z2, z3⟩ := h.size
  have he0 := h.e0
  have he1 := h.e1
  walk_at "go"
  refine tb_two (n := n) n1 (by omega) (fun left s8 h => ?_) (count - e).toNat e left s8 (by omega) h
  walk_at "w"
  rw [llD_lst]
  have h' := h
  refine tb_three (n := n) (count := count) (by omega) (fun left s11 h => ?_) tracks 0 left .un h (by rw [h.size.1]; omega)
  obtain ⟨z1, z2, z3⟩ := h.size
  walk_at "go"
  refine ⟨ns, 1, rfl, by decide, ?_⟩
  walk_at "go"
  generalize hcell : cellAt ns 1 = cl
  obtain ⟨step, hst, st0⟩ := at_step3 (cl.fmod 3) (fmod_rng _ (by decide))
  refine ⟨_, hst, ?_⟩
  have cs := fmod_rng (cl.fdiv 3) st0
  have rr := h.r
  rw [show rangeI count count = [] from rangeI_nil (by omega)] at rr
  have rn := renumber (rangeI_nodup 0 count) rr (step := step) (c := (cl.fdiv 3).fmod step) st0
  have pm : left.Perm (rangeI 0 count) := by
    have := rr.keeps.2
    unfold allY at this
    have e : ∀ n : Nat, (List.replicate n ([] : List Int)).flatten = [] := fun n => by
      induction n with
      | zero => rfl
      | succ n ih => rw [List.replicate_succ, List.flatten_cons, ih]; rfl
    simp only [e] at this
    simpa using this
  walk_at "w"
  refine ⟨⟨by omega, by omega⟩, ?_⟩
  walk_at "w"
  refine ⟨by rw [rangeD_len]; omega, ?_⟩
  rw [rangeD_eq]
  refine dLcG_map (fun d => match d with | .int k => .int ((left.idxOf k : Int) * step + (cl.fdiv 3).fmod step) | _ => .non) (fun x hx R hR => ?_) ?_
  · obtain ⟨k, hk, rfl⟩ := List.mem_map.mp hx
    obtain ⟨i1, i2⟩ := idx_first (pm.mem_iff.mpr hk)
    walk_at "w"
    refine ⟨left, left.idxOf k, rfl, i1, i2, ?_⟩
    walk_at "w"
    have il := List.idxOf_lt_length_of_mem (pm.mem_iff.mpr hk)
    refine ⟨Or.inl ⟨by omega, by omega⟩, ?_⟩
    walk_at "w"
    refine ⟨ns, 1, rfl, by decide, ?_⟩
    rw [hcell]
    walk_at "go"
    exact hR
  · have : dints ((rangeI 0 count).map fun k => (left.idxOf k : Int) * step + (cl.fdiv 3).fmod step) = .lst ([] ++ ((rangeI 0 count).map D.int).map fun d => match d with | .int k => .int ((left.idxOf k : Int) * step + (cl.fdiv 3).fmod step) | _ => .non) := by
      unfold dints
      rw [List.map_map, List.map_map, List.nil_append]
      rfl
    rw [← this]
    refine hq _ ⟨rn.1, by rw [List.length_map, rangeI_len]; omega, fun x hx => ?_⟩ rn.2
    obtain ⟨k, _, rfl⟩ := List.mem_map.mp hx
    have : 0 ≤ (left.idxOf k : Int) * step := Int.mul_nonneg (by omega) (by omega)
    omega
end DL

/-! M5: crossing pairs, paths and rings: plain mathematics -/
namespace DL
open PySem L2
local macro_rules | `(tactic| walk_at "w") => `(tactic| conv => whnf)
local macro_rules | `(tactic| walk_at "side") => `(tactic| first | omega | decide | exact Nat.le_of_ble_eq_true rfl | exact ⟨by decide, by decide⟩ | exact Or.inl ⟨by omega, by omega⟩ | exact Or.inr ⟨by omega, by omega⟩ | (show (_ : Int) ≠ 0; omega) | exact ⟨by omega, by omega⟩ | (rw [List.length_map]; omega) | (simp only [List.length_map, List.length_append, List.length_cons, List.length_nil]; omega))
local macro_rules | `(tactic| walk_at "go") => `(tactic| ((repeat ((conv => whnf); first | (refine And.intro ?_ ?_; · walk_at "side") | refine And.intro (fun h => Bool.noConfusion (show false = true from h)) (fun _ => ?_) | refine And.intro (fun _ => ?_) (fun h => Bool.noConfusion (show true = false from h)))); (conv => whnf)))
local macro_rules | `(tactic| walk_at "if") => `(tactic| refine ⟨fun hc => ?_, fun hc => ?_⟩)
/-! the pairs that cross -/
theorem mem_crossM {row : List Int} {a b : Int} : (a, b) ∈ crossM row ↔ Cross row a b := by
  unfold crossM crossK
  rw [List.mem_flatMap]
  constructor
  · rintro ⟨k, hk, h⟩
    unfold crossJ at h
    obtain ⟨j, hj, e⟩ := List.mem_map.mp h
    rw [List.mem_filter] at hj
    obtain ⟨hj, hc⟩ := hj
    have hk := mem_rangeI.mp hk
    have hj := mem_rangeI.mp hj
    cases e
    unfold crossB at hc
    rw [Bool.and_eq_true, decide_eq_true_iff] at hc
    obtain ⟨c, h2⟩ := Option.isSome_iff_exists.mp hc.2
    obtain ⟨c1, c2⟩ := lessM_some h2
    refine ⟨hc.1, c, c1, sub3_of (by omega) (by omega) ?_⟩
    rw [show j.toNat + 1 = (j + 1).toNat by omega]
    exact c2
  · rintro ⟨h1, c, h2, h3⟩
    obtain ⟨k, j, g1, g2, g3, g4, g5⟩ := sub3_at h3
    refine ⟨(k : Int), mem_rangeI.mpr ⟨by omega, by omega⟩, ?_⟩
    unfold crossJ
    refine List.mem_map.mpr ⟨(j : Int), List.mem_filter.mpr ⟨mem_rangeI.mpr ⟨by omega, by omega⟩, ?_⟩, ?_⟩
    · unfold crossB
      rw [Bool.and_eq_true, decide_eq_true_iff, Int.toNat_natCast, Int.toNat_natCast, g3, g4]
      refine ⟨h1, ?_⟩
      cases hm : lessM row ((j : Int) + 1) a with
      | some c => rfl
      | none =>
        refine (lessM_none hm (c := c) ?_ h2).elim
        rw [show ((j : Int) + 1).toNat = j + 1 by omega]
        exact g5
    · rw [Int.toNat_natCast, Int.toNat_natCast, g3, g4]
/-- either way round -/
def CrossU (row : List Int) (a b : Int) : Prop := Cross row a b ∨ Cross row b a
theorem CrossU.symm {row : List Int} {a b : Int} (h : CrossU row a b) : CrossU row b a := Or.symm h
theorem CrossU.ne {row : List Int} {a b : Int} (h : CrossU row a b) : a ≠ b := by
  rcases h with h | h
  · have := h.1; omega
  · have := h.1; omega
theorem Cross.mem {row : List Int} {a b : Int} (h : Cross row a b) : a ∈ row ∧ b ∈ row := by
  obtain ⟨_, c, _, h⟩ := h
  exact ⟨h.subset (by simp), h.subset (by simp)⟩
theorem CrossU.mem {row : List Int} {a b : Int} (h : CrossU row a b) : a ∈ row ∧ b ∈ row := by
  rcases h with h | h
  · exact h.mem
  · exact h.mem.symm
/-! neighbours in a list -/
def Adj (R : Int → Int → Prop) : List Int → Prop
  | [] => True
  | [_] => True
  | x :: y :: l => R x y ∧ Adj R (y :: l)
section
variable {R S : Int → Int → Prop}
theorem Adj.tail {x : Int} {l : List Int} (h : Adj R (x :: l)) : Adj R l := by
  cases l with
  | nil => trivial
  | cons y l => exact h.2
theorem Adj.mono (f : ∀ x y, R x y → S x y) : ∀ {l : List Int}, Adj R l → Adj S l
  | [], _ => trivial
  | [_], _ => trivial
  | _ :: _ :: _, h => ⟨f _ _ h.1, Adj.mono f h.2⟩
theorem Adj.monoOn : ∀ {l : List Int}, (∀ x y, x ∈ l → y ∈ l → R x y → S x y) → Adj R l → Adj S l
  | [], _, _ => trivial
  | [_], _, _ => trivial
  | _ :: _ :: _, f, h => ⟨f _ _ (by simp) (by simp) h.1, Adj.monoOn (fun x y hx hy => f x y (List.mem_cons_of_mem _ hx) (List.mem_cons_of_mem _ hy)) h.2⟩
theorem Adj.join {x : Int} {b : List Int} : ∀ {a : List Int}, Adj R (a ++ [x]) → Adj R (x :: b) → Adj R (a ++ x :: b)
  | [], _, h => h
  | [y], h, g => ⟨h.1, g⟩
  | y :: z :: a, h, g => ⟨h.1, Adj.join (a := z :: a) h.2 g⟩
theorem Adj.left {b : List Int} : ∀ {a : List Int}, Adj R (a ++ b) → Adj R a
  | [], _ => trivial
  | [_], _ => trivial
  | _ :: _ :: _, h => ⟨h.1, Adj.left h.2⟩
theorem Adj.right {b : List Int} : ∀ {a : List Int}, Adj R (a ++ b) → Adj R b
  | [], h => h
  | x :: a, h => Adj.right (a := a) (Adj.tail (x := x) h)
theorem Adj.rev : ∀ {l : List Int}, Adj R l → Adj (fun x y => R y x) l.reverse
  | [], _ => trivial
  | [_], _ => trivial
  | x :: y :: l, h => by
    have ih := Adj.rev h.2
    rw [List.reverse_cons] at ih
    rw [List.reverse_cons, List.reverse_cons, List.append_assoc]
    exact Adj.join ih ⟨h.1, trivial⟩
theorem Adj.at : ∀ {l : List Int} {i : Nat}, Adj R l → i + 1 < l.length → R (l.getD i 0) (l.getD (i + 1) 0)
  | [], _, _, h => by simp at h
  | [_], _, _, h => by simp at h
  | _ :: _ :: _, 0, h, _ => h.1
  | _ :: y :: l, i + 1, h, hi => Adj.at (l := y :: l) h.2 (by simp at hi ⊢; omega)
end
/-- each one's parent stands just ahead -/
def Down (m : List (Int × Int)) (r : List Int) : Prop := Adj (fun p q => lookI m q = some p) r
/-- the common way from the root is left out, but for its last -/
def cutR : List Int → List Int → List Int × List Int
  | x :: y :: l, x' :: y' :: l' => if y = y' then cutR (y :: l) (y' :: l') else (x :: y :: l, x' :: y' :: l')
  | l, l' => (l, l')
theorem parent_snoc {m : List (Int × Int)} {A : List Int} {z : Int} : ∀ {x : Int}, Down m (x :: (A ++ [z])) → lookI m z = some (lastI (x :: A)) := by
  induction A with
  | nil => intro x h; exact h.1
  | cons y A ih =>
    intro x h
    rw [ih h.2]
    rfl
theorem snoc_cases (l : List Int) : l = [] ∨ ∃ a x, l = a ++ [x] := by
  by_cases h : l = []
  · exact .inl h
  · exact .inr ⟨_, _, (List.dropLast_concat_getLast h).symm⟩
/-- two ways down from `x` that meet again are the same at first -/
theorem meet {m : List (Int × Int)} {x : Int} : ∀ (n : Nat) {A B : List Int} {z : Int}, A.length = n → Down m (x :: (A ++ [z])) → Down m (x :: (B ++ [z])) → x ∉ A ++ [z] → x ∉ B ++ [z] → (A ++ [z]).head? = (B ++ [z]).head?
  | 0, A, B, z, hn, hA, hB, nA, nB => by
    have : A = [] := List.length_eq_zero_iff.mp hn
    subst this
    have e1 := parent_snoc hA
    have e2 := parent_snoc hB
    rw [e1] at e2
    have e3 := Option.some.inj e2
    rcases snoc_cases B with rfl | ⟨B, y, rfl⟩
    · rfl
    · have : x = y := by rw [← List.cons_append, lastI_append] at e3; exact e3
      exact (nB (by rw [this]; simp)).elim
  | n + 1, A, B, z, hn, hA, hB, nA, nB => by
    have e1 := parent_snoc hA
    have e2 := parent_snoc hB
    rw [e1] at e2
    have e3 := Option.some.inj e2
    rcases snoc_cases A with rfl | ⟨A, u, rfl⟩
    · simp at hn
    · have eu : lastI (x :: (A ++ [u])) = u := by rw [← List.cons_append, lastI_append]
      rcases snoc_cases B with rfl | ⟨B, v, rfl⟩
      · rw [eu] at e3
        have : u = x := e3
        exact (nA (by rw [← this]; simp)).elim
      · have ev : lastI (x :: (B ++ [v])) = v := by rw [← List.cons_append, lastI_append]
        rw [eu, ev] at e3
        subst e3
        rw [List.length_append, List.length_singleton] at hn
        have ih := meet n (A := A) (B := B) (z := u) (by omega) (by rw [← List.cons_append] at hA; exact Adj.left hA) (by rw [← List.cons_append] at hB; exact Adj.left hB) (fun z => nA (List.mem_append.mpr (.inl z))) (fun z => nB (List.mem_append.mpr (.inl z)))
        have hd : ∀ (l : List Int) (z : Int), l ≠ [] → (l ++ [z]).head? = l.head? := fun l z h => by cases l with | nil => exact (h rfl).elim | cons => rfl
        rw [hd (A ++ [u]) z (by simp), hd (B ++ [u]) z (by simp)]
        exact ih
/-! the ring of two ways down -/
structure CutOk (m : List (Int × Int)) (r1 r2 c1 c2 : List Int) : Prop where
  s1 : ∃ p, r1 = p ++ c1
  s2 : ∃ p, r2 = p ++ c2
  len : r1.length + c2.length = r2.length + c1.length
  top : ∃ x A B, c1 = x :: A ∧ c2 = x :: B ∧ (A.head? = B.head? → A = [] ∨ B = [])
theorem cutR_ok {m : List (Int × Int)} : ∀ (l l' : List Int) (x : Int), CutOk m (x :: l) (x :: l') (cutR (x :: l) (x :: l')).1 (cutR (x :: l) (x :: l')).2
  | [], l', x => by
    have : cutR [x] (x :: l') = ([x], x :: l') := by unfold cutR; rfl
    rw [this]
    exact ⟨⟨[], rfl⟩, ⟨[], rfl⟩, Nat.add_comm _ _, x, [], l', rfl, rfl, fun _ => .inl rfl⟩
  | y :: l, [], x => by
    have : cutR (x :: y :: l) [x] = (x :: y :: l, [x]) := by unfold cutR; rfl
    rw [this]
    exact ⟨⟨[], rfl⟩, ⟨[], rfl⟩, Nat.add_comm _ _, x, y :: l, [], rfl, rfl, fun _ => .inr rfl⟩
  | y :: l, y' :: l', x => by
    by_cases e : y = y'
    · subst e
      have : cutR (x :: y :: l) (x :: y :: l') = cutR (y :: l) (y :: l') := by
        conv => lhs; unfold cutR
        rw [if_pos rfl]
      rw [this]
      obtain ⟨⟨p, hp⟩, ⟨q, hq⟩, h3, h4⟩ := cutR_ok (m := m) l l' y
      exact ⟨⟨x :: p, by rw [List.cons_append, ← hp]⟩, ⟨x :: q, by rw [List.cons_append, ← hq]⟩, by simp only [List.length_cons] at h3 ⊢; omega, h4⟩
    · have : cutR (x :: y :: l) (x :: y' :: l') = (x :: y :: l, x :: y' :: l') := by
        conv => lhs; unfold cutR
        rw [if_neg e]
      rw [this]
      exact ⟨⟨[], rfl⟩, ⟨[], rfl⟩, Nat.add_comm _ _, x, y :: l, y' :: l', rfl, rfl, fun h => (e (by simpa using h)).elim⟩
structure RingOk (row ring : List Int) : Prop where
  nd : ring.Nodup
  odd : ring.length % 2 = 1
  ge : 3 ≤ ring.length
  adj : Adj (CrossU row) ring
  close : CrossU row (lastI ring) (ring.getD 0 0)
theorem lastI_suffix {p c : List Int} (h : c ≠ []) : lastI (p ++ c) = lastI c := by
  rcases snoc_cases c with rfl | ⟨a, x, rfl⟩
  · exact (h rfl).elim
  · rw [← List.append_assoc, lastI_append, lastI_append]
theorem ring_ok {row : List Int} {m : List (Int × Int)} {x : Int} {l l' : List Int} (d1 : Down m (x :: l)) (d2 : Down m (x :: l')) (n1 : (x :: l).Nodup) (n2 : (x :: l').Nodup) (a1 : Adj (CrossU row) (x :: l)) (a2 : Adj (CrossU row) (x :: l'))
    (par : (x :: l).length % 2 = (x :: l').length % 2) (hc : CrossU row (lastI (x :: l)) (lastI (x :: l'))) : RingOk row ((cutR (x :: l) (x :: l')).1.reverse ++ (cutR (x :: l) (x :: l')).2.tail) := by
  obtain ⟨⟨p, hp⟩, ⟨q, hq⟩, h3, y, A, B, e1, e2, h4⟩ := cutR_ok (m := m) l l' x
  rw [e1] at hp h3 ⊢
  rw [e2] at hq h3 ⊢
  rw [hp] at d1 n1 a1 par hc h3
  rw [hq] at d2 n2 a2 par hc h3
  rw [lastI_suffix (by simp), lastI_suffix (by simp)] at hc
  have D1 := Adj.right d1
  have D2 := Adj.right d2
  have A1 := Adj.right a1
  have A2 := Adj.right a2
  have N1 := (List.nodup_append.mp n1).2.1
  have N2 := (List.nodup_append.mp n2).2.1
  obtain ⟨y1, N1'⟩ := List.nodup_cons.mp N1
  obtain ⟨y2, N2'⟩ := List.nodup_cons.mp N2
  rw [List.tail_cons, List.reverse_cons, List.append_assoc, List.singleton_append]
  have apart : ∀ z ∈ A, z ∉ B := fun z hA hB => by
    obtain ⟨A', A'', rfl⟩ := List.append_of_mem hA
    obtain ⟨B', B'', rfl⟩ := List.append_of_mem hB
    have q1 : Down m (y :: (A' ++ [z])) := by
      have : y :: (A' ++ z :: A'') = (y :: (A' ++ [z])) ++ A'' := by simp
      rw [this] at D1
      exact Adj.left D1
    have q2 : Down m (y :: (B' ++ [z])) := by
      have : y :: (B' ++ z :: B'') = (y :: (B' ++ [z])) ++ B'' := by simp
      rw [this] at D2
      exact Adj.left D2
    have := meet A'.length rfl q1 q2 (fun w => y1 (by simp at w ⊢; rcases w with w | w <;> simp [w])) (fun w => y2 (by simp at w ⊢; rcases w with w | w <;> simp [w]))
    have e3 : (A' ++ z :: A'').head? = (A' ++ [z]).head? := by cases A' <;> rfl
    have e4 : (B' ++ z :: B'').head? = (B' ++ [z]).head? := by cases B' <;> rfl
    rcases h4 (by rw [e3, e4, this]) with h | h
    · simp at h
    · simp at h
  have hd : lastI (A.reverse ++ y :: B) = lastI (y :: B) := lastI_suffix (by simp)
  have h0 : (A.reverse ++ y :: B).getD 0 0 = lastI (y :: A) := by
    rcases snoc_cases A with rfl | ⟨A, u, rfl⟩
    · rfl
    · rw [← List.cons_append, lastI_append, List.reverse_append]
      rfl
  have h3' : p.length + A.length + (B.length + 1) = q.length + B.length + (A.length + 1) := by
    simp only [List.length_append, List.length_cons] at h3
    omega
  simp only [List.length_append, List.length_cons] at par
  have len : (A.reverse ++ y :: B).length = A.length + (B.length + 1) := by rw [List.length_append, List.length_reverse, List.length_cons]
  refine ⟨?_, by rw [len]; omega, ?_, ?_, ?_⟩
  · rw [List.nodup_append]
    refine ⟨(List.reverse_perm A).nodup_iff.mpr N1', N2, fun a ha b hb z => ?_⟩
    subst z
    rw [List.mem_reverse] at ha
    rcases List.mem_cons.mp hb with rfl | hb
    · exact y1 ha
    · exact apart a ha hb
  · rw [len]
    have ne := hc.ne
    have : A.length + B.length ≠ 0 := fun z => by
      have z1 : A = [] := List.length_eq_zero_iff.mp (by omega)
      have z2 : B = [] := List.length_eq_zero_iff.mp (by omega)
      rw [z1, z2] at ne
      exact ne rfl
    omega
  · refine Adj.join ?_ A2
    have := Adj.rev A1
    rw [List.reverse_cons] at this
    exact this.mono fun x y h => h.symm
  · rw [hd, h0]
    exact hc.symm
end DL

/-! F10: neighbours, way_up, ring_of -/
namespace DL
open PySem L2
local macro_rules | `(tactic| walk_at "w") => `(tactic| conv => whnf)
local macro_rules | `(tactic| walk_at "side") => `(tactic| first | omega | decide | exact Nat.le_of_ble_eq_true rfl | exact ⟨by decide, by decide⟩ | exact Or.inl ⟨by omega, by omega⟩ | exact Or.inr ⟨by omega, by omega⟩ | (show (_ : Int) ≠ 0; omega) | exact ⟨by omega, by omega⟩ | (rw [List.length_map]; omega) | (simp only [List.length_map, List.length_append, List.length_cons, List.length_nil]; omega))
local macro_rules | `(tactic| walk_at "go") => `(tactic| ((repeat ((conv => whnf); first | (refine And.intro ?_ ?_; · walk_at "side") | refine And.intro (fun h => Bool.noConfusion (show false = true from h)) (fun _ => ?_) | refine And.intro (fun _ => ?_) (fun h => Bool.noConfusion (show true = false from h)))); (conv => whnf)))
local macro_rules | `(tactic| walk_at "if") => `(tactic| refine ⟨fun hc => ?_, fun hc => ?_⟩)
def lmap (m : List (Int × List Int)) : List (Int × D) := m.map fun p => (p.1, dints p.2)
def lown (m : List (Int × List Int)) : List (Int × List D) := m.map fun p => (p.1, p.2.map D.int)
theorem lookI_lmap (m : List (Int × List Int)) (k : Int) : lookI (lmap m) k = (lookI m k).map dints := lookI_map dints m k
theorem lookI_lown (m : List (Int × List Int)) (k : Int) : lookI (lown m) k = (lookI m k).map (·.map D.int) := lookI_map (fun l : List Int => l.map D.int) m k
structure NearOk (row : List Int) (m : List (Int × List Int)) : Prop where
  all : ∀ w ∈ row, ∃ l, lookI m w = some l ∧ ∀ x, x ∈ l ↔ CrossU row w x
def sp_neighbours : DSp := fun ds Q => ∃ row : List Int, ds = [dints row] ∧ row.Nodup ∧ row.length ≤ 63 ∧ ∀ m, NearOk row m → Q (.dct (lmap m))
def d_neighbours_1 : DS := (dPutNil 1 (dVar false 2))
def d_neighbours_2 : DS := (dSeq (dAppK 1 (dIx (dIv false 3) (dC (.int 0))) (dIx (dIv true 3) (dC (.int 1))))
  (dAppK 1 (dIx (dIv false 3) (dC (.int 1))) (dIx (dIv true 3) (dC (.int 0)))))
def d_neighbours_t1 : DS := (dRet (dVar true 1))
def d_neighbours_t2 : DS := (dSeq (dFor (dS (dCall sp_crossing (dCons (dVar true 0) dNil))) 3 d_neighbours_2)
  d_neighbours_t1)
def d_neighbours : DS := (dSeq (dNewL 1)
  (dSeq (dFor (dS (dVar true 0)) 2 d_neighbours_1)
  d_neighbours_t2))
theorem ln_neighbours : ∀ ds Q, sp_neighbours ds Q → ds.length = 1 := by
  rintro ds Q ⟨_, rfl, _⟩
  rfl
theorem near_nil {P : DEnds} {row : List Int} (nd : row.Nodup) (hl : row.length ≤ 63) (g : ∀ m s2 s3, m.map (·.1) = row → (∀ w ∈ row, lookI m w = some []) → P.nx [.fz (dints row), .dl (lown m), s2, s3]) :
    ∀ (todo done : List Int) (m : List (Int × List Int)) (s2 s3 : Sl), done ++ todo = row → m.map (·.1) = done → (∀ w ∈ done, lookI m w = some []) → (∀ w, w ∉ done → lookI m w = none) →
    dForG d_neighbours_1 2 P (todo.map D.int) [.fz (dints row), .dl (lown m), s2, s3]
  | [], done, m, s2, s3, e, hk, h, _ => by
    rw [List.append_nil] at e
    subst e
    exact g m s2 s3 hk h
  | w :: todo, done, m, s2, s3, e, hk, h, hn => by
    have len : row.length = done.length + (todo.length + 1) := by rw [← e, List.length_append, List.length_cons]
    have ml : m.length = done.length := by rw [← hk, List.length_map]
    have wd : w ∉ done := fun z => by
      have nd2 := nd
      rw [← e, List.nodup_append] at nd2
      exact nd2.2.2 w z w (List.mem_cons_self ..) rfl
    have ih := near_nil (P := P) nd hl g todo (done ++ [w]) (m ++ [(w, [])]) (.fz (.int w)) s3 (by rw [← e]; simp) (by rw [List.map_append, hk]; rfl) (fun x hx => by
      rw [lookI_append]
      rcases List.mem_append.mp hx with hx | hx
      · rw [h x hx]; rfl
      · rw [List.mem_singleton.mp hx, hn w wd]
        simp [lookI]) (fun x hx => by
      rw [lookI_append, hn x (fun z => hx (List.mem_append.mpr (.inl z)))]
      have : w ≠ x := fun z => hx (by rw [z]; simp)
      simp [lookI, this])
    walk_at "w"
    refine ⟨by unfold lown; rw [List.length_map]; omega, by rw [lookI_lown, hn w wd]; rfl, ?_⟩
    unfold lown at ih ⊢
    rw [List.map_append] at ih
    exact ih
theorem near_pairs {P : DEnds} {row : List Int} (nd : row.Nodup) (hl : row.length ≤ 63) (ps : List (Int × Int)) (hps : ps.length ≤ 10000) (hin : ∀ a b, (a, b) ∈ ps → a ∈ row ∧ b ∈ row)
    (g : ∀ m s2 s3, (∀ w ∈ row, ∃ l, lookI m w = some l ∧ ∀ x, x ∈ l ↔ (w, x) ∈ ps ∨ (x, w) ∈ ps) → P.nx [.fz (dints row), .dl (lown m), s2, s3]) :
    ∀ (todo done : List (Int × Int)) (m : List (Int × List Int)) (s2 s3 : Sl), done ++ todo = ps → m.map (·.1) = row → (∀ w ∈ row, ∃ l, lookI m w = some l ∧ l.length ≤ 2 * done.length ∧ ∀ x, x ∈ l ↔ (w, x) ∈ done ∨ (x, w) ∈ done) →
    dForG d_neighbours_2 3 P (todo.map pairD) [.fz (dints row), .dl (lown m), s2, s3]
  | [], done, m, s2, s3, e, hk, h => by
    rw [List.append_nil] at e
    subst e
    exact g m s2 s3 (fun w hw => by obtain ⟨l, h1, _, h3⟩ := h w hw; exact ⟨l, h1, h3⟩)
  | (a, b) :: todo, done, m, s2, s3, e, hk, h => by
    have len : ps.length = done.length + (todo.length + 1) := by rw [← e, List.length_append, List.length_cons]
    obtain ⟨ha, hb⟩ := hin a b (by rw [← e]; simp)
    obtain ⟨la, l1, l2, l3⟩ := h a ha
    have keys : ∀ (m : List (Int × List Int)) (k : Int) (l : List Int), (lookI m k).isSome → (putI m k l).map (·.1) = m.map (·.1) := fun m k l hs => by
      rw [putI_at hs, List.map_map]
      apply List.map_congr_left
      intro p _
      show (if p.1 = k then (p.1, l) else p).1 = p.1
      split <;> rfl
    have ka : ∀ m : List (Int × List Int), m.map (·.1) = row → KeysApart (lown m) := fun m hm => by
      unfold KeysApart lown
      rw [List.map_map]
      show (m.map (·.1)).Nodup
      rw [hm]
      exact nd
    have hk1 : (putI m a (la ++ [b])).map (·.1) = row := by rw [keys _ _ _ (by rw [l1]; rfl), hk]
    obtain ⟨lb, k1, k2, k3⟩ : ∃ l, lookI (putI m a (la ++ [b])) b = some l ∧ l.length ≤ 2 * done.length + 1 ∧ ∀ x, x ∈ l ↔ ((b, x) ∈ done ∨ (x, b) ∈ done) ∨ (a = b ∧ x = b) := by
      rw [lookI_put]
      by_cases z : a = b
      · subst z
        rw [if_pos rfl]
        refine ⟨_, rfl, by rw [List.length_append, List.length_singleton]; omega, fun x => ?_⟩
        rw [List.mem_append, l3, List.mem_singleton]
        simp
      · rw [if_neg z]
        obtain ⟨l, q1, q2, q3⟩ := h b hb
        refine ⟨l, q1, by omega, fun x => ?_⟩
        rw [q3]
        simp [z]
    have ih := near_pairs (P := P) nd hl ps hps hin g todo (done ++ [(a, b)]) (putI (putI m a (la ++ [b])) b (lb ++ [a])) s2 (.fz (pairD (a, b))) (by rw [← e]; simp) (by rw [keys _ _ _ (by rw [k1]; rfl), hk1]) (fun w hw => by
      rw [lookI_put]
      by_cases z : b = w
      · subst z
        rw [if_pos rfl]
        refine ⟨_, rfl, by rw [List.length_append, List.length_append, List.length_singleton, List.length_singleton]; omega, fun x => ?_⟩
        simp only [List.mem_append, List.mem_singleton, k3, Prod.mk.injEq]
        constructor
        · rintro ((h | h) | h)
          · rcases h with h | h
            · exact .inl (.inl h)
            · exact .inr (.inl h)
          · exact .inl (.inr ⟨h.1.symm, h.2⟩)
          · exact .inr (.inr ⟨h, trivial⟩)
        · rintro ((h | h) | (h | h))
          · exact .inl (.inl (.inl h))
          · exact .inl (.inr ⟨h.1.symm, h.2⟩)
          · exact .inl (.inl (.inr h))
          · exact .inr h.1
      · rw [if_neg z, lookI_put]
        by_cases z2 : a = w
        · subst z2
          rw [if_pos rfl]
          refine ⟨_, rfl, by rw [List.length_append, List.length_append, List.length_singleton, List.length_singleton]; omega, fun x => ?_⟩
          simp only [List.mem_append, List.mem_singleton, l3, Prod.mk.injEq]
          constructor
          · rintro ((h | h) | h)
            · exact .inl (.inl h)
            · exact .inr (.inl h)
            · exact .inl (.inr ⟨trivial, h⟩)
          · rintro ((h | h) | (h | h))
            · exact .inl (.inl h)
            · exact .inr h.2
            · exact .inl (.inr h)
            · exact (z h.2.symm).elim
        · rw [if_neg z2]
          obtain ⟨l, q1, q2, q3⟩ := h w hw
          refine ⟨l, q1, by rw [List.length_append]; omega, fun x => ?_⟩
          simp only [List.mem_append, List.mem_singleton, q3, Prod.mk.injEq]
          constructor
          · rintro (h | h)
            · exact .inl (.inl h)
            · exact .inr (.inl h)
          · rintro ((h | h) | (h | h))
            · exact .inl h
            · exact (z2 h.1.symm).elim
            · exact .inr h
            · exact (z h.2.symm).elim)
    have pm : ∀ (m : List (Int × List Int)) (k : Int) (l : List Int) (x : Int), putI (lown m) k (l.map D.int ++ [.int x]) = lown (putI m k (l ++ [x])) := fun m k l x => by
      have := putI_map (fun l : List Int => l.map D.int) m k (l ++ [x])
      rw [List.map_append] at this
      exact this
    walk_at "w"
    refine ⟨_, rfl, ?_⟩
    walk_at "w"
    refine ⟨la.map D.int, by rw [lookI_lown, l1]; rfl, ka m hk, ?_⟩
    walk_at "w"
    refine ⟨_, rfl, ?_⟩
    walk_at "w"
    refine ⟨by rw [List.length_map]; omega, ?_⟩
    walk_at "w"
    refine ⟨_, rfl, ?_⟩
    walk_at "w"
    rw [pm]
    refine ⟨lb.map D.int, by rw [lookI_lown, k1]; rfl, ka _ hk1, ?_⟩
    walk_at "w"
    refine ⟨_, rfl, ?_⟩
    walk_at "w"
    refine ⟨by rw [List.length_map]; omega, ?_⟩
    rw [pm]
    exact ih
theorem th_neighbours : ∀ ds Q, sp_neighbours ds Q → d_neighbours (dEnds Q) (dstart 4 ds) := by
  rintro ds Q ⟨row, rfl, nd, hl, hq⟩
  walk_at "w"
  refine near_nil nd hl (fun m s2 s3 hk h => ?_) row [] [] .un .un rfl rfl (fun w hw => by cases hw) (fun w _ => rfl)
  have cl := crossK_len (row := row) row.length 0 (by decide) (by omega)
  have mul : row.length * row.length ≤ 63 * 63 := Nat.mul_le_mul hl hl
  walk_at "w"
  refine ⟨row, rfl, by omega, ?_⟩
  refine near_pairs nd hl (crossM row) (by unfold crossM; omega) (fun a b hab => (mem_crossM.mp hab).mem) (fun m s2 s3 h => ?_) (crossM row) [] m s2 s3 rfl hk (fun w hw => ⟨[], h w hw, by simp, fun x => by simp⟩)
  walk_at "w"
  have : (lown m).map (fun p => (p.1, D.lst p.2)) = lmap m := by
    unfold lown lmap
    rw [List.map_map]
    rfl
  rw [this]
  refine hq m ⟨fun w hw => ?_⟩
  obtain ⟨l, h1, h2⟩ := h w hw
  refine ⟨l, h1, fun x => ?_⟩
  rw [h2, mem_crossM, mem_crossM]
  rfl
end DL

/-! F11: way_up, ring_of -/
namespace DL
open PySem L2
local macro_rules | `(tactic| walk_at "w") => `(tactic| conv => whnf)
local macro_rules | `(tactic| walk_at "side") => `(tactic| first | omega | decide | exact Nat.le_of_ble_eq_true rfl | exact ⟨by decide, by decide⟩ | exact Or.inl ⟨by omega, by omega⟩ | exact Or.inr ⟨by omega, by omega⟩ | (show (_ : Int) ≠ 0; omega) | exact ⟨by omega, by omega⟩ | (rw [List.length_map]; omega) | (simp only [List.length_map, List.length_append, List.length_cons, List.length_nil]; omega))
local macro_rules | `(tactic| walk_at "go") => `(tactic| ((repeat ((conv => whnf); first | (refine And.intro ?_ ?_; · walk_at "side") | refine And.intro (fun h => Bool.noConfusion (show false = true from h)) (fun _ => ?_) | refine And.intro (fun _ => ?_) (fun h => Bool.noConfusion (show true = false from h)))); (conv => whnf)))
local macro_rules | `(tactic| walk_at "if") => `(tactic| refine ⟨fun hc => ?_, fun hc => ?_⟩)
structure WayUp (m : List (Int × Int)) (path : List Int) : Prop where
  up : Adj (fun p q => lookI m p = some q) path
  end_ : lookI m (lastI path) = none
def sp_way_up : DSp := fun ds Q => ∃ (m : List (Int × Int)) (w : Int) (l : List Int), ds = [.dct (dmap m), .int w] ∧ WayUp m (w :: l) ∧ l.length ≤ 1000 ∧ Q (dints (w :: l))
def d_way_up_1 : DT := (dInD false (dIx (dIv false 2) (dNeg (dC (.int 1)))) 0)
def d_way_up_2 : DS := (dApp 2 (dGet true 0 (dIx (dIv false 2) (dNeg (dC (.int 1))))))
def d_way_up_t1 : DS := (dRet (dVar true 2))
def d_way_up : DS := (dSeq (dSetL 2 (dLst (dCons (dVar true 1) dNil)))
  (dSeq (dWhile d_way_up_1 d_way_up_2)
  d_way_up_t1))
theorem ln_way_up : ∀ ds Q, sp_way_up ds Q → ds.length = 2 := by
  rintro ds Q ⟨_, _, _, rfl, _⟩
  rfl
theorem adj_mid {R : Int → Int → Prop} {pre rest : List Int} {y : Int} (h : Adj R (pre ++ y :: rest)) (ne : pre ≠ []) : R (lastI pre) y := by
  rcases snoc_cases pre with rfl | ⟨a, x, rfl⟩
  · exact (ne rfl).elim
  · rw [List.append_assoc] at h
    rw [lastI_append]
    exact (Adj.right h).1
theorem th_way_up : ∀ ds Q, sp_way_up ds Q → d_way_up (dEnds Q) (dstart 3 ds) := by
  rintro ds Q ⟨m, w, l, rfl, hw, hl, hq⟩
  walk_at "go"
  refine ⟨fun k ρ => ∃ pre rest : List Int, ρ = [.fz (.dct (dmap m)), .fz (.int w), .l1 (pre.map D.int)] ∧ pre ≠ [] ∧ pre ++ rest = w :: l ∧ k = rest.length, ⟨l.length, [w], l, rfl, by simp, rfl, rfl⟩, ?_⟩
  rintro k ρ ⟨pre, rest, rfl, ne, e, rfl⟩
  have len : pre.length + rest.length = l.length + 1 := by rw [← List.length_append, e]; rfl
  walk_at "w"
  refine ⟨_, atI_neg1 ne, ?_⟩
  walk_at "w"
  rw [lookI_dmap]
  cases rest with
  | nil =>
    rw [List.append_nil] at e
    subst e
    rw [hw.end_]
    walk_at "go"
    exact hq
  | cons y rest =>
    have hy : lookI m (lastI pre) = some y := adj_mid (by rw [e]; exact hw.up) ne
    rw [hy]
    walk_at "go"
    refine ⟨_, atI_neg1 ne, ?_⟩
    walk_at "w"
    refine ⟨.int y, by rw [lookI_dmap, hy]; rfl, ?_⟩
    simp only [List.length_cons] at len
    walk_at "w"
    refine ⟨by rw [List.length_map]; omega, ?_⟩
    refine ⟨rest.length, by simp, pre ++ [y], rest, ?_, by simp, by rw [← e]; simp, rfl⟩
    rw [List.map_append]
    rfl
def sp_ring_of : DSp := fun ds Q => ∃ (m : List (Int × Int)) (x : Int) (l l' : List Int), ds = [.dct (dmap m), .int (lastI (x :: l)), .int (lastI (x :: l'))] ∧ Down m (x :: l) ∧ Down m (x :: l') ∧ lookI m x = none ∧ l.length ≤ 500 ∧ l'.length ≤ 500 ∧
  Q (dints ((cutR (x :: l) (x :: l')).1.reverse ++ (cutR (x :: l) (x :: l')).2.tail))
def d_ring_of_1 : DT := (dAnd (dT (dOp oGt (dLen (dIv false 3)) (dC (.int 1)))) (dAnd (dT (dOp oGt (dLen (dIv false 4)) (dC (.int 1)))) (dT (dOp (oEq false) (dIx (dIv false 3) (dNeg (dC (.int 2)))) (dIx (dIv false 4) (dNeg (dC (.int 2))))))))
def d_ring_of_2 : DS := (dSeq (dPop 3)
  (dPop 4))
def d_ring_of_3 : DE := (dIx (dIv true 4) (dOp oSub (dOp oSub (dLen (dIv false 4)) (dC (.int 2))) (dVar false 5)))
def d_ring_of_t1 : DS := (dRet (dL (dCat (dXv true 3) (dLc (dRng1 (dCons (dOp oSub (dLen (dIv false 4)) (dC (.int 1))) dNil)) 5 dYes d_ring_of_3))))
def d_ring_of : DS := (dSeq (dSetL 3 (dCallL sp_way_up (dCons (dVar true 0) (dCons (dVar true 1) dNil))))
  (dSeq (dSetL 4 (dCallL sp_way_up (dCons (dVar true 0) (dCons (dVar true 2) dNil))))
  (dSeq (dWhile d_ring_of_1 d_ring_of_2)
  d_ring_of_t1)))
theorem ln_ring_of : ∀ ds Q, sp_ring_of ds Q → ds.length = 3 := by
  rintro ds Q ⟨_, _, _, _, rfl, _⟩
  rfl
theorem way_of {m : List (Int × Int)} {x : Int} {l : List Int} (d : Down m (x :: l)) (r : lookI m x = none) : WayUp m (x :: l).reverse ∧ ∃ u, (x :: l).reverse = lastI (x :: l) :: u ∧ u.length = l.length := by
  refine ⟨⟨(Adj.rev d), by rw [List.reverse_cons, lastI_append]; exact r⟩, ?_⟩
  rcases snoc_cases (x :: l) with h | ⟨a, z, h⟩
  · cases h
  · rw [h, lastI_append, List.reverse_append]
    refine ⟨a.reverse, rfl, ?_⟩
    have := congrArg List.length h
    simp only [List.length_cons, List.length_append, List.length_nil] at this
    rw [List.length_reverse]
    omega
theorem atI_back2 {x y : Int} {l : List Int} : atI ((x :: y :: l).reverse.map D.int) (-2) = some (.int y) := by
  have e : (x :: y :: l).reverse = l.reverse ++ [y, x] := by simp
  rw [e]
  unfold atI ixN
  have hl : ((l.reverse ++ [y, x]).map D.int).length = l.length + 2 := by simp
  rw [hl]
  rw [if_neg (by omega), if_pos (by omega)]
  show ((l.reverse ++ [y, x]).map D.int)[((l.length + 2 : Nat) + (-2 : Int)).toNat]? = _
  rw [show ((l.length + 2 : Nat) + (-2 : Int)).toNat = l.length by omega, List.getElem?_map, List.getElem?_append_right (by simp), List.length_reverse, Nat.sub_self]
  rfl
theorem range_getD (B : List Int) : (rangeI 0 B.length).map (fun k => B.getD k.toNat 0) = B := by
  apply List.ext_getElem?
  intro i
  unfold rangeI
  rw [List.map_map, List.getElem?_map]
  by_cases h : i < B.length
  · rw [List.getElem?_range (by omega), List.getElem?_eq_getElem h]
    show some (B.getD (0 + (i : Int)).toNat 0) = _
    rw [show (0 + (i : Int)).toNat = i by omega, List.getD_eq_getElem?_getD, List.getElem?_eq_getElem h]
    rfl
  · rw [List.getElem?_eq_none (by rw [List.length_range]; omega), List.getElem?_eq_none (by omega)]
    rfl
theorem getD_at0 {l : List Int} {i : Nat} (h : i < l.length) : l[i]? = some (l.getD i 0) := by
  rw [List.getD_eq_getElem?_getD, List.getElem?_eq_getElem h]
  rfl
theorem cutR_step {x y : Int} {l l' : List Int} : cutR (x :: y :: l) (x :: y :: l') = cutR (y :: l) (y :: l') := by
  conv => lhs; unfold cutR
  rw [if_pos rfl]
theorem cutR_ne {x y y' : Int} {l l' : List Int} (h : y ≠ y') : cutR (x :: y :: l) (x :: y' :: l') = (x :: y :: l, x :: y' :: l') := by
  conv => lhs; unfold cutR
  rw [if_neg h]
theorem ring_end {P : DEnds} {s0 s1 s2 s5 : Sl} {x : Int} {A B : List Int} (hA : A.length ≤ 500) (hB : B.length ≤ 500) (hq : P.rt (dints ((x :: A).reverse ++ B))) :
    d_ring_of_t1 P [s0, s1, s2, .l1 ((x :: A).reverse.map D.int), .l1 ((x :: B).reverse.map D.int), s5] := by
  walk_at "w"
  have len : ((x :: B).reverse.map D.int).length = B.length + 1 := by simp
  rw [len]
  refine ⟨⟨by omega, by omega⟩, ?_⟩
  walk_at "w"
  refine ⟨by rw [rangeD_len]; omega, ?_⟩
  rw [show ((B.length + 1 : Nat) : Int) - 1 = B.length by omega, rangeD_eq]
  refine dLcG_map (fun d => match d with | .int k => .int (B.getD k.toNat 0) | _ => .non) (fun z hz R hR => ?_) ?_
  · obtain ⟨k, hk, rfl⟩ := List.mem_map.mp hz
    have hk := mem_rangeI.mp hk
    walk_at "w"
    rw [len]
    refine ⟨.int (B.getD k.toNat 0), ?_, hR⟩
    refine atI_nat (by omega) ?_
    rw [List.getElem?_map, List.reverse_cons, List.getElem?_append_left (by rw [List.length_reverse]; omega), List.getElem?_reverse (by omega), show B.length - 1 - (((B.length + 1 : Nat) : Int) - 2 - k).toNat = k.toNat by omega, getD_at0 (by omega)]
    rfl
  · walk_at "w"
    refine ⟨by simp [rangeI_len]; omega, ?_⟩
    rw [List.nil_append, List.map_map]
    have := range_getD B
    have e : (rangeI 0 B.length).map ((fun d => match d with | D.int k => D.int (B.getD k.toNat 0) | _ => D.non) ∘ D.int) = B.map D.int := by
      conv => rhs; rw [← this, List.map_map]
      rfl
    rw [e, ← List.map_append]
    exact hq
theorem pop_rev {x y : Int} {l : List Int} : ((x :: y :: l).reverse.map D.int).dropLast = (y :: l).reverse.map D.int := by
  rw [List.reverse_cons (a := x), List.map_append, List.map_singleton, List.dropLast_concat]
theorem th_ring_of : ∀ ds Q, sp_ring_of ds Q → d_ring_of (dEnds Q) (dstart 6 ds) := by
  rintro ds Q ⟨m, x, l, l', rfl, d1, d2, hr, h1, h2, hq⟩
  obtain ⟨w1, u1, e1, l1⟩ := way_of d1 hr
  obtain ⟨w2, u2, e2, l2⟩ := way_of d2 hr
  have flat : ∀ z : Int, ∀ y ∈ [D.dct (dmap m), D.int z], FlatArg y := fun z y hy => by
    rcases List.mem_cons.mp hy with rfl | hy
    · exact ⟨m, rfl⟩
    · rw [List.mem_singleton.mp hy]
      trivial
  walk_at "w"
  refine ⟨flat _, m, _, u1, rfl, by rw [← e1]; exact w1, by omega, ?_⟩
  rw [← e1]
  refine ⟨⟨_, rfl⟩, ?_⟩
  walk_at "w"
  refine ⟨flat _, m, _, u2, rfl, by rw [← e2]; exact w2, by omega, ?_⟩
  rw [← e2]
  refine ⟨⟨_, rfl⟩, ?_⟩
  walk_at "w"
  refine ⟨fun k ρ => ∃ (z : Int) (a b : List Int), ρ = [.fz (.dct (dmap m)), .fz (.int (lastI (x :: l))), .fz (.int (lastI (x :: l'))), .l1 ((z :: a).reverse.map D.int), .l1 ((z :: b).reverse.map D.int), .un] ∧ cutR (z :: a) (z :: b) = cutR (x :: l) (x :: l') ∧ a.length ≤ 500 ∧ b.length ≤ 500 ∧ k = a.length, ⟨_, x, l, l', rfl, rfl, h1, h2, rfl⟩, ?_⟩
  rintro k ρ ⟨z, a, b, rfl, he, ha, hb, rfl⟩
  rw [← he] at hq
  walk_at "w"
  rw [List.length_map, List.length_reverse, List.length_cons]
  cases a with
  | nil =>
    have : cutR [z] (z :: b) = ([z], z :: b) := by unfold cutR; rfl
    rw [this] at hq
    refine ⟨fun h => ?_, fun _ => ?_⟩
    · rw [decide_eq_true_iff, List.length_nil] at h; omega
    · refine ⟨fun h => Bool.noConfusion h, fun _ => ?_⟩
      exact ring_end (A := []) (B := b) ha hb hq
  | cons y a =>
    refine ⟨fun _ => ?_, fun h => ?_⟩
    · walk_at "w"
      rw [List.length_map, List.length_reverse, List.length_cons]
      cases b with
      | nil =>
        have : cutR (z :: y :: a) [z] = (z :: y :: a, [z]) := by unfold cutR; rfl
        rw [this] at hq
        refine ⟨fun h => ?_, fun _ => ?_⟩
        · rw [decide_eq_true_iff, List.length_nil] at h; omega
        · refine ⟨fun h => Bool.noConfusion h, fun _ => ?_⟩
          exact ring_end (A := y :: a) (B := []) ha hb hq
      | cons y' b =>
        refine ⟨fun _ => ?_, fun h => ?_⟩
        · walk_at "w"
          refine ⟨_, atI_back2, ?_⟩
          walk_at "w"
          refine ⟨_, atI_back2, ?_⟩
          walk_at "w"
          by_cases e : y = y'
          · subst e
            refine ⟨fun _ => ?_, fun h => ?_⟩
            · simp only [List.length_cons] at ha hb
              have ne : ∀ l : List Int, (z :: y :: l).reverse.map D.int ≠ [] := fun l => by simp
              walk_at "w"
              refine ⟨ne a, ?_⟩
              walk_at "w"
              refine ⟨ne b, ?_⟩
              refine ⟨a.length, by simp, y, a, b, ?_, by rw [← he, cutR_step], by omega, by omega, rfl⟩
              have p1 := pop_rev (x := z) (y := y) (l := a)
              have p2 := pop_rev (x := z) (y := y) (l := b)
              rw [← p1, ← p2]
              rfl
            · rw [Bool.false_xor, decide_eq_false_iff_not] at h
              exact (h rfl).elim
          · rw [cutR_ne e] at hq
            refine ⟨fun h => ?_, fun _ => ?_⟩
            · rw [Bool.false_xor, decide_eq_true_iff] at h
              exact (e h).elim
            · exact ring_end (A := y :: a) (B := y' :: b) ha hb hq
        · rw [decide_eq_false_iff_not, List.length_cons] at h; omega
    · rw [decide_eq_false_iff_not, List.length_cons] at h; omega
end DL

/-! M6: sides found from neighbour to neighbour: what stays true -/
namespace DL
open PySem L2
local macro_rules | `(tactic| walk_at "w") => `(tactic| conv => whnf)
local macro_rules | `(tactic| walk_at "side") => `(tactic| first | omega | decide | exact Nat.le_of_ble_eq_true rfl | exact ⟨by decide, by decide⟩ | exact Or.inl ⟨by omega, by omega⟩ | exact Or.inr ⟨by omega, by omega⟩ | (show (_ : Int) ≠ 0; omega) | exact ⟨by omega, by omega⟩ | (rw [List.length_map]; omega) | (simp only [List.length_map, List.length_append, List.length_cons, List.length_nil]; omega))
local macro_rules | `(tactic| walk_at "go") => `(tactic| ((repeat ((conv => whnf); first | (refine And.intro ?_ ?_; · walk_at "side") | refine And.intro (fun h => Bool.noConfusion (show false = true from h)) (fun _ => ?_) | refine And.intro (fun _ => ?_) (fun h => Bool.noConfusion (show true = false from h)))); (conv => whnf)))
local macro_rules | `(tactic| walk_at "if") => `(tactic| refine ⟨fun hc => ?_, fun hc => ?_⟩)
theorem lookI_none {α : Type} {m : List (Int × α)} {k : Int} : lookI m k = none ↔ k ∉ m.map (·.1) := by
  induction m with
  | nil => simp [lookI]
  | cons p m ih =>
    rw [lookI_cons]
    by_cases h : p.1 = k
    · simp [h]
    · rw [if_neg h, ih]
      have : k ≠ p.1 := fun z => h z.symm
      simp [this]
structure KeysIn (row : List Int) (m : List (Int × Int)) : Prop where
  nd : (m.map (·.1)).Nodup
  sub : ∀ k ∈ m.map (·.1), k ∈ row
theorem KeysIn.len {row : List Int} {m : List (Int × Int)} (h : KeysIn row m) : m.length ≤ row.length := by
  have := nodup_len h.nd h.sub
  rw [List.length_map] at this
  exact this
theorem KeysIn.add {row : List Int} {m : List (Int × Int)} {k d : Int} (h : KeysIn row m) (hk : k ∈ row) (hn : lookI m k = none) : KeysIn row (m ++ [(k, d)]) := by
  have := lookI_none.mp hn
  refine ⟨?_, fun x hx => ?_⟩
  · rw [List.map_append, List.nodup_append]
    refine ⟨h.nd, by simp, fun a ha b hb z => ?_⟩
    have : b = k := by simpa using hb
    subst this
    subst z
    exact this ha
  · rw [List.map_append] at hx
    rcases List.mem_append.mp hx with hx | hx
    · exact h.sub x hx
    · have : x = k := by simpa using hx
      rw [this]; exact hk
theorem look_snoc {m : List (Int × Int)} {k d w : Int} (hn : lookI m k = none) : lookI (m ++ [(k, d)]) w = if k = w then some d else lookI m w := by
  rw [← putI_new hn, lookI_put]
structure SBase (row pre : List Int) (side back : List (Int × Int)) : Prop where
  ks : KeysIn row side
  kb : KeysIn row back
  val : ∀ w v, lookI side w = some v → v = 0 ∨ v = 1
  bs : ∀ w, lookI side w = none → lookI back w = none
  pr : ∀ w ∈ pre, (lookI side w).isSome
def FinOk (row : List Int) (side : List (Int × Int)) (w : Int) : Prop := ∀ x, CrossU row w x → ∃ a b, lookI side w = some a ∧ lookI side x = some b ∧ a ≠ b
def Grow (side side' : List (Int × Int)) : Prop := ∀ w v, lookI side w = some v → lookI side' w = some v
theorem grow_snoc {m : List (Int × Int)} {k d : Int} (hn : lookI m k = none) : Grow m (m ++ [(k, d)]) := fun w v h => by
  rw [look_snoc hn, if_neg (fun z => by rw [← z, hn] at h; cases h)]
  exact h
theorem FinOk.grow {row : List Int} {side side' : List (Int × Int)} {w : Int} (h : FinOk row side w) (g : Grow side side') : FinOk row side' w := fun x hx => by
  obtain ⟨a, b, h1, h2, h3⟩ := h x hx
  exact ⟨a, b, g _ _ h1, g _ _ h2, h3⟩
structure PathOk (row : List Int) (side back : List (Int × Int)) (queue : List Int) (start x : Int) (r : List Int) : Prop where
  hd : ∃ l, r = start :: l
  lt : lastI r = x
  nd : r.Nodup
  sub : ∀ y ∈ r, y ∈ queue
  dn : Down back r
  ad : Adj (CrossU row) r
  par : lookI side x = some (if r.length % 2 = 1 then 0 else 1)
structure Bfs (row pre : List Int) (side back : List (Int × Int)) (queue : List Int) (start : Int) (done : Nat) (cur : Option Int) : Prop where
  b : SBase row pre side back
  qn : queue.Nodup
  qs : ∀ w ∈ queue, (lookI side w).isSome
  rt : lookI back start = none
  pa : ∀ x ∈ queue, ∃ r, PathOk row side back queue start x r
  fin : ∀ w, (lookI side w).isSome → w ∉ queue.drop done → cur ≠ some w → FinOk row side w
  dl : done ≤ queue.length
theorem SBase.inRow {row pre : List Int} {side back : List (Int × Int)} (h : SBase row pre side back) {w : Int} (hw : (lookI side w).isSome) : w ∈ row := by
  by_cases z : w ∈ side.map (·.1)
  · exact h.ks.sub w z
  · rw [lookI_none.mpr z] at hw
    cases hw
theorem Bfs.qlen {row pre : List Int} {side back : List (Int × Int)} {queue : List Int} {start : Int} {done : Nat} {cur : Option Int} (h : Bfs row pre side back queue start done cur) : queue.length ≤ row.length :=
  nodup_len h.qn fun x hx => h.b.inRow (h.qs x hx)
theorem Bfs.start_ {row pre : List Int} {side back : List (Int × Int)} {start : Int} (h : SBase row pre side back) (fin : ∀ w, (lookI side w).isSome → FinOk row side w) (hr : start ∈ row) (hn : lookI side start = none) :
    Bfs row pre (side ++ [(start, 0)]) back [start] start 0 none := by
  have g := grow_snoc (d := 0) hn
  refine ⟨⟨h.ks.add hr hn, h.kb, fun w v hv => ?_, fun w hw => ?_, fun w hw => ?_⟩, by simp, fun w hw => ?_, h.bs _ hn, fun x hx => ?_, fun w hw hq _ => ?_, Nat.zero_le _⟩
  · rw [look_snoc hn] at hv
    split at hv
    · cases hv; exact .inl rfl
    · exact h.val w v hv
  · rw [look_snoc hn] at hw
    split at hw
    · cases hw
    · exact h.bs w hw
  · obtain ⟨v, hv⟩ := Option.isSome_iff_exists.mp (h.pr w hw)
    rw [g w v hv]; rfl
  · rw [List.mem_singleton.mp hw, look_snoc hn, if_pos rfl]; rfl
  · rw [List.mem_singleton.mp hx]
    exact ⟨[start], ⟨[], rfl⟩, rfl, by simp, fun y hy => hy, trivial, trivial, by rw [look_snoc hn, if_pos rfl]; rfl⟩
  · have : start ≠ w := fun z => hq (by rw [z]; simp)
    rw [look_snoc hn, if_neg this] at hw
    exact (fin w hw).grow g
theorem Bfs.take {row pre : List Int} {side back : List (Int × Int)} {queue : List Int} {start : Int} {done : Nat} {w : Int} (h : Bfs row pre side back queue start done none) (hw : queue[done]? = some w) : Bfs row pre side back queue start (done + 1) (some w) := by
  have hl : done < queue.length := by
    by_cases z : done < queue.length
    · exact z
    · rw [List.getElem?_eq_none (by omega)] at hw; cases hw
  refine ⟨h.b, h.qn, h.qs, h.rt, h.pa, fun x hx hq hc => h.fin x hx (fun z => hq ?_) (by simp), hl⟩
  rw [List.getElem?_eq_getElem hl] at hw
  rw [List.drop_eq_getElem_cons hl, Option.some.inj hw] at z
  rcases List.mem_cons.mp z with z | z
  · exact (hc (by rw [z])).elim
  · exact z
theorem Bfs.add {row pre : List Int} {side back : List (Int × Int)} {queue : List Int} {start : Int} {done : Nat} {w x a : Int} (h : Bfs row pre side back queue start done (some w)) (hw : w ∈ queue) (ha : lookI side w = some a) (hc : CrossU row w x) (hn : lookI side x = none) :
    Bfs row pre (side ++ [(x, 1 - a)]) (back ++ [(x, w)]) (queue ++ [x]) start done (some w) := by
  have g := grow_snoc (d := 1 - a) hn
  have bn := h.b.bs x hn
  have xq : x ∉ queue := fun z => by
    have := h.qs x z
    rw [hn] at this
    cases this
  have sq : start ∈ queue := by
    obtain ⟨r, p⟩ := h.pa w hw
    obtain ⟨l, hl⟩ := p.hd
    exact p.sub start (by rw [hl]; simp)
  have dn' : ∀ r, (∀ y ∈ r, y ∈ queue) → Down back r → Down (back ++ [(x, w)]) r := fun r hs hd => Adj.monoOn (fun p q _ hq hpq => by
    show lookI (back ++ [(x, w)]) q = some p
    rw [look_snoc bn, if_neg (fun z => xq (by rw [z]; exact hs q hq))]
    exact hpq) hd
  refine ⟨⟨h.b.ks.add hc.mem.2 hn, h.b.kb.add hc.mem.2 bn, fun u v hv => ?_, fun u hu => ?_, fun u hu => ?_⟩, ?_, fun u hu => ?_, ?_, fun u hu => ?_, fun u hu hq hcur => ?_, by rw [List.length_append]; have := h.dl; omega⟩
  · rw [look_snoc hn] at hv
    split at hv
    · cases hv
      rcases h.b.val w a ha with rfl | rfl
      · exact .inr rfl
      · exact .inl rfl
    · exact h.b.val u v hv
  · rw [look_snoc hn] at hu
    rw [look_snoc bn]
    split at hu
    · cases hu
    · rename_i z
      rw [if_neg z]
      exact h.b.bs u hu
  · obtain ⟨v, hv⟩ := Option.isSome_iff_exists.mp (h.b.pr u hu)
    rw [g u v hv]; rfl
  · rw [List.nodup_append]
    refine ⟨h.qn, by simp, fun p hp q hq z => ?_⟩
    subst z
    rw [List.mem_singleton.mp hq] at hp
    exact xq hp
  · rcases List.mem_append.mp hu with hu | hu
    · obtain ⟨v, hv⟩ := Option.isSome_iff_exists.mp (h.qs u hu)
      rw [g u v hv]; rfl
    · rw [List.mem_singleton.mp hu, look_snoc hn, if_pos rfl]; rfl
  · rw [look_snoc bn, if_neg (fun z => xq (by rw [z]; exact sq))]
    exact h.rt
  · rcases List.mem_append.mp hu with hu | hu
    · obtain ⟨r, p⟩ := h.pa u hu
      exact ⟨r, p.hd, p.lt, p.nd, fun y hy => List.mem_append.mpr (.inl (p.sub y hy)), dn' r p.sub p.dn, p.ad, g _ _ p.par⟩
    · obtain ⟨r, p⟩ := h.pa w hw
      have hux := List.mem_singleton.mp hu
      subst hux
      obtain ⟨l, hl⟩ := p.hd
      have rne : r ≠ [] := by rw [hl]; simp
      have adj : ∀ {R : Int → Int → Prop}, Adj R r → R w u → Adj R (r ++ [u]) := fun {R} h1 h2 => by
        rcases snoc_cases r with z | ⟨a, y, z⟩
        · exact (rne z).elim
        · have hy : y = w := by rw [← p.lt, z, lastI_append]
          subst hy
          rw [z] at h1 ⊢
          rw [List.append_assoc]
          exact Adj.join h1 ⟨h2, trivial⟩
      refine ⟨r ++ [u], ⟨l ++ [u], by rw [hl]; rfl⟩, lastI_append _ _, ?_, fun y hy => ?_, adj (dn' r p.sub p.dn) (by show lookI _ u = some w; rw [look_snoc bn, if_pos rfl]), adj p.ad hc, ?_⟩
      · rw [List.nodup_append]
        refine ⟨p.nd, by simp, fun c hc2 d hd z => ?_⟩
        subst z
        rw [List.mem_singleton.mp hd] at hc2
        exact xq (p.sub u hc2)
      · rcases List.mem_append.mp hy with hy | hy
        · exact List.mem_append.mpr (.inl (p.sub y hy))
        · exact List.mem_append.mpr (.inr hy)
      · rw [look_snoc hn, if_pos rfl, List.length_append, List.length_singleton]
        have := p.par
        rw [ha] at this
        have := Option.some.inj this
        rw [this]
        by_cases z : r.length % 2 = 1
        · rw [if_pos z, if_neg (by omega)]; rfl
        · rw [if_neg z, if_pos (by omega)]; rfl
  · have dl := h.dl
    rw [List.drop_append_of_le_length dl] at hq
    have ux : x ≠ u := fun z => hq (by rw [z]; simp)
    rw [look_snoc hn, if_neg ux] at hu
    exact (h.fin u hu (fun z => hq (List.mem_append.mpr (.inl z))) hcur).grow g
theorem Bfs.next {row pre : List Int} {side back : List (Int × Int)} {queue : List Int} {start : Int} {done : Nat} {w a : Int} (h : Bfs row pre side back queue start done (some w)) (ha : lookI side w = some a) (hf : ∀ x, CrossU row w x → ∃ b, lookI side x = some b ∧ b ≠ a) :
    Bfs row pre side back queue start done none := by
  refine ⟨h.b, h.qn, h.qs, h.rt, h.pa, fun u hu hq _ => ?_, h.dl⟩
  by_cases z : u = w
  · subst z
    intro x hx
    obtain ⟨b, h1, h2⟩ := hf x hx
    exact ⟨a, b, ha, h1, fun z => h2 z.symm⟩
  · exact h.fin u hu hq (fun y => z (Option.some.inj y).symm)
/-- two of the same side that cross: both were found from the start -/
theorem Bfs.ring {row pre : List Int} {side back : List (Int × Int)} {queue : List Int} {start : Int} {done : Nat} {w x a : Int} (h : Bfs row pre side back queue start done (some w)) (hw : w ∈ queue) (ha : lookI side w = some a) (hx : lookI side x = some a) (hc : CrossU row w x) :
    ∃ l l', lastI (start :: l) = w ∧ lastI (start :: l') = x ∧ Down back (start :: l) ∧ Down back (start :: l') ∧ lookI back start = none ∧ l.length ≤ row.length ∧ l'.length ≤ row.length ∧ RingOk row ((cutR (start :: l) (start :: l')).1.reverse ++ (cutR (start :: l) (start :: l')).2.tail) := by
  have xq : x ∈ queue := by
    by_cases z : x ∈ queue
    · exact z
    · have := h.fin x (by rw [hx]; rfl) (fun y => z (List.mem_of_mem_drop y)) (fun y => z (by rw [← Option.some.inj y]; exact hw))
      obtain ⟨p, q, h1, h2, h3⟩ := this w hc.symm
      rw [hx] at h1
      rw [ha] at h2
      cases h1
      cases h2
      exact (h3 rfl).elim
  obtain ⟨r, p⟩ := h.pa w hw
  obtain ⟨r', p'⟩ := h.pa x xq
  obtain ⟨l, rfl⟩ := p.hd
  obtain ⟨l', rfl⟩ := p'.hd
  have ql := h.qlen
  have L : ∀ {l : List Int} {y : Int}, PathOk row side back queue start y (start :: l) → l.length ≤ row.length := fun {l y} p => by
    have := nodup_len p.nd p.sub
    simp only [List.length_cons] at this
    omega
  refine ⟨l, l', p.lt, p'.lt, p.dn, p'.dn, h.rt, L p, L p', ring_ok p.dn p'.dn p.nd p'.nd p.ad p'.ad ?_ (by rw [p.lt, p'.lt]; exact hc)⟩
  have e1 := p.par
  have e2 := p'.par
  rw [ha] at e1
  rw [hx] at e2
  rw [e1] at e2
  have e3 := Option.some.inj e2
  by_cases z1 : (start :: l).length % 2 = 1
  · by_cases z2 : (start :: l').length % 2 = 1
    · omega
    · rw [if_pos z1, if_neg z2] at e3; cases e3
  · by_cases z2 : (start :: l').length % 2 = 1
    · rw [if_neg z1, if_pos z2] at e3; cases e3
    · omega
end DL

/-! F12: sided, two_stubs -/
namespace DL
open PySem L2
local macro_rules | `(tactic| walk_at "w") => `(tactic| conv => whnf)
local macro_rules | `(tactic| walk_at "side") => `(tactic| first | omega | decide | exact Nat.le_of_ble_eq_true rfl | exact ⟨by decide, by decide⟩ | exact Or.inl ⟨by omega, by omega⟩ | exact Or.inr ⟨by omega, by omega⟩ | (show (_ : Int) ≠ 0; omega) | exact ⟨by omega, by omega⟩ | (rw [List.length_map]; omega) | (simp only [List.length_map, List.length_append, List.length_cons, List.length_nil]; omega))
local macro_rules | `(tactic| walk_at "go") => `(tactic| ((repeat ((conv => whnf); first | (refine And.intro ?_ ?_; · walk_at "side") | refine And.intro (fun h => Bool.noConfusion (show false = true from h)) (fun _ => ?_) | refine And.intro (fun _ => ?_) (fun h => Bool.noConfusion (show true = false from h)))); (conv => whnf)))
local macro_rules | `(tactic| walk_at "if") => `(tactic| refine ⟨fun hc => ?_, fun hc => ?_⟩)
def sp_sided : DSp := fun ds Q => ∃ row : List Int, ds = [dints row] ∧ row.Nodup ∧ row.length ≤ 63 ∧ (∀ side, SidesOk row side 2 → Q (.tup [.dct (dmap side), .non])) ∧
  ∀ side ring, RingOk row ring → Q (.tup [.dct (dmap side), dints ring])
def d_sided_1 : DS := (dIfS (dInD true (dVar false 8) 2) (dSeq (dPut 2 (dVar false 8) (dOp oSub (dC (.int 1)) (dGet false 2 (dVar false 7))))
  (dSeq (dPut 3 (dVar false 8) (dVar true 7))
  (dApp 5 (dVar true 8)))) (dIfS (dT (dOp (oEq false) (dGet false 2 (dVar false 8)) (dGet false 2 (dVar false 7)))) (dRet (dTup (dCons (dVar true 2) (dCons (dCall sp_ring_of (dCons (dVar true 3) (dCons (dVar true 7) (dCons (dVar true 8) dNil)))) dNil)))) dNext))
def d_sided_2 : DT := (dT (dOp oLt (dVar false 6) (dLen (dIv false 5))))
def d_sided_3 : DS := (dSeq (dSet 7 (dIx (dIv true 5) (dVar false 6)))
  (dSeq (dSet 6 (dOp oAdd (dVar false 6) (dC (.int 1))))
  (dFor (dS (dGet true 1 (dVar false 7))) 8 d_sided_1)))
def d_sided_4 : DS := (dSeq (dIfS (dInD false (dVar false 4) 2) dCont dNext)
  (dSeq (dPut 2 (dVar false 4) (dC (.int 0)))
  (dSeq (dSetL 5 (dLst (dCons (dVar true 4) dNil)))
  (dSeq (dSet 6 (dC (.int 0)))
  (dWhile d_sided_2 d_sided_3)))))
def d_sided_t1 : DS := (dRet (dTup (dCons (dVar true 2) (dCons (dC .non) dNil))))
def d_sided : DS := (dSeq (dSet 1 (dCall sp_neighbours (dCons (dVar true 0) dNil)))
  (dSeq (dNewK 2)
  (dSeq (dNewK 3)
  (dSeq (dFor (dS (dVar true 0)) 4 d_sided_4)
  d_sided_t1))))
theorem ln_sided : ∀ ds Q, sp_sided ds Q → ds.length = 1 := by
  rintro ds Q ⟨_, rfl, _⟩
  rfl
def envS (row : List Int) (near : List (Int × List Int)) (side back : List (Int × Int)) (queue : List Int) (start : Int) (done : Nat) (s7 s8 : Sl) : Env :=
  [.fz (dints row), .fz (.dct (lmap near)), .dk (dmap side), .dk (dmap back), .fz (.int start), .l1 (queue.map D.int), .fz (.int done), s7, s8]
theorem dmap_len (m : List (Int × Int)) : (dmap m).length = m.length := by unfold dmap; rw [List.length_map]
theorem dmap_put {m : List (Int × Int)} {k d : Int} (h : lookI m k = none) : putI (dmap m) k (.int d) = dmap (m ++ [(k, d)]) := by
  rw [← putI_new h]
  exact putI_map D.int m k d
theorem sided_in {P : DEnds} {row pre : List Int} {near : List (Int × List Int)} {start w a : Int} {done : Nat} {l : List Int} (hl : row.length ≤ 63) (hr : ∀ side ring, RingOk row ring → P.rt (.tup [.dct (dmap side), dints ring]))
    (g : ∀ side back queue s8, Bfs row pre side back queue start done (some w) → w ∈ queue → lookI side w = some a → (∀ x ∈ l, ∃ b, lookI side x = some b ∧ b ≠ a) → P.nx (envS row near side back queue start done (.fz (.int w)) s8)) :
    ∀ (todo dn : List Int) (side back : List (Int × Int)) (queue : List Int) (s8 : Sl), dn ++ todo = l → (∀ x ∈ todo, CrossU row w x) → Bfs row pre side back queue start done (some w) → w ∈ queue → lookI side w = some a → (∀ x ∈ dn, ∃ b, lookI side x = some b ∧ b ≠ a) →
    dForG d_sided_1 8 P (todo.map D.int) (envS row near side back queue start done (.fz (.int w)) s8)
  | [], dn, side, back, queue, s8, e, _, h, wq, ha, hd => by
    rw [List.append_nil] at e
    subst e
    exact g side back queue s8 h wq ha hd
  | x :: todo, dn, side, back, queue, s8, e, hc, h, wq, ha, hd => by
    have hx := hc x (List.mem_cons_self ..)
    have ht := fun y hy => hc y (List.mem_cons_of_mem x hy)
    have l1 := h.b.ks.len
    have l2 := h.b.kb.len
    have l3 := h.qlen
    have laW : lookI (dmap side) w = some (.int a) := by rw [lookI_dmap, ha]; rfl
    walk_at "w"
    rw [lookI_dmap]
    cases hs : lookI side x with
    | none =>
      have bn := h.b.bs x hs
      have h2 := h.add wq ha hx hs
      have gr := grow_snoc (d := 1 - a) hs
      have ih := sided_in (P := P) (near := near) hl hr g todo (dn ++ [x]) _ _ _ (.fz (.int x)) (by rw [← e]; simp) ht h2 (List.mem_append.mpr (.inl wq)) (gr _ _ ha) (fun y hy => by
        rcases List.mem_append.mp hy with hy | hy
        · obtain ⟨b, h1, h2⟩ := hd y hy
          exact ⟨b, gr _ _ h1, h2⟩
        · rw [List.mem_singleton.mp hy, look_snoc hs, if_pos rfl]
          refine ⟨_, rfl, fun z => ?_⟩
          rcases h.b.val w a ha with q | q <;> omega)
      unfold envS at ih
      rw [List.map_append] at ih
      walk_at "go"
      refine ⟨_, laW, ?_⟩
      walk_at "w"
      refine ⟨by rw [dmap_len]; omega, ?_⟩
      rw [show ((fun i j => D.int (i - j)) 1 a : D) = .int (1 - a) from rfl] at *
      rw [dmap_put hs]
      walk_at "w"
      refine ⟨by rw [dmap_len]; omega, ?_⟩
      rw [dmap_put bn]
      walk_at "w"
      refine ⟨by rw [List.length_map]; omega, ?_⟩
      exact ih
    | some b =>
      have lbX : lookI (dmap side) x = some (.int b) := by rw [lookI_dmap, hs]; rfl
      walk_at "go"
      refine ⟨_, lbX, ?_⟩
      walk_at "w"
      refine ⟨_, laW, ?_⟩
      walk_at "w"
      refine ⟨fun h2 => ?_, fun h2 => ?_⟩
      · rw [Bool.false_xor, decide_eq_true_iff] at h2
        subst h2
        obtain ⟨r, r', e1, e2, d1, d2, rt, q1, q2, ok⟩ := h.ring wq ha hs hx
        walk_at "w"
        refine ⟨back, start, r, r', by rw [e1, e2], d1, d2, rt, by omega, by omega, ?_⟩
        walk_at "go"
        exact hr side _ ok
      · rw [Bool.false_xor, decide_eq_false_iff_not] at h2
        refine sided_in (P := P) hl hr g todo (dn ++ [x]) side back queue (.fz (.int x)) (by rw [← e]; simp) ht h wq ha (fun y hy => ?_)
        rcases List.mem_append.mp hy with hy | hy
        · exact hd y hy
        · rw [List.mem_singleton.mp hy]
          exact ⟨b, hs, h2⟩
theorem sided_while {P : DEnds} {row pre : List Int} {near : List (Int × List Int)} {start : Int} (hnear : NearOk row near) (hl : row.length ≤ 63) (hr : ∀ side ring, RingOk row ring → P.rt (.tup [.dct (dmap side), dints ring]))
    (g : ∀ side back queue done s7 s8, SBase row pre side back → (lookI side start).isSome → (∀ w, (lookI side w).isSome → FinOk row side w) → P.nx (envS row near side back queue start done s7 s8))
    {side back : List (Int × Int)} {s7 s8 : Sl} (h : Bfs row pre side back [start] start 0 none) : dWhile d_sided_2 d_sided_3 P (envS row near side back [start] start 0 s7 s8) := by
  refine ⟨fun k ρ => ∃ side back queue done s7 s8, ρ = envS row near side back queue start done s7 s8 ∧ Bfs row pre side back queue start done none ∧ start ∈ queue ∧ k = row.length - done, ⟨_, side, back, [start], 0, s7, s8, rfl, h, by simp, rfl⟩, ?_⟩
  rintro k ρ ⟨side, back, queue, done, s7, s8, rfl, h, sq, rfl⟩
  have ql := h.qlen
  have dl := h.dl
  walk_at "w"
  rw [List.length_map]
  refine ⟨fun hc => ?_, fun hc => ?_⟩
  · rw [decide_eq_true_iff] at hc
    have hd : done < queue.length := by omega
    have hq := getD_at0 hd
    have wq : queue.getD done 0 ∈ queue := List.mem_of_getElem? hq
    obtain ⟨a, ha⟩ := Option.isSome_iff_exists.mp (h.qs _ wq)
    have wr : queue.getD done 0 ∈ row := h.b.inRow (h.qs _ wq)
    obtain ⟨l, n1, n2⟩ := hnear.all _ wr
    have h2 := h.take hq
    walk_at "w"
    refine ⟨_, atI_getD (by omega) (by omega), ?_⟩
    rw [Int.toNat_natCast]
    walk_at "go"
    refine ⟨dints l, by rw [lookI_lmap, n1]; rfl, ?_⟩
    refine sided_in (P := ⟨fun ρ => ∃ j, j < row.length - done ∧ ∃ side back queue done s7 s8, ρ = envS row near side back queue start done s7 s8 ∧ Bfs row pre side back queue start done none ∧ start ∈ queue ∧ j = row.length - done, P.rt, P.nx, _⟩) (near := near) (a := a) (l := l) hl hr (fun side' back' queue' s8 h3 wq' ha' hf => ?_) l [] side back queue s8 rfl (fun x hx => (n2 x).mp hx) h2 wq ha (fun x hx => by cases hx)
    have h4 := h3.next ha' (fun x hx => hf x ((n2 x).mpr hx))
    obtain ⟨r, p⟩ := h3.pa (queue.getD done 0) wq'
    obtain ⟨r0, hr0⟩ := p.hd
    exact ⟨row.length - (done + 1), by omega, side', back', queue', done + 1, _, s8, rfl, h4, p.sub start (by rw [hr0]; simp), rfl⟩
  · rw [decide_eq_false_iff_not] at hc
    refine g side back queue done s7 s8 h.b (h.qs start sq) (fun w hw => h.fin w hw ?_ (by simp))
    rw [List.drop_eq_nil_iff.mpr (by omega)]
    simp
theorem sided_out {P : DEnds} {row : List Int} {near : List (Int × List Int)} (hnear : NearOk row near) (hl : row.length ≤ 63) (hr : ∀ side ring, RingOk row ring → P.rt (.tup [.dct (dmap side), dints ring]))
    (g : ∀ side back s4 s5 s6 s7 s8, SBase row row side back → (∀ w, (lookI side w).isSome → FinOk row side w) → P.nx [.fz (dints row), .fz (.dct (lmap near)), .dk (dmap side), .dk (dmap back), s4, s5, s6, s7, s8]) :
    ∀ (todo pre : List Int) (side back : List (Int × Int)) (s4 s5 s6 s7 s8 : Sl), pre ++ todo = row → SBase row pre side back → (∀ w, (lookI side w).isSome → FinOk row side w) →
    dForG d_sided_4 4 P (todo.map D.int) [.fz (dints row), .fz (.dct (lmap near)), .dk (dmap side), .dk (dmap back), s4, s5, s6, s7, s8]
  | [], pre, side, back, s4, s5, s6, s7, s8, e, h, hf => by
    rw [List.append_nil] at e
    subst e
    exact g side back s4 s5 s6 s7 s8 h hf
  | w :: todo, pre, side, back, s4, s5, s6, s7, s8, e, h, hf => by
    have wr : w ∈ row := by rw [← e]; simp
    have l1 := h.ks.len
    have more : ∀ {side back}, SBase row pre side back → (lookI side w).isSome → SBase row (pre ++ [w]) side back := fun h hw => ⟨h.ks, h.kb, h.val, h.bs, fun x hx => by
      rcases List.mem_append.mp hx with hx | hx
      · exact h.pr x hx
      · rw [List.mem_singleton.mp hx]; exact hw⟩
    walk_at "w"
    rw [lookI_dmap]
    cases hs : lookI side w with
    | some a =>
      walk_at "go"
      exact sided_out hnear hl hr g todo (pre ++ [w]) side back _ s5 s6 s7 s8 (by rw [← e]; simp) (more h (by rw [hs]; rfl)) hf
    | none =>
      have st := Bfs.start_ h hf wr hs
      walk_at "go"
      refine ⟨by rw [dmap_len]; omega, ?_⟩
      rw [dmap_put hs]
      walk_at "go"
      refine sided_while (P := ⟨dForG d_sided_4 4 P (todo.map D.int), P.rt, P.nx, dForG d_sided_4 4 P (todo.map D.int)⟩) (s7 := s7) (s8 := s8) hnear hl hr (fun side back queue done s7 s8 hb hw hf => ?_) st
      exact sided_out hnear hl hr g todo (pre ++ [w]) side back _ _ _ s7 s8 (by rw [← e]; simp) (more hb hw) hf
theorem th_sided : ∀ ds Q, sp_sided ds Q → d_sided (dEnds Q) (dstart 9 ds) := by
  rintro ds Q ⟨row, rfl, nd, hl, q1, q2⟩
  walk_at "w"
  refine ⟨row, rfl, nd, hl, fun near hnear => ?_⟩
  walk_at "go"
  refine sided_out hnear hl q2 (fun side back s4 s5 s6 s7 s8 h hf => ?_) row [] [] [] .un .un .un .un .un rfl ⟨⟨by simp, fun k hk => by simp at hk⟩, ⟨by simp, fun k hk => by simp at hk⟩, (fun w v h => by cases h), (fun w _ => rfl), (fun w hw => by cases hw)⟩ (fun w hw => by cases hw)
  walk_at "go"
  refine q1 side ⟨fun w => (lookI side w).getD 0, fun w hw => ?_, fun w hw => ?_, fun a b hab => ?_⟩
  · obtain ⟨v, hv⟩ := Option.isSome_iff_exists.mp (h.pr w hw)
    show lookI side w = some ((lookI side w).getD 0)
    rw [hv]; rfl
  · obtain ⟨v, hv⟩ := Option.isSome_iff_exists.mp (h.pr w hw)
    show 0 ≤ (lookI side w).getD 0 ∧ (lookI side w).getD 0 < 2
    rw [hv]
    show 0 ≤ v ∧ v < 2
    rcases h.val w v hv with rfl | rfl <;> omega
  · obtain ⟨x, y, h1, h2, h3⟩ := hf a (h.pr a hab.mem.1) b (.inl hab)
    show (lookI side a).getD 0 ≠ (lookI side b).getD 0
    rw [h1, h2]
    exact h3
def sp_two_stubs : DSp := fun ds Q => ∃ row : List Int, ds = [dints row] ∧ row.Nodup ∧ row.length ≤ 63 ∧ (∀ ring, RingOk row ring → Q (.tup [.str "ring", dints ring])) ∧
  ∀ plan : List Deed, runM (List.replicate 2 false) row plan = some (isort row) → plan.length = 2 * row.length → Q (.tup [.str "plan", .lst (plan.map deedD)])
def d_two_stubs : DS := (dSeq (dSet 1 (dCall sp_sided (dCons (dVar true 0) dNil)))
  (dSeq (dIfS (dT (dOp (oIsN true) (dIx (dIv false 1) (dC (.int 1))) (dC .non))) (dRet (dTup (dCons (dC (.str "ring")) (dCons (dIx (dIv true 1) (dC (.int 1))) dNil)))) dNext)
  (dRet (dTup (dCons (dC (.str "plan")) (dCons (dCall sp_stub_plan (dCons (dVar true 0) (dCons (dIx (dIv true 1) (dC (.int 0))) dNil))) dNil))))))
theorem ln_two_stubs : ∀ ds Q, sp_two_stubs ds Q → ds.length = 1 := by
  rintro ds Q ⟨_, rfl, _⟩
  rfl
theorem th_two_stubs : ∀ ds Q, sp_two_stubs ds Q → d_two_stubs (dEnds Q) (dstart 2 ds) := by
  rintro ds Q ⟨row, rfl, nd, hl, q1, q2⟩
  walk_at "w"
  refine ⟨row, rfl, nd, hl, fun side ok => ?_, fun side ring ok => ?_⟩
  · walk_at "w"
    refine ⟨_, rfl, ?_⟩
    walk_at "go"
    refine ⟨_, rfl, ?_⟩
    walk_at "w"
    refine ⟨row, side, 2, rfl, nd, hl, ok, fun plan h1 h2 => ?_⟩
    walk_at "go"
    exact q2 plan h1 h2
  · walk_at "w"
    refine ⟨_, rfl, ?_⟩
    walk_at "go"
    refine ⟨_, rfl, ?_⟩
    walk_at "go"
    exact q1 ring ok
end DL

/-! M7: what stubs can sort has sides; no odd ring: plain mathematics -/
namespace DL
open PySem L2
local macro_rules | `(tactic| walk_at "w") => `(tactic| conv => whnf)
local macro_rules | `(tactic| walk_at "side") => `(tactic| first | omega | decide | exact Nat.le_of_ble_eq_true rfl | exact ⟨by decide, by decide⟩ | exact Or.inl ⟨by omega, by omega⟩ | exact Or.inr ⟨by omega, by omega⟩ | (show (_ : Int) ≠ 0; omega) | exact ⟨by omega, by omega⟩ | (rw [List.length_map]; omega) | (simp only [List.length_map, List.length_append, List.length_cons, List.length_nil]; omega))
local macro_rules | `(tactic| walk_at "go") => `(tactic| ((repeat ((conv => whnf); first | (refine And.intro ?_ ?_; · walk_at "side") | refine And.intro (fun h => Bool.noConfusion (show false = true from h)) (fun _ => ?_) | refine And.intro (fun _ => ?_) (fun h => Bool.noConfusion (show true = false from h)))); (conv => whnf)))
local macro_rules | `(tactic| walk_at "if") => `(tactic| refine ⟨fun hc => ?_, fun hc => ?_⟩)
/-- a run on stubs that ends with nothing on the tracks -/
structure Ends0 (n : Nat) (plan : List Deed) (s : Yd) (out : List Int) : Prop where
  run : runY (List.replicate n false) plan s = some ⟨[], List.replicate n [], out⟩
  tl : s.tracks.length = n
theorem rep_flat (n : Nat) : (List.replicate n ([] : List Int)).flatten = [] := by
  induction n with
  | zero => rfl
  | succ n ih => rw [List.replicate_succ, List.flatten_cons, ih]; rfl
theorem Ends0.perm {n : Nat} {plan : List Deed} {s : Yd} {out : List Int} (h : Ends0 n plan s out) : out.Perm (allY s) := by
  have := (runY_keeps h.run (by rw [List.length_replicate]; exact h.tl)).2
  unfold allY at this
  simp only [rep_flat] at this
  exact this
theorem Ends0.next {n : Nat} {d : Deed} {plan : List Deed} {s : Yd} {out : List Int} (h : Ends0 n (d :: plan) s out) : ∃ t, stepM (List.replicate n false) s d = some t ∧ Ends0 n plan t out := by
  have := h.run
  simp only [runY] at this
  obtain ⟨t, e1, e2⟩ := Option.bind_eq_some_iff.mp this
  refine ⟨t, e1, e2, ?_⟩
  have := (stepM_keeps e1 (by rw [List.length_replicate]; exact h.tl)).1
  rw [List.length_replicate] at this
  exact this
/-- what has left stays where it is -/
theorem Ends0.pre {n : Nat} : ∀ {plan : List Deed} {s : Yd} {out : List Int}, Ends0 n plan s out → ∃ o, out = s.behind ++ o
  | [], s, out, h => by
    have := h.run
    cases this
    exact ⟨[], by simp⟩
  | d :: plan, s, out, h => by
    obtain ⟨t, e1, h2⟩ := h.next
    obtain ⟨o, ho⟩ := h2.pre
    obtain ⟨rest, tracks, behind⟩ := s
    obtain ⟨b, k⟩ := d
    unfold stepM at e1
    split at e1
    · simp only at e1
      split at e1
      · split at e1
        · cases e1
        · cases e1
          exact ⟨o, ho⟩
      · split at e1
        · cases e1
        · split at e1
          · cases e1
            exact ⟨_, by rw [ho, List.append_assoc]⟩
          · cases e1
            exact ⟨_, by rw [ho, List.append_assoc]⟩
    · cases e1
/-- the two kinds of deeds -/
theorem step_cases {n : Nat} {s t : Yd} {d : Deed} (h : stepM (List.replicate n false) s d = some t) (hl : s.tracks.length = n) : ∃ i : Nat, i < n ∧
    ((∃ w r, s.rest = w :: r ∧ t = ⟨r, s.tracks.set i (s.tracks.getD i [] ++ [w]), s.behind⟩) ∨ (∃ u x, s.tracks.getD i [] = u ++ [x] ∧ t = ⟨s.rest, s.tracks.set i u, s.behind ++ [x]⟩)) := by
  obtain ⟨rest, tracks, behind⟩ := s
  obtain ⟨b, k⟩ := d
  unfold stepM at h
  by_cases hr : 0 ≤ k ∧ k < (List.replicate n false).length
  · rw [if_pos hr] at h
    rw [List.length_replicate] at hr
    have hk : k.toNat < n := by omega
    refine ⟨k.toNat, hk, ?_⟩
    simp only at h
    cases b with
    | true =>
      rw [if_pos rfl] at h
      cases rest with
      | nil => cases h
      | cons w r =>
        cases h
        exact .inl ⟨w, r, rfl, rfl⟩
    | false =>
      rw [if_neg (by decide)] at h
      cases ht : tracks.getD k.toNat [] with
      | nil => rw [ht] at h; cases h
      | cons x xs =>
        rw [ht] at h
        simp only at h
        rw [stub_false hk, if_neg (by decide)] at h
        cases h
        have hne : x :: xs ≠ [] := by simp
        refine .inr ⟨(x :: xs).dropLast, lastI (x :: xs), ?_, rfl⟩
        unfold lastI
        rw [List.getLastD_eq_getLast?, List.getLast?_eq_some_getLast hne]
        exact (List.dropLast_concat_getLast hne).symm
  · rw [if_neg hr] at h
    cases h
theorem sub2_mid {a b : Int} {l m : List Int} (ha : a ∈ l) (hb : b ∈ m) : [a, b].Sublist (l ++ m) := by
  have h1 : [a].Sublist l := by simpa using ha
  have h2 : [b].Sublist m := by simpa using hb
  exact h1.append h2
/-- on a stub the upper one leaves first -/
theorem Ends0.above {n : Nat} : ∀ {plan : List Deed} {s : Yd} {out : List Int} {i : Nat} {a b : Int}, Ends0 n plan s out → i < n → [a, b].Sublist (s.tracks.getD i []) → [b, a].Sublist out
  | [], s, out, i, a, b, h, hi, hs => by
    have := h.run
    cases this
    rw [List.getD_eq_getElem?_getD, List.getElem?_replicate, if_pos hi] at hs
    simp at hs
  | d :: plan, s, out, i, a, b, h, hi, hs => by
    obtain ⟨t, e1, h2⟩ := h.next
    obtain ⟨j, hj, q⟩ := step_cases e1 h.tl
    rcases q with ⟨w, r, _, rfl⟩ | ⟨u, x, hu, rfl⟩
    · refine h2.above (i := i) hi ?_
      by_cases e : i = j
      · subst e
        show [a, b].Sublist ((s.tracks.set i _).getD i [])
        rw [getD_set_self (by rw [h.tl]; exact hi)]
        exact hs.trans (List.sublist_append_left _ _)
      · show [a, b].Sublist ((s.tracks.set j _).getD i [])
        rw [List.getD_eq_getElem?_getD, List.getElem?_set, if_neg (fun z => e z.symm), ← List.getD_eq_getElem?_getD]
        exact hs
    · by_cases e : i = j
      · subst e
        rw [hu] at hs
        rcases sub2_snoc hs with hs | ⟨ha, rfl⟩
        · refine h2.above (i := i) hi ?_
          show [a, b].Sublist ((s.tracks.set i _).getD i [])
          rw [getD_set_self (by rw [h.tl]; exact hi)]
          exact hs
        · -- b leaves now, a stands below
          obtain ⟨o, ho⟩ := h2.pre
          have pm := h2.perm
          have cnt : o.Perm (s.rest ++ (s.tracks.set i u).flatten) := by
            have : (s.behind ++ [b] ++ o).Perm (s.behind ++ [b] ++ (s.rest ++ (s.tracks.set i u).flatten)) := by
              rw [show s.behind ++ [b] ++ o = out from ho.symm]
              refine pm.trans (cnt_perm fun z => ?_)
              unfold allY
              simp only [List.count_append]
              omega
            exact (List.perm_append_left_iff _).mp this
          have ao : a ∈ o := cnt.mem_iff.mpr (List.mem_append.mpr (.inr (List.mem_flatten.mpr ⟨u, by
            have : i < s.tracks.length := by rw [h.tl]; exact hi
            exact List.mem_set this u, ha⟩)))
          rw [ho]
          exact sub2_mid (by simp) ao
      · refine h2.above (i := i) hi ?_
        show [a, b].Sublist ((s.tracks.set j _).getD i [])
        rw [List.getD_eq_getElem?_getD, List.getElem?_set, if_neg (fun z => e z.symm), ← List.getD_eq_getElem?_getD]
        exact hs
theorem pair_lt {out : List Int} (up : out.Pairwise (· < ·)) {a b : Int} (h : [a, b].Sublist out) : a < b := by
  have := up.sublist h
  simpa using this
/-- three, the first on a track or waiting: the sides of the first two differ -/
def Sides3 (s : Yd) (f : Int → Int) : Prop := ∀ a b c, c < a → a < b → ((∃ i, a ∈ s.tracks.getD i []) ∧ [b, c].Sublist s.rest ∨ [a, b, c].Sublist s.rest) → f a ≠ f b
theorem sides_of {n : Nat} {out : List Int} (up : out.Pairwise (· < ·)) : ∀ (plan : List Deed) (s : Yd), Ends0 n plan s out → ∃ f : Int → Int, (∀ w, 0 ≤ f w ∧ (0 < n → f w < n)) ∧ (∀ i, i < n → ∀ w ∈ s.tracks.getD i [], f w = i) ∧ Sides3 s f
  | [], s, h => by
    have := h.run
    cases this
    refine ⟨fun _ => 0, fun _ => ⟨Int.le_refl 0, fun h => (by omega : (0 : Int) < n)⟩, fun i hi w hw => ?_, fun a b c _ _ hs => ?_⟩
    · rw [List.getD_eq_getElem?_getD, List.getElem?_replicate, if_pos hi] at hw
      simp at hw
    · rcases hs with ⟨_, hs⟩ | hs
      · simp at hs
      · simp at hs
  | d :: plan, s, h => by
    obtain ⟨t, e1, h2⟩ := h.next
    obtain ⟨f, f0, f1, f2⟩ := sides_of up plan t h2
    obtain ⟨j, hj, q⟩ := step_cases e1 h.tl
    have hjl : j < s.tracks.length := by rw [h.tl]; exact hj
    rcases q with ⟨w, r, hr, rfl⟩ | ⟨u, x, hu, rfl⟩
    · -- w enters stub j
      have trk : ∀ i, i < n → (s.tracks.set j (s.tracks.getD j [] ++ [w])).getD i [] = if i = j then s.tracks.getD j [] ++ [w] else s.tracks.getD i [] := fun i hi => by
        by_cases e : i = j
        · subst e; rw [if_pos rfl, getD_set_self hjl]
        · rw [if_neg e, List.getD_eq_getElem?_getD, List.getElem?_set, if_neg (fun z => e z.symm), ← List.getD_eq_getElem?_getD]
      refine ⟨f, f0, fun i hi v hv => f1 i hi v ?_, fun a b c hc hab hs => ?_⟩
      · show v ∈ (s.tracks.set j _).getD i []
        rw [trk i hi]
        split
        · rename_i e; subst e; exact List.mem_append.mpr (.inl hv)
        · exact hv
      · rw [hr] at hs
        have low : ∀ i, a ∈ s.tracks.getD i [] → i < n := fun i hi => by
          by_cases z : i < n
          · exact z
          · rw [List.getD_eq_getElem?_getD, List.getElem?_eq_none (by rw [h.tl]; omega)] at hi
            cases hi
        have keep : ∀ i, a ∈ s.tracks.getD i [] → ∃ i, a ∈ (s.tracks.set j (s.tracks.getD j [] ++ [w])).getD i [] := fun i hi => ⟨i, by
          rw [trk i (low i hi)]
          split
          · rename_i e; subst e; exact List.mem_append.mpr (.inl hi)
          · exact hi⟩
        rcases hs with ⟨⟨i, hi⟩, hs⟩ | hs
        · cases hs with
          | cons _ hs => exact f2 a b c hc hab (.inl ⟨keep i hi, hs⟩)
          | cons_cons _ hs =>
            have hin := low i hi
            have e2 := f1 j hj w (by show w ∈ (s.tracks.set j _).getD j []; rw [trk j hj, if_pos rfl]; simp)
            have e3 := f1 i hin a (by
              show a ∈ (s.tracks.set j _).getD i []
              rw [trk i hin]
              split
              · rename_i e; subst e; exact List.mem_append.mpr (.inl hi)
              · exact hi)
            rw [e2, e3]
            intro z
            have z2 : i = j := by omega
            subst z2
            have : [w, a].Sublist out := h2.above (i := i) hin (by
              show [a, w].Sublist ((s.tracks.set i _).getD i [])
              rw [trk i hin, if_pos rfl]
              exact sub2_mid hi (by simp))
            have := pair_lt up this
            omega
        · cases hs with
          | cons _ hs => exact f2 a b c hc hab (.inr hs)
          | cons_cons _ hs => exact f2 w b c hc hab (.inl ⟨⟨j, by show w ∈ (s.tracks.set j _).getD j []; rw [trk j hj, if_pos rfl]; simp⟩, hs⟩)
    · -- x leaves stub j
      have trk : ∀ i, i ≠ j → (s.tracks.set j u).getD i [] = s.tracks.getD i [] := fun i e => by
        rw [List.getD_eq_getElem?_getD, List.getElem?_set, if_neg (fun z => e z.symm), ← List.getD_eq_getElem?_getD]
      have self : (s.tracks.set j u).getD j [] = u := getD_set_self hjl
      have nd : (allY s).Nodup := by
        have : out.Nodup := up.imp fun h => by omega
        exact h.perm.nodup_iff.mp this
      have hap : ∀ i v, i < n → i ≠ j → v ∈ s.tracks.getD i [] → v ≠ x := fun i v hi e hv z => by
        subst z
        have c1 := List.nodup_iff_count.mp nd v
        unfold allY at c1
        simp only [List.count_append] at c1
        obtain ⟨A, B, g1, g2⟩ := flatten_set (getD_at hjl)
        have g3 := g2 []
        have m1 : v ∈ (s.tracks.set j []).flatten := List.mem_flatten.mpr ⟨s.tracks.getD i [], by
          have : i < (s.tracks.set j []).length := by rw [List.length_set, h.tl]; exact hi
          have e4 := getD_mem (ls := s.tracks.set j []) (i := i) this
          rw [List.getD_eq_getElem?_getD, List.getElem?_set, if_neg (fun z => e z.symm), ← List.getD_eq_getElem?_getD] at e4
          exact e4, hv⟩
        rw [g3] at m1
        have m2 := List.count_pos_iff.mpr m1
        rw [g1, hu] at c1
        simp only [List.count_append, List.count_cons, List.count_nil, List.nil_append, beq_self_eq_true, if_true] at c1 m2
        omega
      refine ⟨fun w => if w = x then j else f w, fun w => ?_, fun i hi v hv => ?_, fun a b c hc hab hs => ?_⟩
      · show 0 ≤ (if w = x then (j : Int) else f w) ∧ (0 < n → (if w = x then (j : Int) else f w) < n)
        split
        · omega
        · exact f0 w
      · show (if v = x then (j : Int) else f v) = i
        by_cases e : i = j
        · subst e
          rw [hu] at hv
          split
          · rfl
          · rename_i vx
            refine f1 i hi v ?_
            show v ∈ (s.tracks.set i u).getD i []
            rw [self]
            rcases List.mem_append.mp hv with hv | hv
            · exact hv
            · exact (vx (List.mem_singleton.mp hv)).elim
        · rw [if_neg (hap i v hi e hv)]
          refine f1 i hi v ?_
          show v ∈ (s.tracks.set j u).getD i []
          rw [trk i e]
          exact hv
      · have notx : ∀ v ∈ s.rest, v ≠ x := fun v hv z => by
          subst z
          have c1 := List.nodup_iff_count.mp nd v
          unfold allY at c1
          obtain ⟨A, B, g1, g2⟩ := flatten_set (getD_at hjl)
          rw [g1, hu] at c1
          have := List.count_pos_iff.mpr hv
          simp only [List.count_append, List.count_cons, List.count_nil, beq_self_eq_true, if_true] at c1
          omega
        show (if a = x then (j : Int) else f a) ≠ (if b = x then (j : Int) else f b)
        rcases hs with ⟨⟨i, hi⟩, hs⟩ | hs
        · have bx := notx b (hs.subset (by simp))
          rw [if_neg bx]
          by_cases ax : a = x
          · subst ax
            -- a leaves while c waits
            have cr : c ∈ s.rest := hs.subset (by simp)
            obtain ⟨o, ho⟩ := h2.pre
            have co : c ∈ o := by
              have c2 : c ∈ out := h2.perm.mem_iff.mpr (by unfold allY; exact List.mem_append.mpr (.inl cr))
              rw [ho] at c2
              rcases List.mem_append.mp c2 with c2 | c2
              · rcases List.mem_append.mp c2 with c2 | c2
                · unfold allY at nd
                  rw [List.nodup_append] at nd
                  exact (nd.2.2 c cr c (List.mem_append.mpr (.inr c2)) rfl).elim
                · have := List.mem_singleton.mp c2
                  exact (notx c cr this).elim
              · exact c2
            have : [a, c].Sublist out := by rw [ho]; exact sub2_mid (by simp) co
            have := pair_lt up this
            omega
          · rw [if_neg ax]
            refine f2 a b c hc hab (.inl ⟨⟨i, ?_⟩, hs⟩)
            show a ∈ (s.tracks.set j u).getD i []
            by_cases e : i = j
            · subst e
              rw [hu] at hi
              rw [self]
              rcases List.mem_append.mp hi with hi | hi
              · exact hi
              · exact (ax (List.mem_singleton.mp hi)).elim
            · rw [trk i e]
              exact hi
        · rw [if_neg (notx a (hs.subset (by simp))), if_neg (notx b (hs.subset (by simp)))]
          exact f2 a b c hc hab (.inr hs)
/-- a row that stubs sort has sides -/
theorem sorted_sides {n : Nat} {row : List Int} (nd : row.Nodup) {plan : List Deed} (h : runM (List.replicate n false) row plan = some (isort row)) : ∃ f : Int → Int, (∀ w, 0 ≤ f w ∧ (0 < n → f w < n)) ∧ ∀ a b, Cross row a b → f a ≠ f b := by
  unfold runM at h
  rw [List.length_replicate] at h
  obtain ⟨t, h1, h2⟩ := Option.map_eq_some_iff.mp h
  have kp := runY_keeps h1 (by rw [List.length_replicate, List.length_replicate])
  rw [List.length_replicate] at kp
  have pm : (allY t).Perm row := by
    refine kp.2.trans ?_
    unfold allY
    simp only [rep_flat]
    simp
  obtain ⟨rest, tracks, behind⟩ := t
  simp only at h2
  subst h2
  have len := pm.length_eq
  unfold allY at len
  simp only [List.length_append, isort_length] at len
  have r0 : rest = [] := List.length_eq_zero_iff.mp (by omega)
  have t0 : tracks = List.replicate n [] := by
    rw [List.eq_replicate_iff]
    refine ⟨kp.1, fun b hb => ?_⟩
    have := flatten_le hb
    exact List.length_eq_zero_iff.mp (by omega)
  subst r0
  subst t0
  obtain ⟨f, f0, _, f2⟩ := sides_of (isort_lt nd) plan _ ⟨h1, by rw [List.length_replicate]⟩
  refine ⟨f, f0, fun a b hab => ?_⟩
  obtain ⟨h1, c, h2, h3⟩ := hab
  exact f2 a b c h2 h1 (.inr h3)
theorem no_ring {row ring : List Int} {f : Int → Int} (hf : ∀ w, f w = 0 ∨ f w = 1) (hc : ∀ a b, Cross row a b → f a ≠ f b) : ¬ RingOk row ring := fun ok => by
  have hu : ∀ a b, CrossU row a b → f a ≠ f b := fun a b h => by
    rcases h with h | h
    · exact hc a b h
    · exact fun z => hc b a h z.symm
  have odd := ok.odd
  have ge := ok.ge
  have alt : ∀ i, i < ring.length → (f (ring.getD i 0) = f (ring.getD 0 0) ↔ i % 2 = 0) := fun i => by
    induction i with
    | zero => intro _; simp
    | succ i ih =>
      intro hi
      have e := ih (by omega)
      have ne := hu _ _ (ok.adj.at (i := i) hi)
      rcases hf (ring.getD i 0) with q1 | q1 <;> rcases hf (ring.getD (i + 1) 0) with q2 | q2 <;> rcases hf (ring.getD 0 0) with q3 | q3 <;> rw [q1, q3] at e <;> rw [q2, q3] <;> rw [q1, q2] at ne <;> first | exact (ne rfl).elim | (constructor <;> intro z <;> first | omega | (simp at e; omega))
  have last := (alt (ring.length - 1) (by omega)).mpr (by omega)
  have e : lastI ring = ring.getD (ring.length - 1) 0 := by
    rcases snoc_cases ring with h | ⟨a, x, h⟩
    · rw [h] at ge; simp at ge
    · rw [h, lastI_append, List.length_append, List.length_singleton, Nat.add_sub_cancel, List.getD_eq_getElem?_getD, List.getElem?_append_right (Nat.le_refl _), Nat.sub_self]
      rfl
  have := hu _ _ ok.close
  rw [e] at this
  exact this last
end DL

/-! K11: the law -/
namespace DL
open PySem L2
local macro_rules | `(tactic| walk_at "w") => `(tactic| conv => whnf)
local macro_rules | `(tactic| walk_at "side") => `(tactic| first | omega | decide | exact Nat.le_of_ble_eq_true rfl | exact ⟨by decide, by decide⟩ | exact Or.inl ⟨by omega, by omega⟩ | exact Or.inr ⟨by omega, by omega⟩ | (show (_ : Int) ≠ 0; omega) | exact ⟨by omega, by omega⟩ | (rw [List.length_map]; omega) | (simp only [List.length_map, List.length_append, List.length_cons, List.length_nil]; omega))
local macro_rules | `(tactic| walk_at "go") => `(tactic| ((repeat ((conv => whnf); first | (refine And.intro ?_ ?_; · walk_at "side") | refine And.intro (fun h => Bool.noConfusion (show false = true from h)) (fun _ => ?_) | refine And.intro (fun _ => ?_) (fun h => Bool.noConfusion (show true = false from h)))); (conv => whnf)))
local macro_rules | `(tactic| walk_at "if") => `(tactic| refine ⟨fun hc => ?_, fun hc => ?_⟩)
def sp_law_sorts : DSp := fun ds Q => ∃ (n : Nat) (row : List Int) (plan : List Deed), ds = [.tup [.str "plan", .lst (plan.map deedD)], .int n, dints row] ∧ n ≤ 2 ∧ row.length ≤ 63 ∧ plan.length ≤ 200 ∧ runM (List.replicate n false) row plan = some (isort row) ∧ Q (.bl true)
def d_law_sorts_1 : DE := (dC (.str "stub"))
def d_law_sorts : DS := (dSeq (dIfS (dOr (dNot (dT (dIsi "tuple" (dVar false 0)))) (dOr (dT (dOp (oEq true) (dLen (dIv false 0)) (dC (.int 2)))) (dT (dOp (oEq true) (dIx (dIv false 0) (dC (.int 0))) (dC (.str "plan")))))) (dRet (dC (.bl false))) dNext)
  (dSeq (dIfS (dOr (dNot (dT (dCall sp_law_deeds (dCons (dIx (dIv false 0) (dC (.int 1))) dNil)))) (dT (dOp oGt (dLen (dI (dIx (dIv false 0) (dC (.int 1))))) (dC (.int 200))))) (dRet (dC (.bl false))) dNext)
  (dRet (dOp (oEqD false) (dCall sp_law_run (dCons (dL (dLc (dRng1 (dCons (dVar false 1) dNil)) 3 dYes d_law_sorts_1)) (dCons (dVar false 2) (dCons (dIx (dIv false 0) (dC (.int 1))) dNil)))) (dL (dSorted (dSv false 2)))))))
theorem ln_law_sorts : ∀ ds Q, sp_law_sorts ds Q → ds.length = 3 := by
  rintro ds Q ⟨_, _, _, rfl, _⟩
  rfl
theorem th_law_sorts : ∀ ds Q, sp_law_sorts ds Q → d_law_sorts (dEnds Q) (dstart 4 ds) := by
  rintro ds Q ⟨n, row, plan, rfl, hn, hl, hp, hrun, hq⟩
  walk_at "go"
  refine ⟨_, rfl, ?_⟩
  walk_at "go"
  refine ⟨_, rfl, ?_⟩
  walk_at "w"
  refine ⟨plan, rfl, ?_⟩
  walk_at "go"
  refine ⟨_, rfl, ?_⟩
  walk_at "w"
  refine ⟨fun h => ?_, fun _ => ?_⟩
  · rw [decide_eq_true_iff, List.length_map] at h
    omega
  walk_at "w"
  refine ⟨⟨by omega, by omega⟩, ?_⟩
  walk_at "w"
  refine ⟨by rw [rangeD_len]; omega, ?_⟩
  refine dLcG_map (fun _ => kindD false) (fun x hx R hR => hR) ?_
  walk_at "w"
  refine ⟨_, rfl, ?_⟩
  walk_at "w"
  refine ⟨List.replicate n false, row, plan, isort row, ?_, by rw [List.length_replicate]; omega, by omega, hrun, ?_⟩
  · rw [List.nil_append, List.map_const', List.map_replicate, rangeD_len, show ((n : Int) - 0).toNat = n by omega]
  walk_at "w"
  refine ⟨row, rfl, by omega, ?_⟩
  walk_at "w"
  refine ⟨shp_ints _, shp_ints _, ?_⟩
  have es := eqv_self (isort row)
  unfold dints at es
  rw [es]
  exact hq
def d_law_k11 : DS := (dSeq (dSet 1 (dOp oAdd (dC (.int 1)) (dOp oMod (dCall sp_law_cell_at (dCons (dVar false 0) (dCons (dC (.int 0)) dNil))) (dC (.int 2)))))
  (dSeq (dSet 2 (dC (.int 20)))
  (dJoin (dIfS (dT (dOp (oEq false) (dOp oMod (dOp oDiv (dCall sp_law_cell_at (dCons (dVar false 0) (dCons (dC (.int 1)) dNil))) (dC (.int 5))) (dC (.int 8))) (dC (.int 3)))) (dSet 2 (dC (.int 60))) dNext)
  (dSeq (dSet 3 (dCall sp_law_turned_back (dCons (dVar true 0) (dCons (dVar true 1) (dCons (dVar true 2) dNil)))))
  (dSeq (dIfS (dAnd (dT (dOp (oEq false) (dVar false 1) (dC (.int 1)))) (dNot (dT (dCall sp_law_sorts (dCons (dCall sp_one_stub (dCons (dL (dIv true 3)) dNil)) (dCons (dC (.int 1)) (dCons (dVar false 3) dNil))))))) (dRet (dC (.bl false))) dNext)
  (dRet (dCall sp_law_sorts (dCons (dCall sp_two_stubs (dCons (dL (dIv true 3)) dNil)) (dCons (dC (.int 2)) (dCons (dVar true 3) dNil))))))))))
theorem th_law_k11 : ∀ ds Q, sp_law ds Q → d_law_k11 (dEnds Q) (dstart 4 ds) := by
  rintro ds Q ⟨ns, rfl, hl, hq⟩
  walk_at "go"
  refine ⟨ns, 0, rfl, by decide, ?_⟩
  walk_at "go"
  have f2 := fmod_rng (cellAt ns 0) (show (0 : Int) < 2 by decide)
  obtain ⟨n, hn⟩ : ∃ n : Nat, 1 + (cellAt ns 0).fmod 2 = n := ⟨(1 + (cellAt ns 0).fmod 2).toNat, by omega⟩
  dsimp only [put]
  rw [hn]
  refine ⟨fun ρ => ∃ b : Int, 8 ≤ b ∧ b ≤ 60 ∧ ρ = [.fz (.scr ns), .fz (.int n), .fz (.int b), .un], ?_, ?_⟩
  · walk_at "w"
    refine ⟨ns, 1, rfl, by decide, ?_⟩
    walk_at "go"
    refine ⟨fun _ => ⟨60, by decide, by decide, rfl⟩, fun _ => ⟨20, by decide, by decide, rfl⟩⟩
  rintro ρ ⟨b, b0, b1, rfl⟩
  walk_at "w"
  refine ⟨ns, n, b, rfl, by omega, by omega, b0, b1, fun row hrow hplan => ?_⟩
  obtain ⟨plan0, hrun0⟩ := hplan
  have nd := hrow.nd
  have hlen : row.length ≤ 60 := by have := hrow.len; omega
  obtain ⟨f, f0, f1⟩ := sorted_sides nd hrun0
  have two : dRet (dCall sp_law_sorts (dCons (dCall sp_two_stubs (dCons (dL (dIv true 3)) dNil)) (dCons (dC (.int 2)) (dCons (dVar true 3) dNil)))) (dEnds Q) [.fz (.scr ns), .fz (.int n), .fz (.int b), .fz (dints row)] := by
    walk_at "go"
    refine ⟨row, rfl, nd, by omega, fun ring ok => ?_, fun plan h1 h2 => ?_⟩
    · refine (no_ring (fun w => ?_) f1 ok).elim
      have := f0 w
      have := this.2 (by omega)
      omega
    · walk_at "w"
      exact ⟨2, row, plan, rfl, by decide, by omega, by omega, h1, hq⟩
  walk_at "go"
  refine ⟨fun h1 => ?_, fun _ => ⟨fun h => Bool.noConfusion h, fun _ => two⟩⟩
  rw [Bool.false_xor, decide_eq_true_iff] at h1
  have n1 : n = 1 := by omega
  subst n1
  walk_at "go"
  refine ⟨row, rfl, nd, by omega, fun a b c hst => ?_, fun plan h1 h2 => ?_⟩
  · have := f1 a b ⟨hst.2.1, c, hst.1, hst.2.2⟩
    have h0 := f0 a
    have h3 := f0 b
    have := h0.2 (by decide)
    have := h3.2 (by decide)
    exact (‹f a ≠ f b› (by omega)).elim
  · walk_at "w"
    refine ⟨1, row, plan, rfl, by decide, by omega, by omega, h1, ?_⟩
    walk_at "w"
    refine ⟨fun h => Bool.noConfusion h, fun _ => two⟩
end DL

namespace DL
open PySem L2
def top_ (i : Nat) : Stmt := PySem.Challenge.pw_shuntyard_k11_what_two_stubs_can_sort.main.body.getD i (.Pass ⟨0, 0, 0, 0⟩)
abbrev s_lesser_behind : Stmt := top_ 1
abbrev s_crossing : Stmt := top_ 2
abbrev s_stub_plan : Stmt := top_ 3
abbrev s_one_stub : Stmt := top_ 4
abbrev s_neighbours : Stmt := top_ 5
abbrev s_way_up : Stmt := top_ 6
abbrev s_ring_of : Stmt := top_ 7
abbrev s_sided : Stmt := top_ 8
abbrev s_two_stubs : Stmt := top_ 9
abbrev s__law_cell_at : Stmt := top_ 11
abbrev s__law_whole : Stmt := top_ 12
abbrev s__law_deeds : Stmt := top_ 13
abbrev s__law_run : Stmt := top_ 14
abbrev s__law_turned_back : Stmt := top_ 15
abbrev s__law_sorts : Stmt := top_ 16
abbrev s_law : Stmt := top_ 17
section
variable {P : Program} {w : World} {K : PySem.W.Frag} {mg : Str → Option Value} {base : Heap}
theorem ok_lesser_behind (M : Bt mg)  {fa : Addr} {fd : FuncData} (F : Fun K "lesser_behind" "lesser_behind" s_lesser_behind fa fd) : FnOk P w K mg base CX0 1 fa fd ["row", "place", "wagon"] (liftSp K sp_lesser_behind) := by
  have sc : FnScope ["row", "place", "wagon", "k"] ["row", "place", "wagon"] (defScope s_lesser_behind) := ⟨rfl, rfl, rfl, by decide +kernel, rfl, by decide +kernel, by decide +kernel⟩
  refine fn_ok F sc ln_lesser_behind th_lesser_behind (fun cdv A outer s H E hr => ?_)
  have hu := hu_of hr
  exact ⟨_, (qss_cons (qs_forR2 (j := 3) PassesOwn.never rfl sc.nd rfl (by first | exact Or.inl rfl | exact Or.inr rfl) M.range (qa_cons (qe_add (qv 1) qe_int) (qa_cons (qe_len (qi_v 0) M.len) qa_nil)) (qss_one (qs_if (qt_lt (qe_ix (qi_v 0) (qv 3) (fun _ _ => rfl)) (qv 2)) (qss_one (qs_ret (qe_ix (qi_v 0) (qv 3) (fun _ _ => rfl)))) qss_nil)))
  (qss_one (qs_ret qe_non)))⟩
theorem ok_crossing (M : Bt mg) (H_lesser_behind : Has P w K mg base 1 "lesser_behind" ["row", "place", "wagon"] sp_lesser_behind) {fa : Addr} {fd : FuncData} (F : Fun K "crossing" "crossing" s_crossing fa fd) : FnOk P w K mg base CX0 2 fa fd ["row"] (liftSp K sp_crossing) := by
  have sc : FnScope ["row", "pairs", "k", "j"] ["row"] (defScope s_crossing) := ⟨rfl, rfl, rfl, by decide +kernel, rfl, by decide +kernel, by decide +kernel⟩
  obtain ⟨a_lesser_behind, fd_lesser_behind, G_lesser_behind, m_lesser_behind, k_lesser_behind, b_lesser_behind⟩ := H_lesser_behind
  refine fn_ok F sc ln_crossing th_crossing (fun cdv A outer s H E hr => ?_)
  have hu := hu_of hr
  exact ⟨_, (qss_cons (qs_setL (i := 1) sc.nd rfl (by first | exact Or.inl rfl | exact Or.inr rfl) (ql_lst qa_nil))
  (qss_cons (qs_forR1 (j := 2) PassesOwn.never rfl sc.nd rfl (by first | exact Or.inl rfl | exact Or.inr rfl) M.range (qa_cons (qe_len (qi_v 0) M.len) qa_nil) (qss_one (qs_forR2 (j := 3) PassesOwn.never rfl sc.nd rfl (by first | exact Or.inl rfl | exact Or.inr rfl) M.range (qa_cons (qe_add (qv 2) qe_int) (qa_cons (qe_len (qi_v 0) M.len) qa_nil)) (qss_one (qs_if (QW.qt (qw_and (qt_lt (qe_ix (qi_v 0) (qv 2) (fun _ _ => rfl)) (qe_ix (qi_v 0) (qv 3) (fun _ _ => rfl))) (qw_and1 (qt_notN (qe_call G_lesser_behind (hr.mono (by decide)) m_lesser_behind k_lesser_behind b_lesser_behind (qa_cons (qv 0) (qa_cons (qv 3) (qa_cons (qe_ix (qi_v 0) (qv 2) (fun _ _ => rfl)) qa_nil)))) qe_non)))) (qss_one (qs_app (qe_tup (qa_cons (qe_ix (qi_v 0) (qv 2) (fun _ _ => rfl)) (qa_cons (qe_ix (qi_v 0) (qv 3) (fun _ _ => rfl)) qa_nil))) (qv 1))) qss_nil)))))
  (qss_one (qs_ret (qv 1)))))⟩
theorem ok_stub_plan (M : Bt mg)  {fa : Addr} {fd : FuncData} (F : Fun K "stub_plan" "stub_plan" s_stub_plan fa fd) : FnOk P w K mg base CX0 1 fa fd ["row", "stub_of"] (liftSp K sp_stub_plan) := by
  have sc : FnScope ["row", "stub_of", "order", "deeds", "here", "due", "wagon"] ["row", "stub_of"] (defScope s_stub_plan) := ⟨rfl, rfl, rfl, by decide +kernel, rfl, by decide +kernel, by decide +kernel⟩
  refine fn_ok F sc ln_stub_plan th_stub_plan (fun cdv A outer s H E hr => ?_)
  have hu := hu_of hr
  exact ⟨_, (qss_cons (qs_set (i := 2) sc.nd rfl (by first | exact Or.inl rfl | exact Or.inr rfl) (qe_ofL (ql_sorted (qs_v 0) M.sorted)))
  (qss_cons (qs_setL (i := 3) sc.nd rfl (by first | exact Or.inl rfl | exact Or.inr rfl) (ql_lst qa_nil))
  (qss_cons (qs_newK (i := 4) sc.nd rfl (by first | exact Or.inl rfl | exact Or.inr rfl))
  (qss_cons (qs_set (i := 5) sc.nd rfl (by first | exact Or.inl rfl | exact Or.inr rfl) qe_int)
  (qss_cons (qs_forL (j := 6) PassesOwn.never rfl sc.nd rfl (by first | exact Or.inl rfl | exact Or.inr rfl) (qf_of (qv 0)) (qss_cons (qs_app (qe_tup (qa_cons qe_str (qa_cons (qe_get hu (qv 1) (qv 6) (fun _ _ => rfl)) qa_nil))) (qv 3))
  (qss_cons (qs_put hu qe_bl (qv 6) (qv 4))
  (qss_one (qs_while PassesOwn.never (QW.qt (qw_and (qt_lt (qv 5) (qe_len (qi_v 2) M.len)) (qw_and1 (qt_in hu (qe_ix (qi_v 2) (qv 5) (fun _ _ => rfl)) (qv 4))))) (qss_cons (qs_app (qe_tup (qa_cons qe_str (qa_cons (qe_get hu (qv 1) (qe_ix (qi_v 2) (qv 5) (fun _ _ => rfl)) (fun _ _ => rfl)) qa_nil))) (qv 3))
  (qss_one (qs_set (i := 5) sc.nd rfl (by first | exact Or.inl rfl | exact Or.inr rfl) (qe_add (qv 5) qe_int)))))))))
  (qss_one (qs_ret (qv 3))))))))⟩
theorem ok_one_stub (M : Bt mg) (H_lesser_behind : Has P w K mg base 1 "lesser_behind" ["row", "place", "wagon"] sp_lesser_behind) (H_stub_plan : Has P w K mg base 1 "stub_plan" ["row", "stub_of"] sp_stub_plan) {fa : Addr} {fd : FuncData} (F : Fun K "one_stub" "one_stub" s_one_stub fa fd) : FnOk P w K mg base CX0 2 fa fd ["row"] (liftSp K sp_one_stub) := by
  have sc : FnScope ["row", "k", "j", "lesser", "stub_of", "wagon"] ["row"] (defScope s_one_stub) := ⟨rfl, rfl, rfl, by decide +kernel, rfl, by decide +kernel, by decide +kernel⟩
  obtain ⟨a_lesser_behind, fd_lesser_behind, G_lesser_behind, m_lesser_behind, k_lesser_behind, b_lesser_behind⟩ := H_lesser_behind
  obtain ⟨a_stub_plan, fd_stub_plan, G_stub_plan, m_stub_plan, k_stub_plan, b_stub_plan⟩ := H_stub_plan
  refine fn_ok F sc ln_one_stub th_one_stub (fun cdv A outer s H E hr => ?_)
  have hu := hu_of hr
  exact ⟨_, (qss_cons (qs_forR1 (j := 1) PassesOwn.never rfl sc.nd rfl (by first | exact Or.inl rfl | exact Or.inr rfl) M.range (qa_cons (qe_len (qi_v 0) M.len) qa_nil) (qss_one (qs_forR2 (j := 2) PassesOwn.never rfl sc.nd rfl (by first | exact Or.inl rfl | exact Or.inr rfl) M.range (qa_cons (qe_add (qv 1) qe_int) (qa_cons (qe_len (qi_v 0) M.len) qa_nil)) (qss_one (qs_if (qt_lt (qe_ix (qi_v 0) (qv 1) (fun _ _ => rfl)) (qe_ix (qi_v 0) (qv 2) (fun _ _ => rfl))) (qss_cons (qs_set (i := 3) sc.nd rfl (by first | exact Or.inl rfl | exact Or.inr rfl) (qe_call G_lesser_behind (hr.mono (by decide)) m_lesser_behind k_lesser_behind b_lesser_behind (qa_cons (qv 0) (qa_cons (qv 2) (qa_cons (qe_ix (qi_v 0) (qv 1) (fun _ _ => rfl)) qa_nil)))))
  (qss_one (qs_if (qt_notN (qv 3) qe_non) (qss_one (qs_ret (qe_tup (qa_cons qe_str (qa_cons (qe_ofL (ql_lst (qa_cons (qe_ix (qi_v 0) (qv 1) (fun _ _ => rfl)) (qa_cons (qe_ix (qi_v 0) (qv 2) (fun _ _ => rfl)) (qa_cons (qv 3) qa_nil))))) qa_nil))))) qss_nil))) qss_nil)))))
  (qss_cons (qs_newK (i := 4) sc.nd rfl (by first | exact Or.inl rfl | exact Or.inr rfl))
  (qss_cons (qs_forL (j := 5) PassesOwn.never rfl sc.nd rfl (by first | exact Or.inl rfl | exact Or.inr rfl) (qf_of (qv 0)) (qss_one (qs_put hu qe_int (qv 5) (qv 4))))
  (qss_one (qs_ret (qe_tup (qa_cons qe_str (qa_cons (qe_call G_stub_plan (hr.mono (by decide)) m_stub_plan k_stub_plan b_stub_plan (qa_cons (qv 0) (qa_cons (qv 4) qa_nil))) qa_nil))))))))⟩
theorem ok_neighbours (M : Bt mg) (H_crossing : Has P w K mg base 2 "crossing" ["row"] sp_crossing) {fa : Addr} {fd : FuncData} (F : Fun K "neighbours" "neighbours" s_neighbours fa fd) : FnOk P w K mg base CX0 3 fa fd ["row"] (liftSp K sp_neighbours) := by
  have sc : FnScope ["row", "near", "wagon", "pair"] ["row"] (defScope s_neighbours) := ⟨rfl, rfl, rfl, by decide +kernel, rfl, by decide +kernel, by decide +kernel⟩
  obtain ⟨a_crossing, fd_crossing, G_crossing, m_crossing, k_crossing, b_crossing⟩ := H_crossing
  refine fn_ok F sc ln_neighbours th_neighbours (fun cdv A outer s H E hr => ?_)
  have hu := hu_of hr
  exact ⟨_, (qss_cons (qs_newL (i := 1) sc.nd rfl (by first | exact Or.inl rfl | exact Or.inr rfl))
  (qss_cons (qs_forL (j := 2) PassesOwn.never rfl sc.nd rfl (by first | exact Or.inl rfl | exact Or.inr rfl) (qf_of (qv 0)) (qss_one (qs_putNil hu (qv 2) (qv 1))))
  (qss_cons (qs_forL (j := 3) PassesOwn.never rfl sc.nd rfl (by first | exact Or.inl rfl | exact Or.inr rfl) (qf_of (qe_call G_crossing (hr.mono (by decide)) m_crossing k_crossing b_crossing (qa_cons (qv 0) qa_nil))) (qss_cons (qs_appK hu (qe_ix (qi_v 3) qe_int (fun _ _ => rfl)) (qe_ix (qi_v 3) qe_int (fun _ _ => rfl)) (qv 1) (fun _ _ => rfl))
  (qss_one (qs_appK hu (qe_ix (qi_v 3) qe_int (fun _ _ => rfl)) (qe_ix (qi_v 3) qe_int (fun _ _ => rfl)) (qv 1) (fun _ _ => rfl)))))
  (qss_one (qs_ret (qv 1))))))⟩
theorem ok_way_up (M : Bt mg)  {fa : Addr} {fd : FuncData} (F : Fun K "way_up" "way_up" s_way_up fa fd) : FnOk P w K mg base CX0 1 fa fd ["back", "wagon"] (liftSp K sp_way_up) := by
  have sc : FnScope ["back", "wagon", "way"] ["back", "wagon"] (defScope s_way_up) := ⟨rfl, rfl, rfl, by decide +kernel, rfl, by decide +kernel, by decide +kernel⟩
  refine fn_ok F sc ln_way_up th_way_up (fun cdv A outer s H E hr => ?_)
  have hu := hu_of hr
  exact ⟨_, (qss_cons (qs_setL (i := 2) sc.nd rfl (by first | exact Or.inl rfl | exact Or.inr rfl) (ql_lst (qa_cons (qv 1) qa_nil)))
  (qss_cons (qs_while PassesOwn.never (qt_in hu (qe_ix (qi_v 2) (qe_neg qe_int) (fun _ _ => rfl)) (qv 0)) (qss_one (qs_app (qe_get hu (qv 0) (qe_ix (qi_v 2) (qe_neg qe_int) (fun _ _ => rfl)) (fun _ _ => rfl)) (qv 2))))
  (qss_one (qs_ret (qv 2)))))⟩
theorem ok_ring_of (M : Bt mg) (H_way_up : Has P w K mg base 1 "way_up" ["back", "wagon"] sp_way_up) {fa : Addr} {fd : FuncData} (F : Fun K "ring_of" "ring_of" s_ring_of fa fd) : FnOk P w K mg base CX0 2 fa fd ["back", "one", "other"] (liftSp K sp_ring_of) := by
  have sc : FnScope ["back", "one", "other", "ones", "others", "k"] ["back", "one", "other"] (defScope s_ring_of) := ⟨rfl, rfl, rfl, by decide +kernel, rfl, by decide +kernel, by decide +kernel⟩
  obtain ⟨a_way_up, fd_way_up, G_way_up, m_way_up, k_way_up, b_way_up⟩ := H_way_up
  refine fn_ok F sc ln_ring_of th_ring_of (fun cdv A outer s H E hr => ?_)
  have hu := hu_of hr
  exact ⟨_, (qss_cons (qs_setL (i := 3) sc.nd rfl (by first | exact Or.inl rfl | exact Or.inr rfl) (ql_call G_way_up (hr.mono (by decide)) m_way_up k_way_up b_way_up (qa_cons (qv 0) (qa_cons (qv 1) qa_nil))))
  (qss_cons (qs_setL (i := 4) sc.nd rfl (by first | exact Or.inl rfl | exact Or.inr rfl) (ql_call G_way_up (hr.mono (by decide)) m_way_up k_way_up b_way_up (qa_cons (qv 0) (qa_cons (qv 2) qa_nil))))
  (qss_cons (qs_while PassesOwn.never (QW.qt (qw_and (qt_gt (qe_len (qi_v 3) M.len) qe_int) (qw_and (qt_gt (qe_len (qi_v 4) M.len) qe_int) (qw_and1 (qt_eq (qe_ix (qi_v 3) (qe_neg qe_int) (fun _ _ => rfl)) (qe_ix (qi_v 4) (qe_neg qe_int) (fun _ _ => rfl))))))) (qss_cons (qs_pop (qv 3))
  (qss_one (qs_pop (qv 4)))))
  (qss_one (qs_ret (qe_ofL (ql_cat (qx_v 3) (qx_new (ql_lc (qc_R1 rfl sc.nd M.range (qa_cons (qe_sub (qe_len (qi_v 4) M.len) qe_int) qa_nil) (blkOk_by (N := ["back", "one", "other", "ones", "others", "k"]) (sc := defScope s_ring_of) (by decide +kernel)) (fun _ _ _ _ _ => pg_name (i := 5) sc.nd rfl (Or.inl rfl)) (fun _ _ _ _ _ => qts_nil) (fun _ _ _ _ _ => (qe_ix (qi_v 4) (qe_sub (qe_sub (qe_len (qi_v 4) M.len) qe_int) (qv 5)) (fun _ _ => rfl)))))))))))))⟩
theorem ok_sided (M : Bt mg) (H_neighbours : Has P w K mg base 3 "neighbours" ["row"] sp_neighbours) (H_ring_of : Has P w K mg base 2 "ring_of" ["back", "one", "other"] sp_ring_of) {fa : Addr} {fd : FuncData} (F : Fun K "sided" "sided" s_sided fa fd) : FnOk P w K mg base CX0 4 fa fd ["row"] (liftSp K sp_sided) := by
  have sc : FnScope ["row", "near", "side", "back", "start", "queue", "done", "wagon", "other"] ["row"] (defScope s_sided) := ⟨rfl, rfl, rfl, by decide +kernel, rfl, by decide +kernel, by decide +kernel⟩
  obtain ⟨a_neighbours, fd_neighbours, G_neighbours, m_neighbours, k_neighbours, b_neighbours⟩ := H_neighbours
  obtain ⟨a_ring_of, fd_ring_of, G_ring_of, m_ring_of, k_ring_of, b_ring_of⟩ := H_ring_of
  refine fn_ok F sc ln_sided th_sided (fun cdv A outer s H E hr => ?_)
  have hu := hu_of hr
  exact ⟨_, (qss_cons (qs_set (i := 1) sc.nd rfl (by first | exact Or.inl rfl | exact Or.inr rfl) (qe_call G_neighbours (hr.mono (by decide)) m_neighbours k_neighbours b_neighbours (qa_cons (qv 0) qa_nil)))
  (qss_cons (qs_newK (i := 2) sc.nd rfl (by first | exact Or.inl rfl | exact Or.inr rfl))
  (qss_cons (qs_newK (i := 3) sc.nd rfl (by first | exact Or.inl rfl | exact Or.inr rfl))
  (qss_cons (qs_forL (j := 4) PassesOwn.never rfl sc.nd rfl (by first | exact Or.inl rfl | exact Or.inr rfl) (qf_of (qv 0)) (qss_cons (qs_if (qt_in hu (qv 4) (qv 2)) (qss_one qs_cont) qss_nil)
  (qss_cons (qs_put hu qe_int (qv 4) (qv 2))
  (qss_cons (qs_setL (i := 5) sc.nd rfl (by first | exact Or.inl rfl | exact Or.inr rfl) (ql_lst (qa_cons (qv 4) qa_nil)))
  (qss_cons (qs_set (i := 6) sc.nd rfl (by first | exact Or.inl rfl | exact Or.inr rfl) qe_int)
  (qss_one (qs_while PassesOwn.never (qt_lt (qv 6) (qe_len (qi_v 5) M.len)) (qss_cons (qs_set (i := 7) sc.nd rfl (by first | exact Or.inl rfl | exact Or.inr rfl) (qe_ix (qi_v 5) (qv 6) (fun _ _ => rfl)))
  (qss_cons (qs_set (i := 6) sc.nd rfl (by first | exact Or.inl rfl | exact Or.inr rfl) (qe_add (qv 6) qe_int))
  (qss_one (qs_forL (j := 8) PassesOwn.never rfl sc.nd rfl (by first | exact Or.inl rfl | exact Or.inr rfl) (qf_of (qe_get hu (qv 1) (qv 7) (fun _ _ => rfl))) (qss_one (qs_if (qt_nin hu (qv 8) (qv 2)) (qss_cons (qs_put hu (qe_sub qe_int (qe_get hu (qv 2) (qv 7) (fun _ _ => rfl))) (qv 8) (qv 2))
  (qss_cons (qs_put hu (qv 7) (qv 8) (qv 3))
  (qss_one (qs_app (qv 8) (qv 5))))) (qss_one (qs_if (qt_eq (qe_get hu (qv 2) (qv 8) (fun _ _ => rfl)) (qe_get hu (qv 2) (qv 7) (fun _ _ => rfl))) (qss_one (qs_ret (qe_tup (qa_cons (qv 2) (qa_cons (qe_call G_ring_of (hr.mono (by decide)) m_ring_of k_ring_of b_ring_of (qa_cons (qv 3) (qa_cons (qv 7) (qa_cons (qv 8) qa_nil)))) qa_nil))))) qss_nil)))))))))))))))
  (qss_one (qs_ret (qe_tup (qa_cons (qv 2) (qa_cons qe_non qa_nil)))))))))⟩
theorem ok_two_stubs (M : Bt mg) (H_sided : Has P w K mg base 4 "sided" ["row"] sp_sided) (H_stub_plan : Has P w K mg base 1 "stub_plan" ["row", "stub_of"] sp_stub_plan) {fa : Addr} {fd : FuncData} (F : Fun K "two_stubs" "two_stubs" s_two_stubs fa fd) : FnOk P w K mg base CX0 5 fa fd ["row"] (liftSp K sp_two_stubs) := by
  have sc : FnScope ["row", "found"] ["row"] (defScope s_two_stubs) := ⟨rfl, rfl, rfl, by decide +kernel, rfl, by decide +kernel, by decide +kernel⟩
  obtain ⟨a_sided, fd_sided, G_sided, m_sided, k_sided, b_sided⟩ := H_sided
  obtain ⟨a_stub_plan, fd_stub_plan, G_stub_plan, m_stub_plan, k_stub_plan, b_stub_plan⟩ := H_stub_plan
  refine fn_ok F sc ln_two_stubs th_two_stubs (fun cdv A outer s H E hr => ?_)
  have hu := hu_of hr
  exact ⟨_, (qss_cons (qs_set (i := 1) sc.nd rfl (by first | exact Or.inl rfl | exact Or.inr rfl) (qe_call G_sided (hr.mono (by decide)) m_sided k_sided b_sided (qa_cons (qv 0) qa_nil)))
  (qss_cons (qs_if (qt_notN (qe_ix (qi_v 1) qe_int (fun _ _ => rfl)) qe_non) (qss_one (qs_ret (qe_tup (qa_cons qe_str (qa_cons (qe_ix (qi_v 1) qe_int (fun _ _ => rfl)) qa_nil))))) qss_nil)
  (qss_one (qs_ret (qe_tup (qa_cons qe_str (qa_cons (qe_call G_stub_plan (hr.mono (by decide)) m_stub_plan k_stub_plan b_stub_plan (qa_cons (qv 0) (qa_cons (qe_ix (qi_v 1) qe_int (fun _ _ => rfl)) qa_nil))) qa_nil)))))))⟩
theorem ok__law_cell_at (M : Bt mg)  {fa : Addr} {fd : FuncData} (F : Fun K "_law_cell_at" "_law_cell_at" s__law_cell_at fa fd) : FnOk P w K mg base CX0 1 fa fd ["script", "k"] (liftSp K sp_law_cell_at) := by
  have sc : FnScope ["script", "k"] ["script", "k"] (defScope s__law_cell_at) := ⟨rfl, rfl, rfl, by decide +kernel, rfl, by decide +kernel, by decide +kernel⟩
  refine fn_ok F sc ln_law_cell_at th_law_cell_at (fun cdv A outer s H E hr => ?_)
  have hu := hu_of hr
  exact ⟨_, (qss_cons (qs_if (qt_lt (qv 1) (qe_len (qi_v 0) M.len)) (qss_one (qs_ret (qe_ix (qi_v 0) (qv 1) (fun _ _ => rfl)))) qss_nil)
  (qss_one (qs_ret qe_int)))⟩
theorem ok__law_whole (M : Bt mg)  {fa : Addr} {fd : FuncData} (F : Fun K "_law_whole" "_law_whole" s__law_whole fa fd) : FnOk P w K mg base CX0 1 fa fd ["found"] (liftSp K sp_law_whole) := by
  have sc : FnScope ["found"] ["found"] (defScope s__law_whole) := ⟨rfl, rfl, rfl, by decide +kernel, rfl, by decide +kernel, by decide +kernel⟩
  refine fn_ok F sc ln_law_whole th_law_whole (fun cdv A outer s H E hr => ?_)
  have hu := hu_of hr
  exact ⟨_, (qss_one (qs_ret (qe_and (qe_isi TyIn.int M.isinstance M.int (qv 0)) (qe_one (qe_not (qe_isi TyIn.bool M.isinstance M.bool (qv 0)))))))⟩
theorem ok__law_deeds (M : Bt mg) (H__law_whole : Has P w K mg base 1 "_law_whole" ["found"] sp_law_whole) {fa : Addr} {fd : FuncData} (F : Fun K "_law_deeds" "_law_deeds" s__law_deeds fa fd) : FnOk P w K mg base CX0 2 fa fd ["found"] (liftSp K sp_law_deeds) := by
  have sc : FnScope ["found", "deed"] ["found"] (defScope s__law_deeds) := ⟨rfl, rfl, rfl, by decide +kernel, rfl, by decide +kernel, by decide +kernel⟩
  obtain ⟨a__law_whole, fd__law_whole, G__law_whole, m__law_whole, k__law_whole, b__law_whole⟩ := H__law_whole
  refine fn_ok F sc ln_law_deeds th_law_deeds (fun cdv A outer s H E hr => ?_)
  have hu := hu_of hr
  exact ⟨_, (qss_cons (qs_if (qt_not (qt_val (qe_isi TyIn.list M.isinstance M.list (qv 0)))) (qss_one (qs_ret qe_bl)) qss_nil)
  (qss_cons (qs_forL (j := 1) PassesOwn.never rfl sc.nd rfl (by first | exact Or.inl rfl | exact Or.inr rfl) (qf_of (qv 0)) (qss_cons (qs_if (QW.qt (qw_or (qt_not (qt_val (qe_isi TyIn.tuple M.isinstance M.tuple (qv 1)))) (qw_or1 (qt_ne (qe_len (qi_v 1) M.len) qe_int)))) (qss_one (qs_ret qe_bl)) qss_nil)
  (qss_cons (qs_if (QW.qt (qw_or (qt_not (qt_val (qe_isi TyIn.str M.isinstance M.str (qe_ix (qi_v 1) qe_int (fun _ _ => rfl))))) (qw_or1 (qt_not (qt_val (qe_call G__law_whole (hr.mono (by decide)) m__law_whole k__law_whole b__law_whole (qa_cons (qe_ix (qi_v 1) qe_int (fun _ _ => rfl)) qa_nil))))))) (qss_one (qs_ret qe_bl)) qss_nil)
  (qss_one (qs_if (QW.qt (qw_and (qt_ne (qe_ix (qi_v 1) qe_int (fun _ _ => rfl)) qe_str) (qw_and1 (qt_ne (qe_ix (qi_v 1) qe_int (fun _ _ => rfl)) qe_str)))) (qss_one (qs_ret qe_bl)) qss_nil)))))
  (qss_one (qs_ret qe_bl))))⟩
theorem ok__law_run (M : Bt mg)  {fa : Addr} {fd : FuncData} (F : Fun K "_law_run" "_law_run" s__law_run fa fd) : FnOk P w K mg base CX0 1 fa fd ["kinds", "row", "deeds"] (liftSp K sp_law_run) := by
  have sc : FnScope ["kinds", "row", "deeds", "rest", "tracks", "behind", "deed", "kind"] ["kinds", "row", "deeds"] (defScope s__law_run) := ⟨rfl, rfl, rfl, by decide +kernel, rfl, by decide +kernel, by decide +kernel⟩
  refine fn_ok F sc ln_law_run th_law_run (fun cdv A outer s H E hr => ?_)
  have hu := hu_of hr
  exact ⟨_, (qss_cons (qs_setL (i := 3) sc.nd rfl (by first | exact Or.inl rfl | exact Or.inr rfl) (ql_list (qi_v 1) M.list))
  (qss_cons (qs_setLc2 (i := 4) (qc2_L rfl sc.nd (qf_of (qv 0)) (blkOk_by (N := ["kinds", "row", "deeds", "rest", "tracks", "behind", "deed", "kind"]) (sc := defScope s__law_run) (by decide +kernel)) (fun _ _ _ _ _ => pg_name (i := 7) sc.nd rfl (Or.inl rfl))) rfl rfl (sw_true rfl rfl rfl (by decide +kernel)))
  (qss_cons (qs_setL (i := 5) sc.nd rfl (by first | exact Or.inl rfl | exact Or.inr rfl) (ql_lst qa_nil))
  (qss_cons (qs_forL (j := 6) PassesOwn.never rfl sc.nd rfl (by first | exact Or.inl rfl | exact Or.inr rfl) (qf_of (qv 2)) (qss_cons (qs_if (QW.qt (qw_or (qt_lt (qe_ix (qi_v 6) qe_int (fun _ _ => rfl)) qe_int) (qw_or1 (qt_ge (qe_ix (qi_v 6) qe_int (fun _ _ => rfl)) (qe_len (qi_v 0) M.len))))) (qss_one (qs_ret qe_non)) qss_nil)
  (qss_cons (qs_if (QW.qt (qw_and (qt_eq (qe_ix (qi_v 6) qe_int (fun _ _ => rfl)) qe_str) (qw_and1 (qt_eq (qe_len (qi_v 3) M.len) qe_int)))) (qss_one (qs_ret qe_non)) qss_nil)
  (qss_cons (qs_if (QW.qt (qw_and (qt_eq (qe_ix (qi_v 6) qe_int (fun _ _ => rfl)) qe_str) (qw_and1 (qt_eq (qe_len (qi_of (qe_ix (qi_v 4) (qe_ix (qi_v 6) qe_int (fun _ _ => rfl)) (fun _ _ => rfl))) M.len) qe_int)))) (qss_one (qs_ret qe_non)) qss_nil)
  (qss_one (qs_if (qt_eq (qe_ix (qi_v 6) qe_int (fun _ _ => rfl)) qe_str) (qss_one (qs_app2pop (qe_ix (qi_v 6) qe_int (fun _ _ => rfl)) (qv 4) (qv 3) (fun _ _ => rfl))) (qss_one (qs_if (qt_eq (qe_ix (qi_v 0) (qe_ix (qi_v 6) qe_int (fun _ _ => rfl)) (fun _ _ => rfl)) qe_str) (qss_one (qs_appPop2At (qe_ix (qi_v 6) qe_int (fun _ _ => rfl)) qe_int (qv 5) (qv 4) (fun _ _ => rfl))) (qss_one (qs_appPop2 (qe_ix (qi_v 6) qe_int (fun _ _ => rfl)) (qv 5) (qv 4) (fun _ _ => rfl)))))))))))
  (qss_one (qs_ret (qv 5)))))))⟩
theorem ok__law_turned_back (M : Bt mg) (H__law_cell_at : Has P w K mg base 1 "_law_cell_at" ["script", "k"] sp_law_cell_at) {fa : Addr} {fd : FuncData} (F : Fun K "_law_turned_back" "_law_turned_back" s__law_turned_back fa fd) : FnOk P w K mg base CX0 2 fa fd ["script", "stubs", "bound"] (liftSp K sp_law_turned_back) := by
  have sc : FnScope ["script", "stubs", "bound", "head", "count", "tracks", "left", "entered", "k", "cell", "at", "track", "step"] ["script", "stubs", "bound"] (defScope s__law_turned_back) := ⟨rfl, rfl, rfl, by decide +kernel, rfl, by decide +kernel, by decide +kernel⟩
  obtain ⟨a__law_cell_at, fd__law_cell_at, G__law_cell_at, m__law_cell_at, k__law_cell_at, b__law_cell_at⟩ := H__law_cell_at
  refine fn_ok F sc ln_law_turned_back th_law_turned_back (fun cdv A outer s H E hr => ?_)
  have hu := hu_of hr
  exact ⟨_, (qss_cons (qs_set (i := 3) sc.nd rfl (by first | exact Or.inl rfl | exact Or.inr rfl) (qe_call G__law_cell_at (hr.mono (by decide)) m__law_cell_at k__law_cell_at b__law_cell_at (qa_cons (qv 0) (qa_cons qe_int qa_nil))))
  (qss_cons (qs_set (i := 4) sc.nd rfl (by first | exact Or.inl rfl | exact Or.inr rfl) (qe_mod (qe_fdiv (qv 3) qe_int) qe_int))
  (qss_cut (qs_if (qt_eq (qe_mod (qe_fdiv (qv 3) qe_int) qe_int) qe_int) (qss_one (qs_set (i := 4) sc.nd rfl (by first | exact Or.inl rfl | exact Or.inr rfl) (qe_mod (qe_fdiv (qv 3) qe_int) (qe_add (qv 2) qe_int)))) qss_nil)
  (qss_cons (qs_setLc2 (i := 5) (qc2_R1 rfl sc.nd M.range (qa_cons (qv 1) qa_nil) (blkOk_by (N := ["script", "stubs", "bound", "head", "count", "tracks", "left", "entered", "k", "cell", "at", "track", "step"]) (sc := defScope s__law_turned_back) (by decide +kernel)) (fun _ _ _ _ _ => pg_name (i := 8) sc.nd rfl (Or.inl rfl))) rfl rfl (sw_true rfl rfl rfl (by decide +kernel)))
  (qss_cons (qs_setL (i := 6) sc.nd rfl (by first | exact Or.inl rfl | exact Or.inr rfl) (ql_lst qa_nil))
  (qss_cons (qs_set (i := 7) sc.nd rfl (by first | exact Or.inl rfl | exact Or.inr rfl) qe_int)
  (qss_cons (qs_forR2 (j := 8) PassesOwn.never rfl sc.nd rfl (by first | exact Or.inl rfl | exact Or.inr rfl) M.range (qa_cons qe_int (qa_cons (qe_add qe_int (qe_mul qe_int (qv 4))) qa_nil)) (qss_cons (qs_set (i := 9) sc.nd rfl (by first | exact Or.inl rfl | exact Or.inr rfl) (qe_add (qe_call G__law_cell_at (hr.mono (by decide)) m__law_cell_at k__law_cell_at b__law_cell_at (qa_cons (qv 0) (qa_cons (qv 8) qa_nil))) (qe_mod (qe_mul (qe_add (qe_fdiv (qv 3) qe_int) (qv 8)) qe_int) qe_int)))
  (qss_cons (qs_set (i := 10) sc.nd rfl (by first | exact Or.inl rfl | exact Or.inr rfl) (qe_mod (qe_fdiv (qv 9) qe_int) (qv 1)))
  (qss_one (qs_if (QW.qt (qw_and (qt_eq (qe_mod (qv 9) qe_int) qe_int) (qw_and1 (qt_lt (qv 7) (qv 4))))) (qss_cons (qs_app2 (qv 7) (qv 10) (qv 5) (fun _ _ => rfl))
  (qss_one (qs_set (i := 7) sc.nd rfl (by first | exact Or.inl rfl | exact Or.inr rfl) (qe_add (qv 7) qe_int)))) (qss_one (qs_if (qt_gt (qe_len (qi_of (qe_ix (qi_v 5) (qv 10) (fun _ _ => rfl))) M.len) qe_int) (qss_one (qs_appPop2 (qv 10) (qv 6) (qv 5) (fun _ _ => rfl))) qss_nil)))))))
  (qss_cons (qs_forR2 (j := 8) PassesOwn.never rfl sc.nd rfl (by first | exact Or.inl rfl | exact Or.inr rfl) M.range (qa_cons (qv 7) (qa_cons (qv 4) qa_nil)) (qss_one (qs_app (qv 8) (qv 6))))
  (qss_frz [5] (qss_cons (qs_forL (j := 11) PassesOwn.never rfl sc.nd rfl (by first | exact Or.inl rfl | exact Or.inr rfl) (qf_of (qv 5)) (qss_one (qs_setL (i := 6) sc.nd rfl (by first | exact Or.inl rfl | exact Or.inr rfl) (ql_cat (qx_v 6) (qx_new (ql_rev (qs_v 11)))))))
  (qss_cons (qs_set (i := 12) sc.nd rfl (by first | exact Or.inl rfl | exact Or.inr rfl) (qe_ix (qi_x (qx_new (ql_lst (qa_cons qe_int (qa_cons qe_int (qa_cons qe_int qa_nil)))))) (qe_mod (qe_call G__law_cell_at (hr.mono (by decide)) m__law_cell_at k__law_cell_at b__law_cell_at (qa_cons (qv 0) (qa_cons qe_int qa_nil))) qe_int) (fun _ _ => rfl)))
  (qss_one (qs_ret (qe_ofL (ql_lc (qc_R1 rfl sc.nd M.range (qa_cons (qv 4) qa_nil) (blkOk_by (N := ["script", "stubs", "bound", "head", "count", "tracks", "left", "entered", "k", "cell", "at", "track", "step"]) (sc := defScope s__law_turned_back) (by decide +kernel)) (fun _ _ _ _ _ => pg_name (i := 8) sc.nd rfl (Or.inl rfl)) (fun _ _ _ _ _ => qts_nil) (fun _ _ _ _ _ => (qe_add (qe_mul (qe_index (qx_v 6) (qv 8)) (qv 12)) (qe_mod (qe_fdiv (qe_call G__law_cell_at (hr.mono (by decide)) m__law_cell_at k__law_cell_at b__law_cell_at (qa_cons (qv 0) (qa_cons qe_int qa_nil))) qe_int) (qv 12))))))))))))))))))))⟩
theorem ok__law_sorts (M : Bt mg) (H__law_deeds : Has P w K mg base 2 "_law_deeds" ["found"] sp_law_deeds) (H__law_run : Has P w K mg base 1 "_law_run" ["kinds", "row", "deeds"] sp_law_run) {fa : Addr} {fd : FuncData} (F : Fun K "_law_sorts" "_law_sorts" s__law_sorts fa fd) : FnOk P w K mg base CX0 3 fa fd ["found", "stubs", "row"] (liftSp K sp_law_sorts) := by
  have sc : FnScope ["found", "stubs", "row", "k"] ["found", "stubs", "row"] (defScope s__law_sorts) := ⟨rfl, rfl, rfl, by decide +kernel, rfl, by decide +kernel, by decide +kernel⟩
  obtain ⟨a__law_deeds, fd__law_deeds, G__law_deeds, m__law_deeds, k__law_deeds, b__law_deeds⟩ := H__law_deeds
  obtain ⟨a__law_run, fd__law_run, G__law_run, m__law_run, k__law_run, b__law_run⟩ := H__law_run
  refine fn_ok F sc ln_law_sorts th_law_sorts (fun cdv A outer s H E hr => ?_)
  have hu := hu_of hr
  exact ⟨_, (qss_cons (qs_if (QW.qt (qw_or (qt_not (qt_val (qe_isi TyIn.tuple M.isinstance M.tuple (qv 0)))) (qw_or (qt_ne (qe_len (qi_v 0) M.len) qe_int) (qw_or1 (qt_ne (qe_ix (qi_v 0) qe_int (fun _ _ => rfl)) qe_str))))) (qss_one (qs_ret qe_bl)) qss_nil)
  (qss_cons (qs_if (QW.qt (qw_or (qt_not (qt_val (qe_call G__law_deeds (hr.mono (by decide)) m__law_deeds k__law_deeds b__law_deeds (qa_cons (qe_ix (qi_v 0) qe_int (fun _ _ => rfl)) qa_nil)))) (qw_or1 (qt_gt (qe_len (qi_of (qe_ix (qi_v 0) qe_int (fun _ _ => rfl))) M.len) qe_int)))) (qss_one (qs_ret qe_bl)) qss_nil)
  (qss_one (qs_ret (qe_eqD hr.units (qe_call G__law_run (hr.mono (by decide)) m__law_run k__law_run b__law_run (qa_cons (qe_ofL (ql_lc (qc_R1 rfl sc.nd M.range (qa_cons (qv 1) qa_nil) (blkOk_by (N := ["found", "stubs", "row", "k"]) (sc := defScope s__law_sorts) (by decide +kernel)) (fun _ _ _ _ _ => pg_name (i := 3) sc.nd rfl (Or.inl rfl)) (fun _ _ _ _ _ => qts_nil) (fun _ _ _ _ _ => qe_str)))) (qa_cons (qv 2) (qa_cons (qe_ix (qi_v 0) qe_int (fun _ _ => rfl)) qa_nil)))) (qe_ofL (ql_sorted (qs_v 2) M.sorted)))))))⟩
theorem ok_law (M : Bt mg) (H__law_cell_at : Has P w K mg base 1 "_law_cell_at" ["script", "k"] sp_law_cell_at) (H__law_turned_back : Has P w K mg base 2 "_law_turned_back" ["script", "stubs", "bound"] sp_law_turned_back) (H_one_stub : Has P w K mg base 2 "one_stub" ["row"] sp_one_stub) (H__law_sorts : Has P w K mg base 3 "_law_sorts" ["found", "stubs", "row"] sp_law_sorts) (H_two_stubs : Has P w K mg base 5 "two_stubs" ["row"] sp_two_stubs) {fa : Addr} {fd : FuncData} (F : Fun K "law" "law" s_law fa fd) : FnOk P w K mg base CX0 6 fa fd ["script"] (liftSp K sp_law) := by
  have sc : FnScope ["script", "stubs", "bound", "row"] ["script"] (defScope s_law) := ⟨rfl, rfl, rfl, by decide +kernel, rfl, by decide +kernel, by decide +kernel⟩
  obtain ⟨a__law_cell_at, fd__law_cell_at, G__law_cell_at, m__law_cell_at, k__law_cell_at, b__law_cell_at⟩ := H__law_cell_at
  obtain ⟨a__law_turned_back, fd__law_turned_back, G__law_turned_back, m__law_turned_back, k__law_turned_back, b__law_turned_back⟩ := H__law_turned_back
  obtain ⟨a_one_stub, fd_one_stub, G_one_stub, m_one_stub, k_one_stub, b_one_stub⟩ := H_one_stub
  obtain ⟨a__law_sorts, fd__law_sorts, G__law_sorts, m__law_sorts, k__law_sorts, b__law_sorts⟩ := H__law_sorts
  obtain ⟨a_two_stubs, fd_two_stubs, G_two_stubs, m_two_stubs, k_two_stubs, b_two_stubs⟩ := H_two_stubs
  refine fn_ok F sc ln_law th_law_k11 (fun cdv A outer s H E hr => ?_)
  have hu := hu_of hr
  exact ⟨_, (qss_cons (qs_set (i := 1) sc.nd rfl (by first | exact Or.inl rfl | exact Or.inr rfl) (qe_add qe_int (qe_mod (qe_call G__law_cell_at (hr.mono (by decide)) m__law_cell_at k__law_cell_at b__law_cell_at (qa_cons (qv 0) (qa_cons qe_int qa_nil))) qe_int)))
  (qss_cons (qs_set (i := 2) sc.nd rfl (by first | exact Or.inl rfl | exact Or.inr rfl) qe_int)
  (qss_cut (qs_if (qt_eq (qe_mod (qe_fdiv (qe_call G__law_cell_at (hr.mono (by decide)) m__law_cell_at k__law_cell_at b__law_cell_at (qa_cons (qv 0) (qa_cons qe_int qa_nil))) qe_int) qe_int) qe_int) (qss_one (qs_set (i := 2) sc.nd rfl (by first | exact Or.inl rfl | exact Or.inr rfl) qe_int)) qss_nil)
  (qss_cons (qs_set (i := 3) sc.nd rfl (by first | exact Or.inl rfl | exact Or.inr rfl) (qe_call G__law_turned_back (hr.mono (by decide)) m__law_turned_back k__law_turned_back b__law_turned_back (qa_cons (qv 0) (qa_cons (qv 1) (qa_cons (qv 2) qa_nil)))))
  (qss_cons (qs_if (QW.qt (qw_and (qt_eq (qv 1) qe_int) (qw_and1 (qt_not (qt_val (qe_call G__law_sorts (hr.mono (by decide)) m__law_sorts k__law_sorts b__law_sorts (qa_cons (qe_call G_one_stub (hr.mono (by decide)) m_one_stub k_one_stub b_one_stub (qa_cons (qe_ofL (ql_list (qi_v 3) M.list)) qa_nil)) (qa_cons qe_int (qa_cons (qv 3) qa_nil))))))))) (qss_one (qs_ret qe_bl)) qss_nil)
  (qss_one (qs_ret (qe_call G__law_sorts (hr.mono (by decide)) m__law_sorts k__law_sorts b__law_sorts (qa_cons (qe_call G_two_stubs (hr.mono (by decide)) m_two_stubs k_two_stubs b_two_stubs (qa_cons (qe_ofL (ql_list (qi_v 3) M.list)) qa_nil)) (qa_cons qe_int (qa_cons (qv 3) qa_nil)))))))))))⟩
end
theorem all_mk_ {l : PySem.W.OpenLaw} {w : World} {K : PySem.W.Frag} {h : Heap} {mg : Str → Option Value} {fa f1 f2 f3 f4 f5 f6 f7 f8 f9 f10 f11 f12 f13 f14 f15 f16 : Addr} (X : K.In h) (G : h.Ns mainGlobals mg) (hfa : mg "law" = some (.ref fa))
    {od1 an1 od2 an2 od3 an3 od4 an4 od5 an5 od6 an6 od7 an7 od8 an8 od9 an9 od10 an10 od11 an11 od12 an12 od13 an13 od14 an14 od15 an15 od16 an16 : Option Addr} {sl1 sl2 sl3 sl4 sl5 sl6 sl7 sl8 sl9 sl10 sl11 sl12 sl13 sl14 sl15 sl16 : Array (Option Value)} {oc1 kV1 dc1 pm1 cd1 ct1 oc2 kV2 dc2 pm2 cd2 ct2 oc3 kV3 dc3 pm3 cd3 ct3 oc4 kV4 dc4 pm4 cd4 ct4 oc5 kV5 dc5 pm5 cd5 ct5 oc6 kV6 dc6 pm6 cd6 ct6 oc7 kV7 dc7 pm7 cd7 ct7 oc8 kV8 dc8 pm8 cd8 ct8 oc9 kV9 dc9 pm9 cd9 ct9 oc10 kV10 dc10 pm10 cd10 ct10 oc11 kV11 dc11 pm11 cd11 ct11 oc12 kV12 dc12 pm12 cd12 ct12 oc13 kV13 dc13 pm13 cd13 ct13 oc14 kV14 dc14 pm14 cd14 ct14 oc15 kV15 dc15 pm15 cd15 ct15 oc16 kV16 dc16 pm16 cd16 ct16 : Value}
    (a1 : PySem.W.nsIn K mainGlobals "lesser_behind" = some (some (.ref f1))) (l1 : K.lookup f1 = some ⟨oc1, od1, .func (PySem.W.fnOf "lesser_behind" "lesser_behind" (defArgs s_lesser_behind) (defBody s_lesser_behind) (defScope s_lesser_behind) .none kV1 dc1 pm1 an1 cd1 ct1), sl1⟩) (c1 : PySem.W.codeIn K cd1 "lesser_behind" = true) (k1 : PySem.W.keepIn K (.ref f1) = true)
    (a2 : PySem.W.nsIn K mainGlobals "crossing" = some (some (.ref f2))) (l2 : K.lookup f2 = some ⟨oc2, od2, .func (PySem.W.fnOf "crossing" "crossing" (defArgs s_crossing) (defBody s_crossing) (defScope s_crossing) .none kV2 dc2 pm2 an2 cd2 ct2), sl2⟩) (c2 : PySem.W.codeIn K cd2 "crossing" = true) (k2 : PySem.W.keepIn K (.ref f2) = true)
    (a3 : PySem.W.nsIn K mainGlobals "stub_plan" = some (some (.ref f3))) (l3 : K.lookup f3 = some ⟨oc3, od3, .func (PySem.W.fnOf "stub_plan" "stub_plan" (defArgs s_stub_plan) (defBody s_stub_plan) (defScope s_stub_plan) .none kV3 dc3 pm3 an3 cd3 ct3), sl3⟩) (c3 : PySem.W.codeIn K cd3 "stub_plan" = true) (k3 : PySem.W.keepIn K (.ref f3) = true)
    (a4 : PySem.W.nsIn K mainGlobals "one_stub" = some (some (.ref f4))) (l4 : K.lookup f4 = some ⟨oc4, od4, .func (PySem.W.fnOf "one_stub" "one_stub" (defArgs s_one_stub) (defBody s_one_stub) (defScope s_one_stub) .none kV4 dc4 pm4 an4 cd4 ct4), sl4⟩) (c4 : PySem.W.codeIn K cd4 "one_stub" = true) (k4 : PySem.W.keepIn K (.ref f4) = true)
    (a5 : PySem.W.nsIn K mainGlobals "neighbours" = some (some (.ref f5))) (l5 : K.lookup f5 = some ⟨oc5, od5, .func (PySem.W.fnOf "neighbours" "neighbours" (defArgs s_neighbours) (defBody s_neighbours) (defScope s_neighbours) .none kV5 dc5 pm5 an5 cd5 ct5), sl5⟩) (c5 : PySem.W.codeIn K cd5 "neighbours" = true) (k5 : PySem.W.keepIn K (.ref f5) = true)
    (a6 : PySem.W.nsIn K mainGlobals "way_up" = some (some (.ref f6))) (l6 : K.lookup f6 = some ⟨oc6, od6, .func (PySem.W.fnOf "way_up" "way_up" (defArgs s_way_up) (defBody s_way_up) (defScope s_way_up) .none kV6 dc6 pm6 an6 cd6 ct6), sl6⟩) (c6 : PySem.W.codeIn K cd6 "way_up" = true) (k6 : PySem.W.keepIn K (.ref f6) = true)
    (a7 : PySem.W.nsIn K mainGlobals "ring_of" = some (some (.ref f7))) (l7 : K.lookup f7 = some ⟨oc7, od7, .func (PySem.W.fnOf "ring_of" "ring_of" (defArgs s_ring_of) (defBody s_ring_of) (defScope s_ring_of) .none kV7 dc7 pm7 an7 cd7 ct7), sl7⟩) (c7 : PySem.W.codeIn K cd7 "ring_of" = true) (k7 : PySem.W.keepIn K (.ref f7) = true)
    (a8 : PySem.W.nsIn K mainGlobals "sided" = some (some (.ref f8))) (l8 : K.lookup f8 = some ⟨oc8, od8, .func (PySem.W.fnOf "sided" "sided" (defArgs s_sided) (defBody s_sided) (defScope s_sided) .none kV8 dc8 pm8 an8 cd8 ct8), sl8⟩) (c8 : PySem.W.codeIn K cd8 "sided" = true) (k8 : PySem.W.keepIn K (.ref f8) = true)
    (a9 : PySem.W.nsIn K mainGlobals "two_stubs" = some (some (.ref f9))) (l9 : K.lookup f9 = some ⟨oc9, od9, .func (PySem.W.fnOf "two_stubs" "two_stubs" (defArgs s_two_stubs) (defBody s_two_stubs) (defScope s_two_stubs) .none kV9 dc9 pm9 an9 cd9 ct9), sl9⟩) (c9 : PySem.W.codeIn K cd9 "two_stubs" = true) (k9 : PySem.W.keepIn K (.ref f9) = true)
    (a10 : PySem.W.nsIn K mainGlobals "_law_cell_at" = some (some (.ref f10))) (l10 : K.lookup f10 = some ⟨oc10, od10, .func (PySem.W.fnOf "_law_cell_at" "_law_cell_at" (defArgs s__law_cell_at) (defBody s__law_cell_at) (defScope s__law_cell_at) .none kV10 dc10 pm10 an10 cd10 ct10), sl10⟩) (c10 : PySem.W.codeIn K cd10 "_law_cell_at" = true) (k10 : PySem.W.keepIn K (.ref f10) = true)
    (a11 : PySem.W.nsIn K mainGlobals "_law_whole" = some (some (.ref f11))) (l11 : K.lookup f11 = some ⟨oc11, od11, .func (PySem.W.fnOf "_law_whole" "_law_whole" (defArgs s__law_whole) (defBody s__law_whole) (defScope s__law_whole) .none kV11 dc11 pm11 an11 cd11 ct11), sl11⟩) (c11 : PySem.W.codeIn K cd11 "_law_whole" = true) (k11 : PySem.W.keepIn K (.ref f11) = true)
    (a12 : PySem.W.nsIn K mainGlobals "_law_deeds" = some (some (.ref f12))) (l12 : K.lookup f12 = some ⟨oc12, od12, .func (PySem.W.fnOf "_law_deeds" "_law_deeds" (defArgs s__law_deeds) (defBody s__law_deeds) (defScope s__law_deeds) .none kV12 dc12 pm12 an12 cd12 ct12), sl12⟩) (c12 : PySem.W.codeIn K cd12 "_law_deeds" = true) (k12 : PySem.W.keepIn K (.ref f12) = true)
    (a13 : PySem.W.nsIn K mainGlobals "_law_run" = some (some (.ref f13))) (l13 : K.lookup f13 = some ⟨oc13, od13, .func (PySem.W.fnOf "_law_run" "_law_run" (defArgs s__law_run) (defBody s__law_run) (defScope s__law_run) .none kV13 dc13 pm13 an13 cd13 ct13), sl13⟩) (c13 : PySem.W.codeIn K cd13 "_law_run" = true) (k13 : PySem.W.keepIn K (.ref f13) = true)
    (a14 : PySem.W.nsIn K mainGlobals "_law_turned_back" = some (some (.ref f14))) (l14 : K.lookup f14 = some ⟨oc14, od14, .func (PySem.W.fnOf "_law_turned_back" "_law_turned_back" (defArgs s__law_turned_back) (defBody s__law_turned_back) (defScope s__law_turned_back) .none kV14 dc14 pm14 an14 cd14 ct14), sl14⟩) (c14 : PySem.W.codeIn K cd14 "_law_turned_back" = true) (k14 : PySem.W.keepIn K (.ref f14) = true)
    (a15 : PySem.W.nsIn K mainGlobals "_law_sorts" = some (some (.ref f15))) (l15 : K.lookup f15 = some ⟨oc15, od15, .func (PySem.W.fnOf "_law_sorts" "_law_sorts" (defArgs s__law_sorts) (defBody s__law_sorts) (defScope s__law_sorts) .none kV15 dc15 pm15 an15 cd15 ct15), sl15⟩) (c15 : PySem.W.codeIn K cd15 "_law_sorts" = true) (k15 : PySem.W.keepIn K (.ref f15) = true)
    (a16 : PySem.W.nsIn K mainGlobals "law" = some (some (.ref f16))) (l16 : K.lookup f16 = some ⟨oc16, od16, .func (PySem.W.fnOf "law" "law" (defArgs s_law) (defBody s_law) (defScope s_law) .none kV16 dc16 pm16 an16 cd16 ct16), sl16⟩) (c16 : PySem.W.codeIn K cd16 "law" = true) (k16 : PySem.W.keepIn K (.ref f16) = true)
    (z0 : PySem.W.nsIn K mainGlobals "len" = some none) (z1 : PySem.W.nsIn K mainGlobals "range" = some none) (z2 : PySem.W.nsIn K mainGlobals "list" = some none) (z3 : PySem.W.nsIn K mainGlobals "sorted" = some none) (z4 : PySem.W.nsIn K mainGlobals "min" = some none) (z5 : PySem.W.nsIn K mainGlobals "max" = some none) (z6 : PySem.W.nsIn K mainGlobals "isinstance" = some none) (z7 : PySem.W.nsIn K mainGlobals "int" = some none) (z8 : PySem.W.nsIn K mainGlobals "bool" = some none) (z9 : PySem.W.nsIn K mainGlobals "tuple" = some none) (z10 : PySem.W.nsIn K mainGlobals "str" = some none) (z11 : PySem.W.nsIn K mainGlobals "all" = some none) (z12 : PySem.W.nsIn K mainGlobals "set" = some none)
    : ∃ fd : FuncData, (∀ (s : Shared) (v : Value), BindsTo s fd ⟨[v], []⟩ [("script", v)]) ∧ ∀ base : Heap, K.In base → base.Ns mainGlobals mg → FnOk l.prog w K mg base CX0 6 fa fd ["script"] (liftSp K sp_law) := by
  have e := hfa.symm.trans (PySem.W.mg_of X G a16)
  cases e
  have M : Bt mg := ⟨PySem.W.mg_none_of X G z0, PySem.W.mg_none_of X G z1, PySem.W.mg_none_of X G z2, PySem.W.mg_none_of X G z3, PySem.W.mg_none_of X G z4, PySem.W.mg_none_of X G z5, PySem.W.mg_none_of X G z6, PySem.W.mg_none_of X G z7, PySem.W.mg_none_of X G z8, PySem.W.mg_none_of X G z9, PySem.W.mg_none_of X G z10, PySem.W.mg_none_of X G z11, PySem.W.mg_none_of X G z12⟩
  have F1 := fun_mk (st := s_lesser_behind) l1 c1 k1
  have b1 := F1.binds (ps := ["row", "place", "wagon"]) fun _ _ _ _ _ _ us hl => match us, hl with | [_, _, _], _ => rfl
  have F2 := fun_mk (st := s_crossing) l2 c2 k2
  have b2 := F2.binds (ps := ["row"]) fun _ _ _ _ _ _ us hl => match us, hl with | [_], _ => rfl
  have F3 := fun_mk (st := s_stub_plan) l3 c3 k3
  have b3 := F3.binds (ps := ["row", "stub_of"]) fun _ _ _ _ _ _ us hl => match us, hl with | [_, _], _ => rfl
  have F4 := fun_mk (st := s_one_stub) l4 c4 k4
  have b4 := F4.binds (ps := ["row"]) fun _ _ _ _ _ _ us hl => match us, hl with | [_], _ => rfl
  have F5 := fun_mk (st := s_neighbours) l5 c5 k5
  have b5 := F5.binds (ps := ["row"]) fun _ _ _ _ _ _ us hl => match us, hl with | [_], _ => rfl
  have F6 := fun_mk (st := s_way_up) l6 c6 k6
  have b6 := F6.binds (ps := ["back", "wagon"]) fun _ _ _ _ _ _ us hl => match us, hl with | [_, _], _ => rfl
  have F7 := fun_mk (st := s_ring_of) l7 c7 k7
  have b7 := F7.binds (ps := ["back", "one", "other"]) fun _ _ _ _ _ _ us hl => match us, hl with | [_, _, _], _ => rfl
  have F8 := fun_mk (st := s_sided) l8 c8 k8
  have b8 := F8.binds (ps := ["row"]) fun _ _ _ _ _ _ us hl => match us, hl with | [_], _ => rfl
  have F9 := fun_mk (st := s_two_stubs) l9 c9 k9
  have b9 := F9.binds (ps := ["row"]) fun _ _ _ _ _ _ us hl => match us, hl with | [_], _ => rfl
  have F10 := fun_mk (st := s__law_cell_at) l10 c10 k10
  have b10 := F10.binds (ps := ["script", "k"]) fun _ _ _ _ _ _ us hl => match us, hl with | [_, _], _ => rfl
  have F11 := fun_mk (st := s__law_whole) l11 c11 k11
  have b11 := F11.binds (ps := ["found"]) fun _ _ _ _ _ _ us hl => match us, hl with | [_], _ => rfl
  have F12 := fun_mk (st := s__law_deeds) l12 c12 k12
  have b12 := F12.binds (ps := ["found"]) fun _ _ _ _ _ _ us hl => match us, hl with | [_], _ => rfl
  have F13 := fun_mk (st := s__law_run) l13 c13 k13
  have b13 := F13.binds (ps := ["kinds", "row", "deeds"]) fun _ _ _ _ _ _ us hl => match us, hl with | [_, _, _], _ => rfl
  have F14 := fun_mk (st := s__law_turned_back) l14 c14 k14
  have b14 := F14.binds (ps := ["script", "stubs", "bound"]) fun _ _ _ _ _ _ us hl => match us, hl with | [_, _, _], _ => rfl
  have F15 := fun_mk (st := s__law_sorts) l15 c15 k15
  have b15 := F15.binds (ps := ["found", "stubs", "row"]) fun _ _ _ _ _ _ us hl => match us, hl with | [_, _, _], _ => rfl
  have F16 := fun_mk (st := s_law) l16 c16 k16
  refine ⟨PySem.W.fnOf "law" "law" (defArgs s_law) (defBody s_law) (defScope s_law) .none kV16 dc16 pm16 an16 cd16 ct16, fun s v => .of_eq rfl, fun base _ _ => ?_⟩
  have h1 := has_mk F1 (ok_lesser_behind (P := l.prog) (w := w) (base := base) M  F1) (PySem.W.mg_of X G a1) b1
  have h2 := has_mk F2 (ok_crossing (P := l.prog) (w := w) (base := base) M h1 F2) (PySem.W.mg_of X G a2) b2
  have h3 := has_mk F3 (ok_stub_plan (P := l.prog) (w := w) (base := base) M  F3) (PySem.W.mg_of X G a3) b3
  have h4 := has_mk F4 (ok_one_stub (P := l.prog) (w := w) (base := base) M h1 h3 F4) (PySem.W.mg_of X G a4) b4
  have h5 := has_mk F5 (ok_neighbours (P := l.prog) (w := w) (base := base) M h2 F5) (PySem.W.mg_of X G a5) b5
  have h6 := has_mk F6 (ok_way_up (P := l.prog) (w := w) (base := base) M  F6) (PySem.W.mg_of X G a6) b6
  have h7 := has_mk F7 (ok_ring_of (P := l.prog) (w := w) (base := base) M h6 F7) (PySem.W.mg_of X G a7) b7
  have h8 := has_mk F8 (ok_sided (P := l.prog) (w := w) (base := base) M h5 h7 F8) (PySem.W.mg_of X G a8) b8
  have h9 := has_mk F9 (ok_two_stubs (P := l.prog) (w := w) (base := base) M h8 h3 F9) (PySem.W.mg_of X G a9) b9
  have h10 := has_mk F10 (ok__law_cell_at (P := l.prog) (w := w) (base := base) M  F10) (PySem.W.mg_of X G a10) b10
  have h11 := has_mk F11 (ok__law_whole (P := l.prog) (w := w) (base := base) M  F11) (PySem.W.mg_of X G a11) b11
  have h12 := has_mk F12 (ok__law_deeds (P := l.prog) (w := w) (base := base) M h11 F12) (PySem.W.mg_of X G a12) b12
  have h13 := has_mk F13 (ok__law_run (P := l.prog) (w := w) (base := base) M  F13) (PySem.W.mg_of X G a13) b13
  have h14 := has_mk F14 (ok__law_turned_back (P := l.prog) (w := w) (base := base) M h10 F14) (PySem.W.mg_of X G a14) b14
  have h15 := has_mk F15 (ok__law_sorts (P := l.prog) (w := w) (base := base) M h12 h13 F15) (PySem.W.mg_of X G a15) b15
  exact ok_law M h10 h14 h4 h15 h9 F16
end DL
open PySem PySem.W PyProof.Rows
set_option maxRecDepth 100000 in
set_option maxHeartbeats 0 in
theorem PySem.Challenge.cw_shuntyard_k11_what_two_stubs_can_sort_holds : PySem.Challenge.rw_shuntyard_k11_what_two_stubs_can_sort.Holds := by
  w_on; o_law; k_head; (case hw => w_witness2)
  k_fill
  refine DL.walk_law (l := PySem.Challenge.rw_shuntyard_k11_what_two_stubs_can_sort) (k := 6) rfl ?hdf (fun w h Y => PySem.W.kIn_of Y) ?F ?hr
  case hdf => rfl
  case hr => exact ⟨rfl, by decide, by decide⟩
  case F =>
    intro w mg fa h KX G hmg
    refine' DL.all_mk_ KX G hmg ?a1 ?l1 ?c1 ?k1 ?a2 ?l2 ?c2 ?k2 ?a3 ?l3 ?c3 ?k3 ?a4 ?l4 ?c4 ?k4 ?a5 ?l5 ?c5 ?k5 ?a6 ?l6 ?c6 ?k6 ?a7 ?l7 ?c7 ?k7 ?a8 ?l8 ?c8 ?k8 ?a9 ?l9 ?c9 ?k9 ?a10 ?l10 ?c10 ?k10 ?a11 ?l11 ?c11 ?k11 ?a12 ?l12 ?c12 ?k12 ?a13 ?l13 ?c13 ?k13 ?a14 ?l14 ?c14 ?k14 ?a15 ?l15 ?c15 ?k15 ?a16 ?l16 ?c16 ?k16 ?z0 ?z1 ?z2 ?z3 ?z4 ?z5 ?z6 ?z7 ?z8 ?z9 ?z10 ?z11 ?z12
    (case a1 => k_is)
    (case l1 => k_is)
    (case c1 => k_is)
    (case k1 => k_is)
    (case a2 => k_is)
    (case l2 => k_is)
    (case c2 => k_is)
    (case k2 => k_is)
    (case a3 => k_is)
    (case l3 => k_is)
    (case c3 => k_is)
    (case k3 => k_is)
    (case a4 => k_is)
    (case l4 => k_is)
    (case c4 => k_is)
    (case k4 => k_is)
    (case a5 => k_is)
    (case l5 => k_is)
    (case c5 => k_is)
    (case k5 => k_is)
    (case a6 => k_is)
    (case l6 => k_is)
    (case c6 => k_is)
    (case k6 => k_is)
    (case a7 => k_is)
    (case l7 => k_is)
    (case c7 => k_is)
    (case k7 => k_is)
    (case a8 => k_is)
    (case l8 => k_is)
    (case c8 => k_is)
    (case k8 => k_is)
    (case a9 => k_is)
    (case l9 => k_is)
    (case c9 => k_is)
    (case k9 => k_is)
    (case a10 => k_is)
    (case l10 => k_is)
    (case c10 => k_is)
    (case k10 => k_is)
    (case a11 => k_is)
    (case l11 => k_is)
    (case c11 => k_is)
    (case k11 => k_is)
    (case a12 => k_is)
    (case l12 => k_is)
    (case c12 => k_is)
    (case k12 => k_is)
    (case a13 => k_is)
    (case l13 => k_is)
    (case c13 => k_is)
    (case k13 => k_is)
    (case a14 => k_is)
    (case l14 => k_is)
    (case c14 => k_is)
    (case k14 => k_is)
    (case a15 => k_is)
    (case l15 => k_is)
    (case c15 => k_is)
    (case k15 => k_is)
    (case a16 => k_is)
    (case l16 => k_is)
    (case c16 => k_is)
    (case k16 => k_is)
    (case z0 => k_is)
    (case z1 => k_is)
    (case z2 => k_is)
    (case z3 => k_is)
    (case z4 => k_is)
    (case z5 => k_is)
    (case z6 => k_is)
    (case z7 => k_is)
    (case z8 => k_is)
    (case z9 => k_is)
    (case z10 => k_is)
    (case z11 => k_is)
    (case z12 => k_is)

